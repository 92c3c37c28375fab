import PyProof.Rows.All
import Wide.All
import OpenK.AllK
import Wide.FinOn
import KE.KeyNested
import HandS.List
import HandS.Text
import HandS.ForExc
import HandS.More
import HandS.Flow
import HandS.Style
import HandS.Star
import HandS.TryMany
import HandS.ExcInit
import HandS.ExcField
import HandS.CallSlots
import HandS.IsInst
import HandS.Wide
import HandS.Comp
import HandS.Iter
import HandS.Conv
import HandS.Head2
import HandS.HeadHook4
import HandS.HeadWalk
import KE.DataEq
import HandS.TupMul
import HandS.Defaults
import HandS.HeadEnd
import HandS.WordsExc
import KE.KStateDown
import KE.DataCmp
import PySem.Challenge.RW_treestacks_k40_questions_and_claims_by_f
set_option Elab.async false
set_option linter.all false
section
set_option maxRecDepth 100000
namespace PS
open PySem

inductive T where
  | non | bl (b : Bool) | int (i : Int) | str (x : Str)
  | tup (xs : List T) | lst (xs : List T) | dct (tk : Bool) (ks vs : List T)
  | ref (n : Nat) | clo (f : Nat) (caps : List T) | exn (c : Nat) (v : T)
  deriving Inhabited
inductive Cell where
  | lst (xs : List T) | dct (tk : Bool) (ks vs : List T) | obj (c : Nat) (fs : List (Nat × T))
abbrev AH := List Cell
inductive R (α : Type) where
  | ok (a : α) (h : AH) | exc (c : Nat) (v : T) (h : AH) | stuck
def R.bind {α β : Type} (r : R α) (f : α → AH → R β) : R β := match r with
  | .ok a h => f a h
  | .exc c v h => .exc c v h
  | .stuck => .stuck
@[simp] theorem R.bind_ok {α β : Type} (a : α) (h : AH) (f : α → AH → R β) : (R.ok a h).bind f = f a h := rfl
@[simp] theorem R.bind_exc {α β : Type} (c : Nat) (v : T) (h : AH) (f : α → AH → R β) : (R.exc c v h : R α).bind f = .exc c v h := rfl
@[simp] theorem R.bind_stuck {α β : Type} (f : α → AH → R β) : (R.stuck : R α).bind f = .stuck := rfl
def R.toS {α : Type} {β : Type} (r : R α) (ex : Nat → T → AH → β) (st : β) (f : α → AH → β) : β := match r with
  | .ok a h => f a h
  | .exc c v h => ex c v h
  | .stuck => st
@[simp] theorem R.toS_ok {α β : Type} (a : α) (h : AH) (e : Nat → T → AH → β) (st : β) (f : α → AH → β) : (R.ok a h).toS e st f = f a h := rfl
@[simp] theorem R.toS_exc {α β : Type} (c : Nat) (v : T) (h : AH) (e : Nat → T → AH → β) (st : β) (f : α → AH → β) : (R.exc c v h : R α).toS e st f = e c v h := rfl
@[simp] theorem R.toS_stuck {α β : Type} (e : Nat → T → AH → β) (st : β) (f : α → AH → β) : (R.stuck : R α).toS e st f = st := rfl
def R.of {α : Type} (o : Option α) (h : AH) : R α := match o with
  | some a => .ok a h
  | none => .stuck
@[simp] theorem R.of_some {α : Type} (a : α) (h : AH) : R.of (some a) h = .ok a h := rfl
@[simp] theorem R.of_none {α : Type} (h : AH) : R.of (none : Option α) h = .stuck := rfl
abbrev Env := List (Option T)
inductive RS where
  | next (e : Env) (h : AH) | brk (e : Env) (h : AH) | cont (e : Env) (h : AH) | ret (m : Option Nat) (t : T) (h : AH) | exc (c : Nat) (v : T) (e : Env) (h : AH) | stuck

mutual
def T.dat : T → Option PyData
  | .non => some .none
  | .bl b => some (.bool b)
  | .int i => some (.int i)
  | .str x => some (.str x)
  | .tup xs => (T.datL xs).map .tuple
  | .lst xs => (T.datL xs).map .list
  | .dct _ _ _ => none
  | .ref _ => none
  | .clo _ _ => none
  | .exn _ _ => none
def T.datL : List T → Option (List PyData)
  | [] => some []
  | x :: xs => match T.dat x, T.datL xs with
    | some d, some ds => some (d :: ds)
    | _, _ => none
end
mutual
def T.key : T → Option NestedKey
  | .non => some .none
  | .bl b => some (.num (if b = true then 1 else 0))
  | .int i => some (.num i)
  | .str x => some (.text x)
  | .tup xs => (T.keyL xs).map .tup
  | .lst _ => none
  | .dct _ _ _ => none
  | .ref _ => none
  | .clo _ _ => none
  | .exn _ _ => none
def T.keyL : List T → Option (List NestedKey)
  | [] => some []
  | x :: xs => match T.key x, T.keyL xs with
    | some d, some ds => some (d :: ds)
    | _, _ => none
end
mutual
def T.und (n : Nat) : T → Bool
  | .non => true
  | .bl _ => true
  | .int _ => true
  | .str _ => true
  | .tup xs => T.undL n xs
  | .lst xs => T.undL n xs
  | .dct _ ks vs => T.undL n ks && T.undL n vs
  | .ref m => decide (m < n)
  | .clo _ xs => T.undL n xs
  | .exn _ _ => false
def T.undL (n : Nat) : List T → Bool
  | [] => true
  | x :: xs => T.und n x && T.undL n xs
end
def Cell.und (n : Nat) : Cell → Bool
  | .lst xs => T.undL n xs
  | .dct _ ks vs => T.undL n ks && T.undL n vs
  | .obj _ fs => T.undL n (fs.map (·.2))

def snap (h : AH) : T → T
  | .ref n => match h[n]? with
    | some (.lst xs) => .lst xs
    | some (.dct tk ks vs) => .dct tk ks vs
    | _ => .ref n
  | t => t
def seqV (h : AH) (t : T) : Option (List T) := match snap h t with
  | .tup xs => some xs
  | .lst xs => some xs
  | _ => none
def isList (h : AH) (t : T) : Option (List T) := match snap h t with
  | .lst xs => some xs
  | _ => none
def dctV (h : AH) (t : T) : Option (Bool × List T × List T) := match snap h t with
  | .dct tk ks vs => some (tk, ks, vs)
  | _ => none
def chars (x : Str) : List T := x.cps.toList.map fun c => .str ⟨#[c]⟩
def iterV (h : AH) (t : T) : Option (List T) := match snap h t with
  | .tup xs => some xs
  | .lst xs => some xs
  | .str x => some (chars x)
  | _ => none
def watchV : T → Option Nat
  | .ref n => some n
  | _ => none
def truT (h : AH) (t : T) : Option Bool := match snap h t with
  | .non => some false
  | .bl b => some b
  | .int i => some (i != 0)
  | .str x => if x.length ≤ sizeLine then some (x.length != 0) else none
  | .tup xs => some (!xs.isEmpty)
  | .lst xs => some (!xs.isEmpty)
  | _ => none
def deepest : Nat := 180
def eqD (d e : PyData) : Option Bool := if min d.depth e.depth ≤ deepest then some (PyData.eqv d e) else none
def eqT (a b : T) : Option Bool := match a.dat, b.dat with
  | some d, some e => eqD d e
  | _, _ => none
def inL (x : T) (xs : List T) : Option Bool := match x.dat, T.datL xs with
  | some d, some es => if min (PyData.depthAll es) d.depth ≤ deepest then some (es.any fun e => PyData.eqv e d) else none
  | _, _ => none
def findK (k : NestedKey) : List T → Option Nat
  | [] => none
  | x :: xs => if x.key = some k then some 0 else (findK k xs).map (· + 1)
def setK (k : NestedKey) (t : T) : List T → List T → List T
  | x :: xs, v :: vs => (if x.key = some k then t else v) :: setK k t xs vs
  | _, vs => vs
def flatK : T → Bool
  | .int _ => true
  | .str _ => true
  | _ => false
def keyOk (tk : Bool) (t : T) : Option NestedKey := match tk, t with
  | false, .int i => some (.num i)
  | false, .str x => some (.text x)
  | true, .tup xs => if xs.all flatK = true then T.key (.tup xs) else none
  | _, _ => none
def fresh (m : Bool) (xs : List T) (h : AH) : R T := if xs.length ≤ sizeLine then (if m = true then .ok (.ref h.length) (h ++ [.lst xs]) else .ok (.lst xs) h) else .stuck

inductive Bo where | add | sub | mul | mod | fdiv | pow
inductive Co where | eq | ne | lt | le | gt | ge | is | isnot | isin | notin
inductive Ty where | int | bool | str | tuple | list | cls (c : Nat)
inductive Bf where | len | abs | int | str | list | tuple | sum | max | min | all | any | max2 | min2
inductive Bm where | append | extend | pop | pop0 | insert | index | count | get | setdefault

def binT (m : Bool) (o : Bo) (x y : T) (h : AH) : R T := match o with
  | .add => match x, y with
    | .int i, .int j => .ok (.int (i + j)) h
    | .str a, .str b => if a.length + b.length ≤ sizeLine then .ok (.str (a ++ b)) h else .stuck
    | .tup xs, .tup ys => if xs.length + ys.length ≤ sizeLine then .ok (.tup (xs ++ ys)) h else .stuck
    | x, y => match isList h x, isList h y with
      | some xs, some ys => fresh m (xs ++ ys) h
      | _, _ => .stuck
  | .sub => match x, y with
    | .int i, .int j => .ok (.int (i - j)) h
    | _, _ => .stuck
  | .mul => match x, y with
    | .int i, .int j => if (-(2 ^ 64) < i ∧ i < 2 ^ 64) ∨ (-(2 ^ 64) < j ∧ j < 2 ^ 64) then .ok (.int (i * j)) h else .stuck
    | .tup xs, .int j => if xs.isEmpty = false ∧ 2 ≤ j ∧ j ≤ 1000 ∧ xs.length ≤ 1000 then .ok (.tup (List.replicate j.toNat xs).flatten) h else .stuck
    | _, _ => .stuck
  | .mod => match x, y with
    | .int i, .int j => if 0 < j then .ok (.int (i % j)) h else .stuck
    | _, _ => .stuck
  | .fdiv => match x, y with
    | .int i, .int j => if 0 < j ∧ j < 1073741824 then .ok (.int (i / j)) h else .stuck
    | _, _ => .stuck
  | .pow => match x, y with
    | .int i, .int j => if 0 ≤ j ∧ j ≤ 1000000 ∧ i.natAbs < 2 ^ 64 then .ok (.int (i ^ j.toNat)) h else .stuck
    | _, _ => .stuck
def subStr (a b : Str) : Bool := !(Builtin.Str.occurrences b a 0 b.length 1).isEmpty
def inT (h : AH) (x y : T) : Option Bool := match snap h y with
  | .tup xs => inL (snap h x) xs
  | .lst xs => inL (snap h x) xs
  | .dct tk ks _ => match keyOk tk x with
    | some k => some (findK k ks).isSome
    | none => none
  | .str b => match x with
    | .str a => some (subStr a b)
    | _ => none
  | _ => none
def isT (x y : T) : Option Bool := match y with
  | .non => some (match x with | .non => true | _ => false)
  | .bl b => some (match x with | .bl c => c == b | _ => false)
  | _ => none
def ordT (fi : Int → Int → Bool) (fs : List Nat → List Nat → Bool) (x y : T) : Option Bool := match x, y with
  | .int i, .int j => some (fi i j)
  | .str a, .str b => some (fs a.cps.toList b.cps.toList)
  | _, _ => none
def cmpT (o : Co) (h : AH) (x y : T) : Option Bool := match o with
  | .eq => eqT (snap h x) (snap h y)
  | .ne => (eqT (snap h x) (snap h y)).map (!·)
  | .lt => ordT (fun i j => decide (i < j)) (fun a b => decide (a < b)) x y
  | .le => ordT (fun i j => decide (i ≤ j)) (fun a b => !decide (b < a)) x y
  | .gt => ordT (fun i j => decide (j < i)) (fun a b => decide (b < a)) x y
  | .ge => ordT (fun i j => decide (j ≤ i)) (fun a b => !decide (a < b)) x y
  | .is => isT x y
  | .isnot => (isT x y).map (!·)
  | .isin => inT h x y
  | .notin => (inT h x y).map (!·)
def idxT (h : AH) (x y : T) : Option T := match snap h x with
  | .tup xs => match y with
    | .int i => L2.atI xs i
    | _ => none
  | .lst xs => match y with
    | .int i => L2.atI xs i
    | _ => none
  | .dct tk ks vs => match keyOk tk y with
    | some k => match findK k ks with
      | some j => vs[j]?
      | none => none
    | none => none
  | .str a => match y with
    | .int i => if a.length ≤ sizeLine then (L2.atI a.cps.toList i).map fun c => .str ⟨#[c]⟩ else none
    | _ => none
  | _ => none
def cutL (xs : List T) (lo hi : Option Int) : List T := (xs.drop (HT.sIx xs.length 0 lo)).take (HT.sIx xs.length xs.length hi - HT.sIx xs.length 0 lo)
def slcT (m : Bool) (x : T) (lo hi : Option Int) (h : AH) : R T := match snap h x with
  | .tup xs => .ok (.tup (cutL xs lo hi)) h
  | .lst xs => fresh m (cutL xs lo hi) h
  | .str a => if a.length ≤ sizeLine then .ok (.str (L2.cutS a lo hi)) h else .stuck
  | _ => .stuck
def revT (m : Bool) (x : T) (h : AH) : R T := match snap h x with
  | .tup xs => .ok (.tup xs.reverse) h
  | .lst xs => fresh m xs.reverse h
  | _ => .stuck
def intsT : List T → Option (List Int)
  | [] => some []
  | .int i :: r => (intsT r).map (i :: ·)
  | _ :: _ => none
def blsT : List T → Option (List Bool)
  | [] => some []
  | .bl b :: r => (blsT r).map (b :: ·)
  | _ :: _ => none
def maxI : List Int → Int
  | [] => 0
  | [x] => x
  | x :: r => if x < maxI r then maxI r else x
def minI : List Int → Int
  | [] => 0
  | [x] => x
  | x :: r => if minI r < x then minI r else x
def lenT (h : AH) (t : T) : Option Nat := match snap h t with
  | .tup xs => some xs.length
  | .lst xs => some xs.length
  | .str a => if a.length ≤ sizeLine then some a.length else none
  | _ => none
def strT : T → Option Str
  | .int i => if i.natAbs.log2 < 1920 then some (Str.ofString (toString i)) else none
  | _ => none
def bfT (m : Bool) (f : Bf) (xs : List T) (h : AH) : R T := match f, xs with
  | .len, [t] => match lenT h t with
    | some n => .ok (.int n) h
    | none => .stuck
  | .abs, [.int i] => .ok (.int (if i < 0 then -i else i)) h
  | .int, [.int i] => .ok (.int i) h
  | .int, [.bl b] => .ok (.int (if b then 1 else 0)) h
  | .str, [t] => match strT t with
    | some x => .ok (.str x) h
    | none => .stuck
  | .list, [t] => match seqV h t with
    | some ys => fresh m ys h
    | none => .stuck
  | .tuple, [t] => match seqV h t with
    | some ys => .ok (.tup ys) h
    | none => .stuck
  | .sum, [t] => match isList h t with
    | some ys => match intsT ys with
      | some ns => .ok (.int ns.sum) h
      | none => .stuck
    | none => .stuck
  | .max, [t] => match isList h t with
    | some ys => match intsT ys with
      | some ns => if 0 < ns.length then .ok (.int (maxI ns)) h else .stuck
      | none => .stuck
    | none => .stuck
  | .min, [t] => match isList h t with
    | some ys => match intsT ys with
      | some ns => if 0 < ns.length then .ok (.int (minI ns)) h else .stuck
      | none => .stuck
    | none => .stuck
  | .all, [t] => match isList h t with
    | some ys => match blsT ys with
      | some bs => .ok (.bl (bs.all id)) h
      | none => .stuck
    | none => .stuck
  | .any, [t] => match isList h t with
    | some ys => match blsT ys with
      | some bs => .ok (.bl (bs.any id)) h
      | none => .stuck
    | none => .stuck
  | .max2, [.int i, .int j] => .ok (.int (if j > i then j else i)) h
  | .min2, [.int i, .int j] => .ok (.int (if j < i then j else i)) h
  | _, _ => .stuck
def insAt (xs : List T) (i : Nat) (t : T) : List T := xs.take i ++ t :: xs.drop i
def bmT (m : Bool) (f : Bm) (x : T) (ys : List T) (h : AH) : R T := match f, ys with
  | .append, [t] => match x with
    | .ref n => match h[n]? with
      | some (.lst xs) => if xs.length < sizeLine then .ok .non (h.set n (.lst (xs ++ [t]))) else .stuck
      | _ => .stuck
    | _ => .stuck
  | .extend, [t] => match x with
    | .ref n => match h[n]? with
      | some (.lst xs) => match isList h t with
        | some zs => if xs.length + zs.length ≤ sizeLine ∧ watchV t ≠ some n then .ok .non (h.set n (.lst (xs ++ zs))) else .stuck
        | none => .stuck
      | _ => .stuck
    | _ => .stuck
  | .pop, [] => match x with
    | .ref n => match h[n]? with
      | some (.lst xs) => match xs[xs.length - 1]? with
        | some y => .ok y (h.set n (.lst xs.dropLast))
        | none => .stuck
      | _ => .stuck
    | _ => .stuck
  | .pop0, [] => match x with
    | .ref n => match h[n]? with
      | some (.lst (y :: xs)) => .ok y (h.set n (.lst xs))
      | _ => .stuck
    | _ => .stuck
  | .insert, [.int i, t] => match x with
    | .ref n => match h[n]? with
      | some (.lst xs) => if xs.length < sizeLine ∧ 0 ≤ i ∧ i ≤ xs.length then .ok .non (h.set n (.lst (insAt xs i.toNat t))) else .stuck
      | _ => .stuck
    | _ => .stuck
  | .index, [t] => match isList h x with
    | some xs => match blsT xs, t with
      | some bs, .bl b => match bs.findIdx? (· == b) with
        | some j => .ok (.int j) h
        | none => .stuck
      | _, _ => .stuck
    | none => .stuck
  | .count, [t] => match isList h x with
    | some xs => match t with
      | .str a => .ok (.int (xs.countP fun | .str b => a = b | _ => false)) h
      | _ => .stuck
    | none => .stuck
  | .get, [k, d] => match dctV h x with
    | some (tk, ks, vs) => match keyOk tk k with
      | some key => match findK key ks with
        | some j => match vs[j]? with
          | some v => .ok v h
          | none => .stuck
        | none => .ok d h
      | none => .stuck
    | none => .stuck
  | .setdefault, [k, d] => match x with
    | .ref n => match h[n]? with
      | some (.dct tk ks vs) => match keyOk tk k with
        | some key => match findK key ks with
          | some j => match vs[j]? with
            | some v => .ok v h
            | none => .stuck
          | none => if ks.length < sizeLine then .ok d (h.set n (.dct tk (ks ++ [k]) (vs ++ [d]))) else .stuck
        | none => .stuck
      | _ => .stuck
    | _ => .stuck
  | _, _ => .stuck
def bmOk (f : Bm) (x : T) (h : AH) : Bool := match f with
  | .get => (match x with | .ref _ => (dctV h x).isSome | _ => false)
  | .setdefault => (match x with | .ref _ => (dctV h x).isSome | _ => false)
  | _ => (isList h x).isSome
def eqOk (h : AH) (y : T) : Bool := match snap h y with
  | .dct _ _ _ => false
  | .clo _ _ => false
  | .exn _ _ => false
  | .ref n => (match h[n]? with | some (.obj _ _) => true | _ => false)
  | _ => true
def setT (x y t : T) (h : AH) : R Unit := match x with
  | .ref n => match h[n]? with
    | some (.lst xs) => match y with
      | .int i => match L2.ixN xs.length i with
        | some j => .ok () (h.set n (.lst (xs.set j t)))
        | none => .stuck
      | _ => .stuck
    | some (.dct tk ks vs) => match keyOk tk y with
      | some key => match findK key ks with
        | some _ => if ks.length < sizeLine then .ok () (h.set n (.dct tk ks (setK key t ks vs))) else .stuck
        | none => if ks.length < sizeLine then .ok () (h.set n (.dct tk (ks ++ [y]) (vs ++ [t]))) else .stuck
      | none => .stuck
    | _ => .stuck
  | _ => .stuck
def fldT (h : AH) (x : T) (c f : Nat) : Option T := match x with
  | .ref n => match h[n]? with
    | some (.obj c' fs) => if c' = c then fs.lookup f else none
    | _ => none
  | _ => none
def putF (f : Nat) (t : T) : List (Nat × T) → List (Nat × T)
  | [] => [(f, t)]
  | (g, u) :: r => if g = f then (f, t) :: r else (g, u) :: putF f t r
def stfT (x : T) (c f : Nat) (t : T) (h : AH) : R Unit := match x with
  | .ref n => match h[n]? with
    | some (.obj c' fs) => if c' = c ∧ fs.length < 100 then .ok () (h.set n (.obj c (putF f t fs))) else .stuck
    | _ => .stuck
  | _ => .stuck
def isTy (h : AH) (t : T) (y : Ty) : Option Bool := match snap h t with
  | .non => some false
  | .bl _ => some (match y with | .int => true | .bool => true | _ => false)
  | .int _ => some (match y with | .int => true | _ => false)
  | .str _ => some (match y with | .str => true | _ => false)
  | .tup _ => some (match y with | .tuple => true | _ => false)
  | .lst _ => some (match y with | .list => true | _ => false)
  | .ref n => match h[n]? with
    | some (.obj c _) => some (match y with | .cls d => c == d | _ => false)
    | _ => none
  | _ => none
def isTys (h : AH) (t : T) : List Ty → Option Bool
  | [] => some false
  | y :: r => match isTy h t y with
    | some true => some true
    | some false => isTys h t r
    | none => none

mutual
inductive TG where | nm (i : Nat) | tp (ts : TGs)
inductive TGs where | nil | cons (t : TG) (r : TGs)
end
mutual
def TG.slots : TG → List Nat
  | .nm i => [i]
  | .tp ts => TGs.slots ts
def TGs.slots : TGs → List Nat
  | .nil => []
  | .cons t r => TG.slots t ++ TGs.slots r
end
mutual
def TG.asg : TG → T → Env → Option Env
  | .nm i, t, e => some (e.set i (some t))
  | .tp ts, .tup xs, e => TGs.asg ts xs e
  | .tp _, _, _ => none
def TGs.asg : TGs → List T → Env → Option Env
  | .nil, [], e => some e
  | .cons t r, x :: xs, e => match TG.asg t x e with
    | some e1 => TGs.asg r xs e1
    | none => none
  | _, _, _ => none
end

mutual
inductive IE where
  | cst (t : T) | var (i : Nat) | glb (k : Nat) (t : T)
  | bin (m : Bool) (o : Bo) (a b : IE) | neg (a : IE) | not (a : IE)
  | cmp (o : Co) (a b : IE) | chain (o : Co) (a b : IE) (o' : Co) (c : IE)
  | and (a b : IE) | or (a b : IE) | ite (c a b : IE)
  | tup (es : IL) | lst (m : Bool) (es : IL) | dic (m tk : Bool)
  | kin (n : Bool) (k : Nat) (zs : List Str) (a : IE) | kget (k : Nat) (zs : List (Str × T)) (a : IE)
  | idx (a i : IE) | slc (m : Bool) (a : IE) (lo hi : IO) | rev (m : Bool) (a : IE)
  | fld (a : IE) (c f : Nat) | fle (a : IE) (f : Nat)
  | call (f : Nat) (es : IL) | mk (c f : Nat) (es : IL) | met (a : IE) (c m f : Nat) (es : IL)
  | bf (m : Bool) (f : Bf) (es : IL) | bm (m : Bool) (f : Bm) (a : IE) (es : IL)
  | isi (a : IE) (ty : List Ty) | eqo (n : Bool) (c f : Nat) (a b : IE)
  | comp (m : Bool) (own : List Nat) (tg : TG) (it : II) (cond : IO) (e : IE)
  | bad
inductive IL where | nil | cons (e : IE) (r : IL) | star (e : IE) (r : IL)
inductive IO where | none | some (e : IE)
inductive II where | e (a : IE) | rng (a : IE) | rng2 (a b : IE) | enum (a : IE) | zip (a b : IE)
end
mutual
inductive IS where
  | ex (e : IE) | asg (g : TG) (e : IE) | setf (a : IE) (c f : Nat) (e : IE) | seti (a i e : IE)
  | aug (i : Nat) (o : Bo) (e : IE) | augf (a : IE) (c f : Nat) (o : Bo) (e : IE)
  | ife (c : IE) (a b : ISs) | forr (g : TG) (it : II) (b : ISs) | whl (c : IE) (b : ISs)
  | ret (fz : Bool) (e : IE) | retN | rais (c : Nat) (e : IE) | tr (b : ISs) (hs : IHs) | pass | brk | cont | bad
inductive ISs where | nil | cons (s : IS) (r : ISs)
inductive IHs where | nil | cons (c i : Nat) (b : ISs) (r : IHs)
end

structure Ctx where
  F : Nat → List T → AH → R T
  n0 : Nat
  sub : Nat → Nat → Bool
  xi : Nat → Nat

def R.isB (r : R T) : R Bool := r.bind fun t h => R.of (truT h t) h
@[simp] theorem R.isB_ok (t : T) (h : AH) : (R.ok t h).isB = R.of (truT h t) h := rfl
@[simp] theorem R.isB_exc (c : Nat) (t : T) (h : AH) : (R.exc c t h : R T).isB = .exc c t h := rfl
def bl? : T → Option Bool
  | .bl b => some b
  | _ => none
def R.nox {α : Type} (r : R α) : R α := match r with
  | .exc _ _ _ => .stuck
  | r => r
@[simp] theorem R.nox_ok {α : Type} (a : α) (h : AH) : (R.ok a h).nox = .ok a h := rfl
noncomputable section
open Classical
def compL (g : TG) (cond : Env → AH → R Bool) (elt : Env → AH → R T) (chk : AH → Prop) : List T → Env → AH → R (List T)
  | [], _, h => .ok [] h
  | x :: xs, env, h => match g.asg x env with
    | none => .stuck
    | some e1 => (cond e1 h).bind fun b h1 => match b with
      | true => (elt e1 h1).bind fun t h2 => if chk h2 then (compL g cond elt chk xs env h2).bind fun ts h3 => .ok (t :: ts) h3 else .stuck
      | false => if chk h1 then compL g cond elt chk xs env h1 else .stuck
def forL (g : TG) (body : Env → AH → RS) (chk : AH → Prop) : List T → Env → AH → RS
  | [], env, h => .next env h
  | x :: xs, env, h => match g.asg x env with
    | none => .stuck
    | some e1 => match body e1 h with
      | .next e2 h2 => if chk h2 then forL g body chk xs e2 h2 else .stuck
      | .cont e2 h2 => if chk h2 then forL g body chk xs e2 h2 else .stuck
      | .brk e2 h2 => .next e2 h2
      | r => r
def whlL (c : Env → AH → R Bool) (body : Env → AH → RS) : Nat → Env → AH → RS
  | 0, _, _ => .stuck
  | n + 1, env, h => match c env h with
    | .ok true h1 => match body env h1 with
      | .next e2 h2 => whlL c body n e2 h2
      | .cont e2 h2 => whlL c body n e2 h2
      | .brk e2 h2 => .next e2 h2
      | r => r
    | .ok false h1 => .next env h1
    | .exc k v h1 => .exc k v env h1
    | .stuck => .stuck
def whlFuel : Nat := 1000000
structure Items where
  xs : List T
  w : Option (Nat × Cell)
def Items.chk (I : Items) (h : AH) : Prop := match I.w with
  | none => True
  | some (n, c) => h[n]? = some c
def itemsOf (h : AH) (t : T) : Option Items := match iterV h t with
  | some xs => match t with
    | .ref n => match h[n]? with
      | some c => some ⟨xs, some (n, c)⟩
      | none => none
    | _ => some ⟨xs, none⟩
  | none => none
def rangeT (lo : Int) (n : Nat) : List T := (List.range n).map fun (k : Nat) => .int (lo + k)
def small62 (i : Int) : Prop := -(2 ^ 62) ≤ i ∧ i < 2 ^ 62
instance (i : Int) : Decidable (small62 i) := by unfold small62; infer_instance
def enumT (k : Nat) : List T → List T
  | [] => []
  | x :: xs => .tup [.int k, x] :: enumT (k + 1) xs
def zipT : List T → List T → List T
  | x :: xs, y :: ys => .tup [x, y] :: zipT xs ys
  | _, _ => []
def wipeE (e : Env) : List Nat → Env
  | [] => e
  | v :: vs => (wipeE e vs).set v none
mutual
def evE (C : Ctx) : IE → Env → AH → R T
  | .cst t, _, h => .ok t h
  | .var i, env, h => match env[i]? with
    | some (some t) => .ok t h
    | _ => .stuck
  | .glb _ t, _, h => .ok t h
  | .bin m o a b, env, h => (evE C a env h).bind fun x h1 => (evE C b env h1).bind fun y h2 => binT m o x y h2
  | .neg a, env, h => (evE C a env h).bind fun x h1 => match x with
    | .int i => .ok (.int (-i)) h1
    | _ => .stuck
  | .not a, env, h => (evE C a env h).isB.bind fun b h1 => .ok (.bl (!b)) h1
  | .cmp o a b, env, h => (evE C a env h).bind fun x h1 => (evE C b env h1).bind fun y h2 => (R.of (cmpT o h2 x y) h2).bind fun k h3 => .ok (.bl k) h3
  | .chain o a b o' c, env, h => (evE C a env h).bind fun x h1 => (evE C b env h1).bind fun y h2 => (R.of (cmpT o h2 x y) h2).bind fun k h3 => match k with
    | true => (evE C c env h3).bind fun z h4 => (R.of (cmpT o' h4 y z) h4).bind fun k2 h5 => .ok (.bl k2) h5
    | false => .ok (.bl false) h3
  | .and a b, env, h => (evE C a env h).bind fun x h1 => (R.of (truT h1 x) h1).bind fun k h2 => match k with
    | true => evE C b env h2
    | false => .ok x h2
  | .or a b, env, h => (evE C a env h).bind fun x h1 => (R.of (truT h1 x) h1).bind fun k h2 => match k with
    | true => .ok x h2
    | false => evE C b env h2
  | .ite c a b, env, h => (evE C c env h).isB.bind fun k h1 => match k with
    | true => evE C a env h1
    | false => evE C b env h1
  | .tup es, env, h => (evL C es env h).bind fun xs h1 => if xs.length ≤ sizeLine then .ok (.tup xs) h1 else .stuck
  | .lst m es, env, h => (evL C es env h).bind fun xs h1 => fresh m xs h1
  | .dic m tk, _, h => if m = true then .ok (.ref h.length) (h ++ [.dct tk [] []]) else .ok (.dct tk [] []) h
  | .kin n _ zs a, env, h => (evE C a env h).bind fun x h1 => match x with
    | .str z => .ok (.bl (n != zs.contains z)) h1
    | _ => .stuck
  | .kget _ zs a, env, h => (evE C a env h).bind fun x h1 => match x with
    | .str z => R.of (zs.lookup z) h1
    | _ => .stuck
  | .idx a i, env, h => (evE C a env h).bind fun x h1 => (evE C i env h1).bind fun y h2 => R.of (idxT h2 x y) h2
  | .slc m a lo hi, env, h => (evE C a env h).bind fun x h1 => (evO C lo env h1).bind fun l h2 => (evO C hi env h2).bind fun u h3 => slcT m x l u h3
  | .rev m a, env, h => (evE C a env h).bind fun x h1 => revT m x h1
  | .fld a c f, env, h => (evE C a env h).bind fun x h1 => R.of (fldT h1 x c f) h1
  | .fle a f, env, h => (evE C a env h).bind fun x h1 => match x with
    | .exn c v => if C.xi c = f then .ok v h1 else .stuck
    | _ => .stuck
  | .call f es, env, h => (evL C es env h).bind fun xs h1 => C.F f xs h1
  | .mk c f es, env, h => (evL C es env h).bind fun xs h1 => (C.F f (.ref h1.length :: xs) (h1 ++ [.obj c []])).bind fun r h2 => match r with
    | .non => .ok (.ref h1.length) h2
    | _ => .stuck
  | .met a c _ f es, env, h => (evE C a env h).bind fun x h1 => match x with
    | .ref n => match h1[n]? with
      | some (.obj c' _) => if c' = c then (evL C es env h1).bind fun xs h2 => C.F f (.ref n :: xs) h2 else .stuck
      | _ => .stuck
    | _ => .stuck
  | .bf m f es, env, h => (evL C es env h).bind fun xs h1 => bfT m f xs h1
  | .bm m f a es, env, h => (evE C a env h).bind fun x h1 => if bmOk f x h1 = true then (evL C es env h1).bind fun xs h2 => bmT m f x xs h2 else .stuck
  | .isi a ty, env, h => (evE C a env h).bind fun x h1 => (R.of (isTys h1 x ty) h1).bind fun k h2 => .ok (.bl k) h2
  | .eqo n c f a b, env, h => (evE C a env h).bind fun x h1 => (evE C b env h1).bind fun y h2 => match x with
    | .ref m => match h2[m]? with
      | some (.obj c' _) => if c' = c ∧ eqOk h2 y = true then ((C.F f [.ref m, y] h2).nox).bind fun r h3 => match r with
        | .bl k => .ok (.bl (n != k)) h3
        | _ => .stuck else .stuck
      | _ => .stuck
    | _ => .stuck
  | .comp m own g it cond e, env, h => (evI C it env h).bind fun I h1 =>
      (compL g (match cond with
        | .none => fun _ h => .ok true h
        | .some c => fun env h => (evE C c env h).isB.nox) (fun env h => (evE C e env h).nox) I.chk I.xs (wipeE env own) h1).nox.bind fun ts h2 => fresh m ts h2
  | .bad, _, _ => .stuck
def evL (C : Ctx) : IL → Env → AH → R (List T)
  | .nil, _, h => .ok [] h
  | .cons e r, env, h => (evE C e env h).bind fun x h1 => (evL C r env h1).bind fun xs h2 => .ok (x :: xs) h2
  | .star e r, env, h => (evE C e env h).bind fun x h1 => match seqV h1 x with
    | some ys => (evL C r env h1).bind fun xs h2 => .ok (ys ++ xs) h2
    | none => .stuck
def evO (C : Ctx) : IO → Env → AH → R (Option Int)
  | .none, _, h => .ok none h
  | .some e, env, h => (evE C e env h).bind fun x h1 => match x with
    | .int i => .ok (some i) h1
    | _ => .stuck
def evI (C : Ctx) : II → Env → AH → R Items
  | .e a, env, h => (evE C a env h).bind fun x h1 => R.of (itemsOf h1 x) h1
  | .rng a, env, h => (evE C a env h).bind fun x h1 => match x with
    | .int j => if small62 j then .ok ⟨rangeT 0 j.toNat, none⟩ h1 else .stuck
    | _ => .stuck
  | .rng2 a b, env, h => (evE C a env h).bind fun x h1 => (evE C b env h1).bind fun y h2 => match x, y with
    | .int i, .int j => if small62 i ∧ small62 j then .ok ⟨rangeT i (j - i).toNat, none⟩ h2 else .stuck
    | _, _ => .stuck
  | .enum a, env, h => (evE C a env h).bind fun x h1 => match seqV h1 x with
    | some xs => match x with
      | .ref n => match h1[n]? with
        | some c => .ok ⟨enumT 0 xs, some (n, c)⟩ h1
        | none => .stuck
      | _ => .ok ⟨enumT 0 xs, none⟩ h1
    | none => .stuck
  | .zip a b, env, h => (evE C a env h).bind fun x h1 => (evE C b env h1).bind fun y h2 => match x, y with
    | .ref _, _ => .stuck
    | _, .ref _ => .stuck
    | x, y => match seqV h2 x, seqV h2 y with
      | some xs, some ys => .ok ⟨zipT xs ys, none⟩ h2
      | _, _ => .stuck
end
def evB (C : Ctx) : IE → Env → AH → R Bool
  | .not a, env, h => (evB C a env h).bind fun b h1 => .ok (!b) h1
  | .and a b, env, h => (evB C a env h).bind fun k h1 => match k with
    | true => evB C b env h1
    | false => .ok false h1
  | .or a b, env, h => (evB C a env h).bind fun k h1 => match k with
    | true => .ok true h1
    | false => evB C b env h1
  | e, env, h => (evE C e env h).isB

def plainE (n : Nat) (e : Env) : Bool := e.all fun
  | some t => t.und n
  | none => true
def frzV (n0 : Nat) (h : AH) : Nat → T → Option T
  | 0, t => if t.und n0 = true then some t else none
  | d + 1, .ref n => if n < n0 then some (.ref n) else match h[n]? with
    | some (.lst xs) => (xs.mapM (frzV n0 h d)).map .lst
    | some (.dct tk ks vs) => if T.undL n0 ks = true then (vs.mapM (frzV n0 h d)).map (.dct tk ks) else none
    | _ => none
  | d + 1, .tup xs => (xs.mapM (frzV n0 h d)).map .tup
  | _ + 1, t => if t.und n0 = true then some t else none
mutual
def evS (C : Ctx) : IS → Env → AH → RS
  | .ex e, env, h => (evE C e env h).toS (fun c v h1 => .exc c v env h1) .stuck fun _ h1 => .next env h1
  | .asg g e, env, h => (evE C e env h).toS (fun c v h1 => .exc c v env h1) .stuck fun x h1 => match g.asg x env with
    | some e1 => .next e1 h1
    | none => .stuck
  | .setf a c f e, env, h => ((evE C e env h).bind fun x h1 => (evE C a env h1).bind fun o h2 => stfT o c f x h2).toS (fun c v h1 => .exc c v env h1) .stuck fun _ h1 => .next env h1
  | .seti a i e, env, h => ((evE C e env h).bind fun x h1 => (evE C a env h1).bind fun o h2 => (evE C i env h2).bind fun y h3 => setT o y x h3).toS (fun c v h1 => .exc c v env h1) .stuck fun _ h1 => .next env h1
  | .aug i o e, env, h => match env[i]? with
    | some (some x) => ((evE C e env h).bind fun y h1 => binT false o x y h1).toS (fun c v h1 => .exc c v env h1) .stuck fun z h1 => .next (env.set i (some z)) h1
    | _ => .stuck
  | .augf a c f o e, env, h => ((evE C a env h).bind fun x h1 => (R.of (fldT h1 x c f) h1).bind fun z h2 => (evE C e env h2).bind fun y h3 => (binT false o z y h3).bind fun r h4 => stfT x c f r h4).toS (fun c v h1 => .exc c v env h1) .stuck fun _ h1 => .next env h1
  | .ife c a b, env, h => (evB C c env h).toS (fun c v h1 => .exc c v env h1) .stuck fun k h1 => match k with
    | true => evSs C a env h1
    | false => evSs C b env h1
  | .forr g it b, env, h => (evI C it env h).toS (fun c v h1 => .exc c v env h1) .stuck fun I h1 => forL g (fun env h => evSs C b env h) I.chk I.xs env h1
  | .whl c b, env, h => whlL (fun env h => evB C c env h) (fun env h => evSs C b env h) whlFuel env h
  | .ret fz e, env, h => (evE C e env h).toS (fun c v h1 => .exc c v env h1) .stuck fun t h1 => if fz = true then (match frzV C.n0 h1 4 t with
      | some t' => .ret (some C.n0) t' h1
      | none => .stuck) else .ret none t h1
  | .retN, _, h => .ret none .non h
  | .rais c e, env, h => (evE C e env h).toS (fun c v h1 => .exc c v env h1) .stuck fun t h1 => .exc c t env h1
  | .tr b hs, env, h => match evSs C b env h with
    | .exc c v e1 h1 => evHs C hs c v e1 h1
    | r => r
  | .pass, env, h => .next env h
  | .brk, env, h => .brk env h
  | .cont, env, h => .cont env h
  | .bad, _, _ => .stuck
def evSs (C : Ctx) : ISs → Env → AH → RS
  | .nil, env, h => .next env h
  | .cons s r, env, h => match evS C s env h with
    | .next e1 h1 => evSs C r e1 h1
    | q => q
def evHs (C : Ctx) : IHs → Nat → T → Env → AH → RS
  | .nil, c, v, env, h => .exc c v env h
  | .cons k i b r, c, v, env, h => if C.sub c k = true then (match evSs C b (env.set i (some (.exn c v))) h with
    | .next e1 h1 => if plainE h1.length (e1.set i none) = true then .next (e1.set i none) h1 else .stuck
    | .cont e1 h1 => if plainE h1.length (e1.set i none) = true then .cont (e1.set i none) h1 else .stuck
    | .brk e1 h1 => if plainE h1.length (e1.set i none) = true then .brk (e1.set i none) h1 else .stuck
    | .ret m t h1 => .ret m t h1
    | _ => .stuck) else evHs C r c v env h
end

structure Fn where
  np : Nat
  ns : Nat
  gc : Bool
  body : ISs
def GcOk (h h' : AH) : Prop := h.length ≤ h'.length ∧ ∀ i, i < h.length → h'[i]? = h[i]? ∨ ∃ c, h'[i]? = some c ∧ c.und h.length = true
def endR (gc : Bool) (h : AH) : R T → R T
  | .ok t h' => if gc = true then (if t.und h.length = true ∧ GcOk h h' then .ok t (h'.take h.length) else .stuck) else .ok t h'
  | .exc c v h' => if gc = true then (if v.und h.length = true ∧ GcOk h h' then .exc c v (h'.take h.length) else .stuck) else .exc c v h'
  | .stuck => .stuck
def endS (gc : Bool) (n0 : Nat) : RS → R T
  | .next _ h => .ok .non h
  | .ret m t h => if m = none ∨ (gc = true ∧ m = some n0) then .ok t h else .stuck
  | .exc c v _ h => .exc c v h
  | _ => .stuck
structure Prg where
  fns : List Fn
  sub : Nat → Nat → Bool
  xi : Nat → Nat
def runFn (P : Prg) : Nat → Nat → List T → AH → R T
  | 0, _, _, _ => .stuck
  | k + 1, f, xs, h => match P.fns[f]? with
    | none => .stuck
    | some fn => if xs.length = fn.np then endR fn.gc h (endS fn.gc h.length (evSs ⟨runFn P k, h.length, P.sub, P.xi⟩ fn.body (xs.map some ++ List.replicate (fn.ns - fn.np) none) h)) else .stuck
end
end PS
end
section
set_option maxRecDepth 100000
set_option maxHeartbeats 1000000
namespace PS
open PySem PySem.Spec PyProof.Rows L2

def keyT : Key → T
  | .inl i => .int i
  | .inr x => .str x
def stays : HO → Bool
  | .tup _ => true
  | .frz _ _ => true
  | .xd _ => true
  | _ => false
abbrev Rho := List Addr
def Keep (H : Hp) (rho : Rho) (H' : Hp) (rho' : Rho) : Prop := (∀ a o, H a = some o → stays o = true → H' a = some o) ∧ ∃ t, rho' = rho ++ t
theorem Keep.rfl {H : Hp} {rho : Rho} : Keep H rho H rho := ⟨fun _ _ e _ => e, [], by simp⟩
theorem Keep.get {H H' : Hp} {r r' : Rho} (a : Keep H r H' r') {n : Nat} {x : Addr} (e : r[n]? = some x) : r'[n]? = some x := by
  obtain ⟨_, t, rfl⟩ := a
  rw [List.getElem?_append_left (List.getElem?_eq_some_iff.mp e).1]
  exact e
theorem Keep.set {H : Hp} {r : Rho} {p : Addr} {o u : HO} (e : H p = some u) (s : stays u = false) : Keep H r (upd H p o) r := ⟨fun a v ea sa => by
  by_cases h : a = p
  · subst h; rw [e] at ea; cases ea; rw [s] at sa; cases sa
  · rw [upd_ne h]; exact ea, [], by simp⟩
theorem Keep.new {H : Hp} {r : Rho} {p : Addr} {o : HO} (n : H p = none) : Keep H r (upd H p o) r := ⟨fun a u e _ => by rw [upd_ne (ne_of_none e n)]; exact e, [], by simp⟩
structure Step (H : Hp) (rho : Rho) (H' : Hp) (rho' : Rho) : Prop where
  k : Keep H rho H' rho'
  out : ∀ a o, H a = some o → a ∉ rho → H' a = some o
  there : ∀ a o, H a = some o → ∃ o', H' a = some o'
  new_ : ∀ a, a ∈ rho' → a ∉ rho → H a = none
theorem Step.stay {H H' : Hp} {r r' : Rho} (s : Step H r H' r') {a : Addr} {o : HO} (e : H a = some o) (q : stays o = true) : H' a = some o := s.k.1 a o e q
theorem Step.rfl {H : Hp} {rho : Rho} : Step H rho H rho := ⟨Keep.rfl, fun _ _ e _ => e, fun _ o e => ⟨o, e⟩, fun _ a b => absurd a b⟩
theorem Step.trans {H H1 H2 : Hp} {r r1 r2 : Rho} (a : Step H r H1 r1) (b : Step H1 r1 H2 r2) : Step H r H2 r2 := by
  obtain ⟨⟨a1, t, rfl⟩, a2, a3, a4⟩ := a
  obtain ⟨⟨b1, u, rfl⟩, b2, b3, b4⟩ := b
  refine ⟨⟨fun x o e s => b1 x o (a1 x o e s) s, t ++ u, by simp⟩, fun x o e n => b2 x o (a2 x o e n) fun m => ?_, fun x o e => ?_, fun x m n => ?_⟩
  · have := a4 x m n
    rw [e] at this; cases this
  · obtain ⟨o1, e1⟩ := a3 x o e
    exact b3 x o1 e1
  · by_cases m1 : x ∈ r ++ t
    · exact a4 x m1 n
    · have := b4 x m m1
      cases e : H x with
      | none => rfl
      | some o =>
        obtain ⟨o1, e1⟩ := a3 x o e
        rw [this] at e1; cases e1
theorem Step.get {H H' : Hp} {r r' : Rho} (a : Step H r H' r') {n : Nat} {x : Addr} (e : r[n]? = some x) : r'[n]? = some x := a.k.get e
theorem Step.new {H : Hp} {r : Rho} {p : Addr} {o : HO} (n : H p = none) : Step H r (upd H p o) r := ⟨Keep.new n, fun a u e _ => by rw [upd_ne (ne_of_none e n)]; exact e, fun a u e => ⟨u, by rw [upd_ne (ne_of_none e n)]; exact e⟩, fun _ a b => absurd a b⟩
theorem Step.new' {H : Hp} {r : Rho} {p : Addr} {o : HO} (n : H p = none) : Step H r (upd H p o) (r ++ [p]) := ⟨⟨fun a u e _ => by rw [upd_ne (ne_of_none e n)]; exact e, [p], Eq.refl _⟩, fun a u e _ => by rw [upd_ne (ne_of_none e n)]; exact e, fun a u e => ⟨u, by rw [upd_ne (ne_of_none e n)]; exact e⟩, fun a m b => by
  simp only [List.mem_append, List.mem_singleton] at m
  rcases m with m | m
  · exact absurd m b
  · subst m; exact n⟩
theorem Step.set {H : Hp} {r : Rho} {p : Addr} {o u : HO} {i : Nat} (hp : r[i]? = some p) (e : H p = some u) (s : stays u = false) : Step H r (upd H p o) r := by
  refine ⟨Keep.set e s, fun a v ea na => ?_, fun a v ea => ?_, fun _ a b => absurd a b⟩
  · have z : a ≠ p := fun z => na (by rw [z]; exact List.mem_of_getElem? hp)
    rw [upd_ne z]; exact ea
  · by_cases h : a = p
    · subst h; exact ⟨o, upd_same⟩
    · exact ⟨v, by rw [upd_ne h]; exact ea⟩
theorem Step.beside {H H1 : Hp} {r r1 : Rho} {p : Addr} {o : HO} (s : Step H r H1 r1) (n : H p = none) : Step H r (upd H1 p o) r1 := by
  refine ⟨⟨fun a u e q => ?_, s.k.2⟩, fun a u e na => ?_, fun a u e => ?_, s.new_⟩
  · rw [upd_ne (ne_of_none e n)]; exact s.k.1 a u e q
  · rw [upd_ne (ne_of_none e n)]; exact s.out a u e na
  · rw [upd_ne (ne_of_none e n)]; exact s.there a u e

abbrev Sx := Option (Addr × Value × Option Addr)
structure Wd where
  K : PySem.W.Frag
  nc : Nat
  nx : Nat
  ca : Nat → Addr
  fl : Nat → Str
  xa : Nat → Addr
  xf : Nat → Str
section
variable (D : Wd)
mutual
inductive Rp (sx : Sx) (H : Hp) (rho : Rho) : V → T → Prop
  | non : Rp sx H rho .non .non
  | bl (b : Bool) : Rp sx H rho (.bl b) (.bl b)
  | int (i : Int) : Rp sx H rho (.int i) (.int i)
  | str (x : Str) : Rp sx H rho (.str x) (.str x)
  | tup {a : Addr} {vs : List V} {ts : List T} : H a = some (.tup vs) → RpL sx H rho vs ts → Rp sx H rho (.ref a) (.tup ts)
  | lst {a : Addr} {o : Obj} {vs : List V} {ts : List T} : H a = some (.frz o (.lst vs)) → RpL sx H rho vs ts → Rp sx H rho (.ref a) (.lst ts)
  | dK {a : Addr} {o : Obj} {kvs : List (Key × V)} {ks ts : List T} : H a = some (.frz o (.dK kvs)) → ks = kvs.map (fun p => keyT p.1) → RpL sx H rho (kvs.map (·.2)) ts → Rp sx H rho (.ref a) (.dct false ks ts)
  | dT {a : Addr} {o : Obj} {kvs : List (List Key × V)} {ks ts : List T} : H a = some (.frz o (.dT kvs)) → ks = kvs.map (fun p => .tup (p.1.map keyT)) → RpL sx H rho (kvs.map (·.2)) ts → Rp sx H rho (.ref a) (.dct true ks ts)
  | ref {a : Addr} {n : Nat} : rho[n]? = some a → Rp sx H rho (.ref a) (.ref n)
  | exn {a d : Addr} {c : Nat} {v : V} {t : T} : c < D.nx → sx = some (a, .ref (D.xa c), some d) → H d = some (.xd [(D.xf c, v)]) → Rp sx H rho v t → Rp sx H rho (.ref a) (.exn c t)
inductive RpL (sx : Sx) (H : Hp) (rho : Rho) : List V → List T → Prop
  | nil : RpL sx H rho [] []
  | cons {v : V} {t : T} {vs : List V} {ts : List T} : Rp sx H rho v t → RpL sx H rho vs ts → RpL sx H rho (v :: vs) (t :: ts)
end
variable {D}
theorem sqt_step {H H' : Hp} {r r' : Rho} (s : Keep H r H' r') {a : Addr} {vs : List V} (h : SqT D.K H a vs) : SqT D.K H' a vs := by
  rcases h with h | h
  · rcases h with h | ⟨o, h⟩
    · exact .inl (.inl (s.1 _ _ h rfl))
    · exact .inl (.inr ⟨o, s.1 _ _ h rfl⟩)
  · exact .inr h
section
variable {H H' : Hp} {r r' : Rho} {sx : Sx}
mutual
theorem Rp.stepK (s : Keep H r H' r') : ∀ {v : V} {t : T}, Rp D sx H r v t → Rp D sx H' r' v t
  | _, _, .non => .non
  | _, _, .bl b => .bl b
  | _, _, .int i => .int i
  | _, _, .str x => .str x
  | _, _, .tup h l => .tup (s.1 _ _ h rfl) (RpL.stepK s l)
  | _, _, .lst h l => .lst (s.1 _ _ h rfl) (RpL.stepK s l)
  | _, _, .dK h e l => .dK (s.1 _ _ h rfl) e (RpL.stepK s l)
  | _, _, .dT h e l => .dT (s.1 _ _ h rfl) e (RpL.stepK s l)
  | _, _, .ref h => .ref (s.get h)
  | _, _, .exn h0 h1 h2 h3 => .exn h0 h1 (s.1 _ _ h2 rfl) (Rp.stepK s h3)
theorem RpL.stepK (s : Keep H r H' r') : ∀ {vs : List V} {ts : List T}, RpL D sx H r vs ts → RpL D sx H' r' vs ts
  | _, _, .nil => .nil
  | _, _, .cons h l => .cons (Rp.stepK s h) (RpL.stepK s l)
end
theorem Rp.step (s : Step H r H' r') {v : V} {t : T} (p : Rp D sx H r v t) : Rp D sx H' r' v t := p.stepK s.k
theorem RpL.step (s : Step H r H' r') {v : List V} {t : List T} (p : RpL D sx H r v t) : RpL D sx H' r' v t := p.stepK s.k
theorem RpL.length : ∀ {vs : List V} {ts : List T}, RpL D sx H r vs ts → vs.length = ts.length
  | _, _, .nil => rfl
  | _, _, .cons _ l => by simp [RpL.length l]
theorem RpL.get : ∀ {vs : List V} {ts : List T}, RpL D sx H r vs ts → ∀ {i : Nat} {t : T}, ts[i]? = some t → ∃ v, vs[i]? = some v ∧ Rp D sx H r v t
  | _, _, .nil, i, t, e => by simp at e
  | _, _, .cons h l, 0, t, e => by
    simp at e; subst e; exact ⟨_, rfl, h⟩
  | _, _, .cons h l, i + 1, t, e => by
    obtain ⟨v, e1, h1⟩ := RpL.get l (i := i) (t := t) (by simpa using e)
    exact ⟨v, by simpa using e1, h1⟩
theorem RpL.getV : ∀ {vs : List V} {ts : List T}, RpL D sx H r vs ts → ∀ {i : Nat} {v : V}, vs[i]? = some v → ∃ t, ts[i]? = some t ∧ Rp D sx H r v t
  | _, _, .nil, i, t, e => by simp at e
  | _, _, .cons h l, 0, t, e => by
    simp at e; subst e; exact ⟨_, rfl, h⟩
  | _, _, .cons h l, i + 1, t, e => by
    obtain ⟨v, e1, h1⟩ := RpL.getV l (i := i) (v := t) (by simpa using e)
    exact ⟨v, by simpa using e1, h1⟩
theorem RpL.append : ∀ {vs : List V} {ts : List T}, RpL D sx H r vs ts → ∀ {ws : List V} {us : List T}, RpL D sx H r ws us → RpL D sx H r (vs ++ ws) (ts ++ us)
  | _, _, .nil, _, _, l2 => l2
  | _, _, .cons h l, _, _, l2 => .cons h (RpL.append l l2)
theorem RpL.drop : ∀ (n : Nat) {vs : List V} {ts : List T}, RpL D sx H r vs ts → RpL D sx H r (vs.drop n) (ts.drop n)
  | 0, _, _, h => h
  | n + 1, _, _, .nil => .nil
  | n + 1, _, _, .cons _ l => RpL.drop n l
theorem RpL.take : ∀ (n : Nat) {vs : List V} {ts : List T}, RpL D sx H r vs ts → RpL D sx H r (vs.take n) (ts.take n)
  | 0, _, _, _ => .nil
  | n + 1, _, _, .nil => .nil
  | n + 1, _, _, .cons h l => .cons h (RpL.take n l)
theorem RpL.set {x : V} {t : T} (hx : Rp D sx H r x t) : ∀ (n : Nat) {vs : List V} {ts : List T}, RpL D sx H r vs ts → RpL D sx H r (vs.set n x) (ts.set n t)
  | _, _, _, .nil => .nil
  | 0, _, _, .cons _ l => .cons hx l
  | n + 1, _, _, .cons h l => .cons h (RpL.set hx n l)
theorem RpL.reverse {vs : List V} {ts : List T} (l : RpL D sx H r vs ts) : RpL D sx H r vs.reverse ts.reverse := by
  induction vs generalizing ts with
  | nil => cases l; exact .nil
  | cons v vs ih =>
    cases l with
    | cons h l => rw [List.reverse_cons, List.reverse_cons]; exact (ih l).append (.cons h .nil)
theorem RpL.dropLast {vs : List V} {ts : List T} (l : RpL D sx H r vs ts) : RpL D sx H r vs.dropLast ts.dropLast := by
  rw [List.dropLast_eq_take, List.dropLast_eq_take, l.length]
  exact l.take _
theorem RpL.isEmpty {vs : List V} {ts : List T} (l : RpL D sx H r vs ts) : vs.isEmpty = ts.isEmpty := by
  cases l <;> rfl
theorem RpL.rep {vs : List V} {ts : List T} (l : RpL D sx H r vs ts) : ∀ n : Nat, RpL D sx H r (List.replicate n vs).flatten (List.replicate n ts).flatten
  | 0 => .nil
  | n + 1 => by
    rw [List.replicate_succ, List.replicate_succ, List.flatten_cons, List.flatten_cons]
    exact l.append (RpL.rep l n)
end

def FR (D : Wd) (H : Hp) (rho : Rho) (gs : List (Str × V)) (fs : List (Nat × T)) : Prop := gs.map (·.1) = fs.map (fun p => D.fl p.1) ∧ RpL D none H rho (gs.map (·.2)) (fs.map (·.2))
def CellR (D : Wd) (H : Hp) (rho : Rho) (a : Addr) : Cell → Prop
  | .lst ts => ∃ vs, H a = some (.lst vs) ∧ RpL D none H rho vs ts
  | .dct false ks ts => ∃ kvs : List (Key × V), H a = some (.dK kvs) ∧ ks = kvs.map (fun p => keyT p.1) ∧ RpL D none H rho (kvs.map (·.2)) ts
  | .dct true ks ts => ∃ kvs : List (List Key × V), H a = some (.dT kvs) ∧ ks = kvs.map (fun p => .tup (p.1.map keyT)) ∧ RpL D none H rho (kvs.map (·.2)) ts
  | .obj c fs => ∃ dx gs, H a = some (.ins (D.ca c) dx gs) ∧ c < D.nc ∧ FR D H rho gs fs
structure RelH (D : Wd) (H : Hp) (rho : Rho) (h : AH) : Prop where
  len : rho.length = h.length
  nd : rho.Nodup
  cell : ∀ (n : Nat) (a : Addr) (c : Cell), rho[n]? = some a → h[n]? = some c → CellR D H rho a c
def RelE (D : Wd) (sx : Sx) (H : Hp) (rho : Rho) (σ : L2.St) (env : Env) : Prop := σ.length = env.length ∧ ∀ (i : Nat) (t : T), env[i]? = some (some t) → ∃ v, σ[i]? = some (some v) ∧ Rp D sx H rho v t
section
variable {H H' : Hp} {r r' : Rho} {sx : Sx} {h : AH} {σ : L2.St} {env : Env}
theorem RelE.stepK (s : Keep H r H' r') (e : RelE D sx H r σ env) : RelE D sx H' r' σ env := ⟨e.1, fun i t q => let ⟨v, a, b⟩ := e.2 i t q; ⟨v, a, b.stepK s⟩⟩
theorem RelE.step (s : Step H r H' r') (e : RelE D sx H r σ env) : RelE D sx H' r' σ env := e.stepK s.k
theorem RelE.set {v : V} {t : T} (e : RelE D sx H r σ env) (i : Nat) (x : Rp D sx H r v t) : RelE D sx H r (σ.set i (some v)) (env.set i (some t)) := by
  refine ⟨by simp [e.1], fun j u q => ?_⟩
  by_cases hj : i = j
  · subst hj
    by_cases hi : i < env.length
    · rw [List.getElem?_set_self hi] at q
      have q2 : t = u := by injection q with q; injection q
      subst q2
      exact ⟨v, by rw [List.getElem?_set_self (by rw [e.1]; exact hi)], x⟩
    · rw [List.getElem?_eq_none (by simpa using hi)] at q; cases q
  · rw [List.getElem?_set_ne hj] at q ⊢
    exact e.2 j u q
theorem RelE.wipe (e : RelE D sx H r σ env) : ∀ own : List Nat, RelE D sx H r (wipe σ own) (wipeE env own)
  | [] => e
  | v :: vs => by
    have ih := RelE.wipe e vs
    refine ⟨by simp [L2.wipe, wipeE, ih.1], fun j u q => ?_⟩
    unfold wipeE at q
    unfold L2.wipe
    by_cases hj : v = j
    · subst hj
      by_cases hi : v < (wipeE env vs).length
      · rw [List.getElem?_set_self hi] at q; cases q
      · rw [List.getElem?_eq_none (by simpa using hi)] at q; cases q
    · rw [List.getElem?_set_ne hj] at q ⊢
      exact ih.2 j u q
theorem FR.stepK (s : Keep H r H' r') {gs : List (Str × V)} {fs : List (Nat × T)} (f : FR D H r gs fs) : FR D H' r' gs fs := ⟨f.1, f.2.stepK s⟩
theorem CellR.stepK (s : Keep H r H' r') {a : Addr} (e : H' a = H a) : ∀ {c : Cell}, CellR D H r a c → CellR D H' r' a c
  | .lst _, ⟨vs, q, l⟩ => ⟨vs, e.trans q, l.stepK s⟩
  | .dct false _ _, ⟨kvs, q, z, l⟩ => ⟨kvs, e.trans q, z, l.stepK s⟩
  | .dct true _ _, ⟨kvs, q, z, l⟩ => ⟨kvs, e.trans q, z, l.stepK s⟩
  | .obj _ _, ⟨dx, gs, q, b, f⟩ => ⟨dx, gs, e.trans q, b, f.stepK s⟩
theorem CellR.step (s : Step H r H' r') {a : Addr} (e : H' a = H a) {c : Cell} (x : CellR D H r a c) : CellR D H' r' a c := x.stepK s.k e
theorem CellR.some {a : Addr} : ∀ {c : Cell}, CellR D H r a c → ∃ o, H a = some o ∧ stays o = false
  | .lst _, ⟨vs, q, l⟩ => ⟨_, q, rfl⟩
  | .dct false _ _, ⟨kvs, q, z, l⟩ => ⟨_, q, rfl⟩
  | .dct true _ _, ⟨kvs, q, z, l⟩ => ⟨_, q, rfl⟩
  | .obj _ _, ⟨dx, gs, q, b, f⟩ => ⟨_, q, rfl⟩
theorem RelH.addr (R : RelH D H r h) {n : Nat} {c : Cell} (e : h[n]? = some c) : ∃ a, r[n]? = some a ∧ CellR D H r a c := by
  have hn : n < r.length := by rw [R.len]; exact (List.getElem?_eq_some_iff.mp e).1
  exact ⟨r[n], by simp [hn], R.cell n _ c (by simp [hn]) e⟩
theorem RelH.mem (R : RelH D H r h) {a : Addr} (m : a ∈ r) : ∃ o, H a = some o ∧ stays o = false := by
  obtain ⟨n, hn, e⟩ := List.mem_iff_getElem.mp m
  have hn2 : n < h.length := by rw [← R.len]; exact hn
  exact (R.cell n a h[n] (by simp [hn, e]) (by simp [hn2])).some
theorem RelH.beside (R : RelH D H r h) {p : Addr} {o : HO} (n : H p = none) : RelH D (upd H p o) r h := by
  refine ⟨R.len, R.nd, fun m a c e1 e2 => (R.cell m a c e1 e2).step (Step.new n) (upd_ne ?_)⟩
  obtain ⟨o', q, _⟩ := (R.cell m a c e1 e2).some
  exact ne_of_none q n
theorem RelH.push (R : RelH D H r h) {p : Addr} {o : HO} {c : Cell} (n : H p = none) (hc : CellR D (upd H p o) (r ++ [p]) p c) : RelH D (upd H p o) (r ++ [p]) (h ++ [c]) := by
  have hp : p ∉ r := fun m => by obtain ⟨o', q, _⟩ := R.mem m; rw [n] at q; cases q
  refine ⟨by simp [R.len], ?_, fun m a c' e1 e2 => ?_⟩
  · rw [List.nodup_append]
    refine ⟨R.nd, by simp, fun x hx y hy z => ?_⟩
    simp at hy
    subst hy
    subst z
    exact hp hx
  · by_cases hm : m < r.length
    · rw [List.getElem?_append_left hm] at e1
      rw [List.getElem?_append_left (by rw [← R.len]; exact hm)] at e2
      refine (R.cell m a c' e1 e2).step (Step.new' n) (upd_ne ?_)
      obtain ⟨o', q, _⟩ := (R.cell m a c' e1 e2).some
      exact ne_of_none q n
    · have hm2 : m = r.length := by
        have := (List.getElem?_eq_some_iff.mp e1).1
        simp at this; omega
      subst hm2
      rw [List.getElem?_append_right (Nat.le_refl _)] at e1
      rw [R.len, List.getElem?_append_right (Nat.le_refl _)] at e2
      simp at e1 e2
      subst e1; subst e2
      exact hc
theorem RelH.put (R : RelH D H r h) {n : Nat} {a : Addr} {o u : HO} {c : Cell} (ea : r[n]? = some a) (eu : H a = some u) (su : stays u = false) (hc : CellR D (upd H a o) r a c) : RelH D (upd H a o) r (h.set n c) := by
  refine ⟨by simp [R.len], R.nd, fun m b c' e1 e2 => ?_⟩
  by_cases hm : n = m
  · subst hm
    have hn : n < h.length := by rw [← R.len]; exact (List.getElem?_eq_some_iff.mp ea).1
    rw [List.getElem?_set_self hn] at e2
    rw [ea] at e1
    cases e1; cases e2
    exact hc
  · rw [List.getElem?_set_ne hm] at e2
    refine (R.cell m b c' e1 e2).step (Step.set ea eu su) (upd_ne fun z => hm ?_)
    subst z
    exact (nodup_addr R.nd ea e1)
where
  nodup_addr {l : List Addr} (nd : l.Nodup) {i j : Nat} {x : Addr} (a : l[i]? = some x) (b : l[j]? = some x) : i = j := by
    obtain ⟨h1, e1⟩ := List.getElem?_eq_some_iff.mp a
    obtain ⟨h2, e2⟩ := List.getElem?_eq_some_iff.mp b
    exact (List.getElem_inj nd).mp (e1.trans e2.symm)
end

def ExR (D : Wd) (H : Hp) (rho : Rho) (cls : Value) (d : Option Addr) (c : Nat) (t : T) : Prop := ∃ dd v, c < D.nx ∧ cls = .ref (D.xa c) ∧ d = some dd ∧ H dd = some (.xd [(D.xf c, v)]) ∧ Rp D none H rho v t
theorem ExR.step {H H' : Hp} {r r' : Rho} (s : Step H r H' r') {cls : Value} {d : Option Addr} {c : Nat} {t : T} (x : ExR D H r cls d c t) : ExR D H' r' cls d c t := by
  obtain ⟨dd, v, z, a, b, e, q⟩ := x
  exact ⟨dd, v, z, a, b, s.stay e rfl, q.step s⟩
def outR (D : Wd) {α : Type} (W : WX) (σ : L2.St) (H : Hp) (rho : Rho) (Q : α → Hp → Rho → AH → Prop) : R α → Prop
  | .ok t h' => ∀ H' rho', Step H rho H' rho' → RelH D H' rho' h' → Q t H' rho' h'
  | .exc c t h' => ∀ H' rho' cls d, Step H rho H' rho' → RelH D H' rho' h' → ExR D H' rho' cls d c t → W cls d σ H'
  | .stuck => False
def outE (D : Wd) (sx : Sx) (W : WX) (σ : L2.St) (H : Hp) (rho : Rho) (Q : VK) : R T → Prop := outR D W σ H rho fun t H' rho' _ => ∀ v, Rp D sx H' rho' v t → Q v H'
section
variable {α β : Type} {W : WX} {σ : L2.St} {H H1 : Hp} {rho rho1 : Rho}
theorem outR.step {Q : α → Hp → Rho → AH → Prop} (s : Step H rho H1 rho1) : ∀ {x : R α}, outR D W σ H rho Q x → outR D W σ H1 rho1 Q x
  | .ok _ _, q => fun H' r' s' R => q H' r' (s.trans s') R
  | .exc _ _ _, q => fun H' r' cls d s' R x => q H' r' cls d (s.trans s') R x
  | .stuck, q => q
theorem outR.mono {Q Q' : α → Hp → Rho → AH → Prop} (hq : ∀ t H' r' h', Step H rho H' r' → RelH D H' r' h' → Q t H' r' h' → Q' t H' r' h') : ∀ {x : R α}, outR D W σ H rho Q x → outR D W σ H rho Q' x
  | .ok _ _, q => fun H' r' s R => hq _ _ _ _ s R (q H' r' s R)
  | .exc _ _ _, q => q
  | .stuck, q => q
theorem outR.bind {Q : β → Hp → Rho → AH → Prop} {k : α → AH → R β} : ∀ {x : R α}, outR D W σ H rho Q (x.bind k) → outR D W σ H rho (fun t H' r' h' => outR D W σ H' r' Q (k t h')) x
  | .ok _ _, q => fun H' r' s R => outR.step s q
  | .exc _ _ _, q => q
  | .stuck, q => q
theorem outR.ok_inv {Q : α → Hp → Rho → AH → Prop} {t : α} {h' : AH} (R : RelH D H rho h') (q : outR D W σ H rho Q (.ok t h')) : Q t H rho h' := q H rho Step.rfl R
end
def rdE (D : Wd) (sx : Sx) (W : WX) (f : Env → AH → R T) : TE := fun σ H Q => ∃ rho env h, RelE D sx H rho σ env ∧ RelH D H rho h ∧ outE D sx W σ H rho Q (f env h)
def rdB (D : Wd) (sx : Sx) (W : WX) (f : Env → AH → R Bool) : TT := fun σ H Q => ∃ rho env h, RelE D sx H rho σ env ∧ RelH D H rho h ∧ outR D W σ H rho (fun b H' _ _ => Q b H') (f env h)
def rdL (D : Wd) (sx : Sx) (W : WX) (f : Env → AH → R (List T)) : TA := fun σ H Q => ∃ rho env h, RelE D sx H rho σ env ∧ RelH D H rho h ∧ outR D W σ H rho (fun ts H' rho' _ => ∀ vs, RpL D sx H' rho' vs ts → Q vs H') (f env h)
structure At (D : Wd) (sx : Sx) (σ : L2.St) (H : Hp) (rho : Rho) (env : Env) (h : AH) : Prop where
  e : RelE D sx H rho σ env
  r : RelH D H rho h
theorem At.step {sx : Sx} {σ : L2.St} {H H' : Hp} {rho rho' : Rho} {env : Env} {h h' : AH} (a : At D sx σ H rho env h) (s : Step H rho H' rho') (R : RelH D H' rho' h') : At D sx σ H' rho' env h' := ⟨a.e.step s, R⟩
theorem rdE_of {sx : Sx} {W : WX} {σ : L2.St} {H : Hp} {rho : Rho} {env : Env} {h : AH} {f : Env → AH → R T} {Q : VK} (a : At D sx σ H rho env h) (q : outR D W σ H rho (fun t H' rho' _ => ∀ v, Rp D sx H' rho' v t → Q v H') (f env h)) : rdE D sx W f σ H Q := ⟨rho, env, h, a.e, a.r, q⟩
theorem rdB_of {sx : Sx} {W : WX} {σ : L2.St} {H : Hp} {rho : Rho} {env : Env} {h : AH} {f : Env → AH → R Bool} {Q : Bool → Hp → Prop} (a : At D sx σ H rho env h) (q : outR D W σ H rho (fun b H' _ _ => Q b H') (f env h)) : rdB D sx W f σ H Q := ⟨rho, env, h, a.e, a.r, q⟩
theorem rdL_of {sx : Sx} {W : WX} {σ : L2.St} {H : Hp} {rho : Rho} {env : Env} {h : AH} {f : Env → AH → R (List T)} {Q : List V → Hp → Prop} (a : At D sx σ H rho env h) (q : outR D W σ H rho (fun ts H' rho' _ => ∀ vs, RpL D sx H' rho' vs ts → Q vs H') (f env h)) : rdL D sx W f σ H Q := ⟨rho, env, h, a.e, a.r, q⟩

theorem PE_imp {X : Cx} {e : Expr} {t t' : TE} (p : PE X e t) (i : ∀ σ H Q, t' σ H Q → t σ H Q) : PE X e t' := ⟨fun pins s σ H Q I h => p.run pins s σ H Q I (i σ H Q h)⟩
theorem PT_imp {X : Cx} {e : Expr} {t t' : TT} (p : PT X e t) (i : ∀ σ H Q, t' σ H Q → t σ H Q) : PT X e t' := ⟨fun pins s σ H Q I h => p.run pins s σ H Q I (i σ H Q h)⟩
theorem PA_imp {X : Cx} {e : List Expr} {t t' : TA} (p : PA X e t) (i : ∀ σ H Q, t' σ H Q → t σ H Q) : PA X e t' := ⟨fun pos pins s σ H Q I h => p.run pos pins s σ H Q I (i σ H Q h)⟩
theorem PS_imp {X : Cx} {e : Stmt} {t t' : TS} (p : PS X e t) (i : ∀ D σ H, t' D σ H → t D σ H) : PS X e t' := ⟨fun pins s σ H Q I h => p.run pins s σ H Q I (i Q σ H h)⟩

def frzb : HO → Bool
  | .lst _ => true
  | .dK _ => true
  | .dT _ => true
  | _ => false
def FrzQ (Q : VK) : VK := fun v H => Q v H ∨ ∃ p u, v = .ref p ∧ H p = some u ∧ frzb u = true ∧ ∀ o, Q v (upd H p (.frz o u))
section
variable {X : Cx} {pins : List (Addr × Obj)} {σ : L2.St} {H : Hp} {s : Shared}
theorem Inv.freeze {p : Addr} {u : HO} (I : Inv X pins σ H s) (e : H p = some u) (f : frzb u = true) : ∃ o, Inv X pins σ (upd H p (.frz o u)) s := by
  have hx := I.hok p u e
  obtain ⟨o, ho⟩ : ∃ o, s.heap.get? p = some o := L2.objOk_get hx
  have nt : ∀ b xs, H b = some (.tup xs) → b ≠ p := fun b xs q z => by subst z; rw [e] at q; cases q; cases f
  have nz : ∀ b ob v, H b = some (.frz ob v) → b ≠ p := fun b ob v q z => by subst z; rw [e] at q; cases q; cases f
  have nb : ∀ b ps, H b = some (.tbl ps) → b ≠ p := fun b ps q z => by subst z; rw [e] at q; cases q; cases f
  have no : ∀ b x, H b = some (.own x) → b ≠ p := fun b x q z => by subst z; rw [e] at q; cases q; cases f
  have nn : ∀ b, H b = none → b ≠ p := fun b q z => by subst z; rw [e] at q; cases q
  refine ⟨o, I.ok, I.os, I.bare, ⟨I.base.keep, I.base.slot, fun b ob q n hb => ?_, I.base.there, fun b xs q => ?_, fun b ob v q => ?_, fun b ps q => ?_⟩, I.loc, I.cell, ?_, fun x c q => ?_, fun q hq => ?_, fun b v q => ?_, I.len⟩
  · rw [upd_ne (nn b (I.base.free b ob q n hb))]; exact I.base.free b ob q n hb
  · have q2 := I.base.tups b xs q
    rw [upd_ne (nt b xs q2)]; exact q2
  · have q2 := I.base.frzs b ob v q
    rw [upd_ne (nz b ob v q2)]; exact q2
  · obtain ⟨m, q2⟩ := I.base.tbls b ps q
    exact ⟨m, by rw [upd_ne (nb b _ q2)]; exact q2⟩
  · rw [upd_ne (nn _ I.free)]; exact I.free
  · rw [upd_ne (nn _ (I.freeC x c q))]; exact I.freeC x c q
  · obtain ⟨a, b, c, d, g⟩ := I.pin q hq
    exact ⟨a, by rw [upd_ne (nn _ b)]; exact b, c, d, g⟩
  · by_cases hb : b = p
    · subst hb
      rw [upd_same] at q
      cases q
      exact ⟨ho, hx.stay (fun c w _ r => r) (fun c r => by rw [upd_ne (no c _ r)]; exact r) fun c xs r => by rw [upd_ne (nt c xs r)]; exact r⟩
    · rw [upd_ne hb] at q
      exact (I.hok b v q).stay (fun c w _ r => r) (fun c r => by rw [upd_ne (no c _ r)]; exact r) fun c xs r => by rw [upd_ne (nt c xs r)]; exact r
theorem EP_frz {Q : VK} {u : Value} (h : EP X pins σ (FrzQ Q) u s) : EP X pins σ Q u s := by
  obtain ⟨v, H', I, r, q⟩ := h
  rcases q with q | ⟨p, w, rfl, e, f, q⟩
  · exact ⟨v, H', I, r, q⟩
  · obtain ⟨o, J⟩ := Inv.freeze I e f
    exact ⟨_, _, J, r, q o⟩
theorem PE_frz {e : Expr} {t : TE} (p : PE X e t) : PE X e (fun σ H Q => t σ H (FrzQ Q)) := ⟨fun pins s σ H Q I h => thn (p.run pins s σ H _ I h) fun _ _ q => EP_frz q⟩
end
theorem fresh_ok {W : WX} {σ : L2.St} {H : Hp} {rho : Rho} {h : AH} {Q : VK} {m : Bool} {ts : List T} {vs : List V} (R : RelH D H rho h) (l : RpL D none H rho vs ts) (o : outE D none W σ H rho Q (fresh m ts h)) :
    vs.length ≤ sizeLine ∧ ∀ p, H p = none → FrzQ Q (.ref p) (upd H p (.lst vs)) := by
  unfold fresh at o
  by_cases hz : ts.length ≤ sizeLine
  · rw [if_pos hz] at o
    refine ⟨by rw [l.length]; exact hz, fun p n => ?_⟩
    cases m with
    | true =>
      rw [if_pos rfl] at o
      refine .inl (o _ (rho ++ [p]) (Step.new' n) (R.push n ⟨vs, upd_same, l.step (Step.new' n)⟩) _ (.ref ?_))
      rw [← R.len]; simp
    | false =>
      rw [if_neg (by decide)] at o
      refine .inr ⟨p, _, rfl, upd_same, rfl, fun ob => ?_⟩
      rw [upd_upd]
      exact o _ rho (Step.new n) (R.beside n) _ (.lst upd_same (l.step (Step.new n)))
  · rw [if_neg hz] at o; exact o.elim
theorem tup_ok {sx : Sx} {W : WX} {σ : L2.St} {H : Hp} {rho : Rho} {h : AH} {Q : VK} {ts : List T} {vs : List V} (R : RelH D H rho h) (l : RpL D sx H rho vs ts) (o : outE D sx W σ H rho Q (.ok (.tup ts) h)) {p : Addr} (n : H p = none) : Q (.ref p) (upd H p (.tup vs)) :=
  o _ rho (Step.new n) (R.beside n) _ (.tup upd_same (l.step (Step.new n)))
theorem val_ok {sx : Sx} {W : WX} {σ : L2.St} {H : Hp} {rho : Rho} {h : AH} {Q : VK} {t : T} {v : V} (R : RelH D H rho h) (x : Rp D sx H rho v t) (o : outE D sx W σ H rho Q (.ok t h)) : Q v H := o _ rho Step.rfl R _ x
end
end PS
end
section
set_option maxRecDepth 100000
set_option maxHeartbeats 2000000
namespace PS
open PySem PySem.Spec PyProof.Rows L2
variable {σ2 : L2.St} {D : Wd} {X : Cx} {pins : List (Addr × Obj)} {σ : L2.St} {H : Hp} {s : Shared} {rho : Rho} {h : AH} {W : WX} {sx : Sx}

theorem snap_ref (h : AH) (n : Nat) : snap h (.ref n) = (match h[n]? with
    | some (.lst xs) => .lst xs
    | some (.dct tk ks vs) => .dct tk ks vs
    | _ => .ref n) := rfl
theorem view_list (R : RelH D H rho h) {v : V} {t : T} {xs : List T} (x : Rp D none H rho v t) (e : isList h t = some xs) : ∃ a vs, v = .ref a ∧ SqL D.K H a vs ∧ RpL D none H rho vs xs := by
  unfold isList at e
  cases x with
  | lst q l =>
    simp only [snap] at e
    cases e
    exact ⟨_, _, rfl, .inl (.inr ⟨_, q⟩), l⟩
  | @ref a n q =>
    rw [snap_ref] at e
    cases hn : h[n]? with
    | none => rw [hn] at e; cases e
    | some c =>
      rw [hn] at e
      cases c with
      | lst ys =>
        cases e
        obtain ⟨vs, q1, l⟩ := R.cell n a _ q hn
        exact ⟨_, _, rfl, SqL.of q1, l⟩
      | dct tk ks vs => cases e
      | obj c fs => cases e
  | _ => cases e
theorem view_seq (R : RelH D H rho h) {v : V} {t : T} {xs : List T} (x : Rp D none H rho v t) (e : seqV h t = some xs) : ∃ a vs, v = .ref a ∧ (SqL D.K H a vs ∨ SqT D.K H a vs) ∧ RpL D none H rho vs xs := by
  unfold seqV at e
  cases x with
  | lst q l =>
    simp only [snap] at e
    cases e
    exact ⟨_, _, rfl, .inl (.inl (.inr ⟨_, q⟩)), l⟩
  | tup q l =>
    simp only [snap] at e
    cases e
    exact ⟨_, _, rfl, .inr (SqT.of q), l⟩
  | @ref a n q =>
    rw [snap_ref] at e
    cases hn : h[n]? with
    | none => rw [hn] at e; cases e
    | some c =>
      rw [hn] at e
      cases c with
      | lst ys =>
        cases e
        obtain ⟨vs, q1, l⟩ := R.cell n a _ q hn
        exact ⟨_, _, rfl, .inl (SqL.of q1), l⟩
      | dct tk ks vs => cases e
      | obj c fs => cases e
  | _ => cases e
theorem snap_cases (h : AH) (t : T) : (∃ n, t = .ref n ∧ ∃ xs, h[n]? = some (.lst xs) ∧ snap h t = .lst xs) ∨ (∃ n, t = .ref n ∧ ∃ tk ks vs, h[n]? = some (.dct tk ks vs) ∧ snap h t = .dct tk ks vs) ∨ (∃ n, t = .ref n ∧ snap h t = .ref n) ∨ ((∀ n, t ≠ .ref n) ∧ snap h t = t) := by
  cases t with
  | ref n =>
    rw [snap_ref]
    cases hn : h[n]? with
    | none => exact .inr (.inr (.inl ⟨n, rfl, rfl⟩))
    | some c =>
      cases c with
      | lst xs => exact .inl ⟨n, rfl, xs, hn, rfl⟩
      | dct tk ks vs => exact .inr (.inl ⟨n, rfl, tk, ks, vs, hn, rfl⟩)
      | obj c fs => exact .inr (.inr (.inl ⟨n, rfl, rfl⟩))
  | _ => exact .inr (.inr (.inr ⟨fun n e => (by cases e), rfl⟩))
mutual
theorem Rp.dp : ∀ {v : V} {t : T} {d : PyData}, Rp D none H rho v t → t.dat = some d → Dp D.K H v d
  | _, _, _, .non, e => by simp only [T.dat] at e; cases e; exact .non
  | _, _, _, .bl b, e => by simp only [T.dat] at e; cases e; exact .bl b
  | _, _, _, .int i, e => by simp only [T.dat] at e; cases e; exact .int i
  | _, _, _, .str x, e => by simp only [T.dat] at e; cases e; exact .str x
  | _, _, _, .tup (ts := ts) q l, e => by
    simp only [T.dat] at e
    cases hd : T.datL ts with
    | none => rw [hd] at e; cases e
    | some ds => rw [hd] at e; cases e; exact .tup (SqT.of q) (RpL.dp l hd)
  | _, _, _, .lst (ts := ts) q l, e => by
    simp only [T.dat] at e
    cases hd : T.datL ts with
    | none => rw [hd] at e; cases e
    | some ds => rw [hd] at e; cases e; exact .lst (.inl (.inr ⟨_, q⟩)) (RpL.dp l hd)
  | _, _, _, .dK _ _ _, e => by simp only [T.dat] at e; cases e
  | _, _, _, .dT _ _ _, e => by simp only [T.dat] at e; cases e
  | _, _, _, .ref _, e => by simp only [T.dat] at e; cases e
  | _, _, _, .exn _ _ _ _, e => by simp only [T.dat] at e; cases e
theorem RpL.dp : ∀ {vs : List V} {ts : List T} {ds : List PyData}, RpL D none H rho vs ts → T.datL ts = some ds → DpAll D.K H vs ds
  | _, _, _, .nil, e => by simp only [T.datL] at e; cases e; exact .nil
  | _, _, _, .cons (t := t) (ts := ts) x l, e => by
    simp only [T.datL] at e
    cases h1 : T.dat t with
    | none => rw [h1] at e; cases e
    | some d =>
      cases h2 : T.datL ts with
      | none => rw [h1, h2] at e; cases e
      | some ds =>
        rw [h1, h2] at e
        cases e
        exact .cons (Rp.dp x h1) (RpL.dp l h2)
end
theorem snap_dp (R : RelH D H rho h) {v : V} {t : T} {d : PyData} (x : Rp D none H rho v t) (e : (snap h t).dat = some d) : Dp D.K H v d := by
  rcases snap_cases h t with ⟨n, rfl, xs, hn, q⟩ | ⟨n, rfl, tk, ks, vs, hn, q⟩ | ⟨n, rfl, q⟩ | ⟨_, q⟩
  · rw [q] at e
    cases x with
    | ref r =>
      obtain ⟨ws, q1, l⟩ := R.cell n _ _ r hn
      simp only [T.dat] at e
      cases hd : T.datL xs with
      | none => rw [hd] at e; cases e
      | some ds => rw [hd] at e; cases e; exact .lst (SqL.of q1) (RpL.dp l hd)
  · rw [q] at e; simp only [T.dat] at e; cases e
  · rw [q] at e; simp only [T.dat] at e; cases e
  · rw [q] at e; exact x.dp e

theorem eqD_inv {d e : PyData} {k : Bool} (q : eqD d e = some k) : min d.depth e.depth ≤ deepest ∧ k = PyData.eqv d e := by
  unfold eqD at q
  split at q
  · rename_i c; cases q; exact ⟨c, rfl⟩
  · cases q
mutual
theorem dat_plain : ∀ {t : T} {d : PyData}, t.dat = some d → d.plain = true
  | .non, _, e => by simp only [T.dat] at e; cases e; rfl
  | .bl _, _, e => by simp only [T.dat] at e; cases e; rfl
  | .int _, _, e => by simp only [T.dat] at e; cases e; rfl
  | .str _, _, e => by simp only [T.dat] at e; cases e; rfl
  | .tup xs, _, e => by
    simp only [T.dat] at e
    cases h : T.datL xs with
    | none => rw [h] at e; cases e
    | some ds => rw [h] at e; cases e; simp only [PyData.plain]; exact datL_plain h
  | .lst xs, _, e => by
    simp only [T.dat] at e
    cases h : T.datL xs with
    | none => rw [h] at e; cases e
    | some ds => rw [h] at e; cases e; simp only [PyData.plain]; exact datL_plain h
  | .dct _ _ _, _, e => by simp only [T.dat] at e; cases e
  | .ref _, _, e => by simp only [T.dat] at e; cases e
  | .clo _ _, _, e => by simp only [T.dat] at e; cases e
  | .exn _ _, _, e => by simp only [T.dat] at e; cases e
theorem datL_plain : ∀ {ts : List T} {ds : List PyData}, T.datL ts = some ds → PyData.plainAll ds = true
  | [], _, e => by simp only [T.datL] at e; cases e; rfl
  | t :: ts, _, e => by
    simp only [T.datL] at e
    cases h1 : t.dat with
    | none => rw [h1] at e; cases e
    | some d =>
      cases h2 : T.datL ts with
      | none => rw [h1, h2] at e; cases e
      | some ds =>
        rw [h1, h2] at e
        cases e
        simp only [PyData.plainAll, Bool.and_eq_true]
        exact ⟨dat_plain h1, datL_plain h2⟩
end
theorem eqT_inv {a b : T} {k : Bool} (q : eqT a b = some k) : ∃ d e, a.dat = some d ∧ b.dat = some e ∧ eqD d e = some k := by
  unfold eqT at q
  cases h1 : a.dat with
  | none => rw [h1] at q; cases q
  | some d =>
    cases h2 : b.dat with
    | none => rw [h1, h2] at q; cases q
    | some e => rw [h1, h2] at q; exact ⟨d, e, rfl, rfl, q⟩
theorem cmp_eq (hK : D.K = X.K) (hu : X.A.units + 190 < cLine) {x y : V} {v u : Value} {t t' : T} {k : Bool} {Q : VK} (I : Inv X pins σ H s) (R : RelH D H rho h) (rx : RelV x v) (ry : RelV y u) (px : Rp D none H rho x t) (py : Rp D none H rho y t')
    (e : eqT (snap h t) (snap h t') = some k) (q : Q (.bl k) H) : wpAny (model X.prog X.w) X.A (compareOp .Eq v u) (EP X pins σ Q) X.xe s := by
  obtain ⟨d, d', e1, e2, e3⟩ := eqT_inv e
  obtain ⟨c3, rfl⟩ := eqD_inv e3
  have p1 := snap_dp R px e1
  have p2 := snap_dp R py e2
  rw [hK] at p1 p2
  obtain ⟨as, r1⟩ := Dp.reads I d x v p1 rx
  obtain ⟨bs, r2⟩ := Dp.reads I d' y u p2 ry
  exact SeqAt.eq_plain r1 r2 (dat_plain e1) (dat_plain e2) (by unfold deepest at c3; omega) ⟨.bl _, H, I, rfl, q⟩
theorem cmp_ne (hK : D.K = X.K) (hu : X.A.units + 190 < cLine) {x y : V} {v u : Value} {t t' : T} {k : Bool} {Q : VK} (I : Inv X pins σ H s) (R : RelH D H rho h) (rx : RelV x v) (ry : RelV y u) (px : Rp D none H rho x t) (py : Rp D none H rho y t')
    (e : eqT (snap h t) (snap h t') = some k) (q : Q (.bl (!k)) H) : wpAny (model X.prog X.w) X.A (compareOp .NotEq v u) (EP X pins σ Q) X.xe s := by
  obtain ⟨d, d', e1, e2, e3⟩ := eqT_inv e
  obtain ⟨c3, rfl⟩ := eqD_inv e3
  have p1 := snap_dp R px e1
  have p2 := snap_dp R py e2
  rw [hK] at p1 p2
  obtain ⟨as, r1⟩ := Dp.reads I d x v p1 rx
  obtain ⟨bs, r2⟩ := Dp.reads I d' y u p2 ry
  exact SeqAt.ne_plain r1 r2 (dat_plain e1) (dat_plain e2) (by unfold deepest at c3; omega) ⟨.bl _, H, I, rfl, q⟩

theorem list_new {Q : VK} {vs : List V} {its : List Value} {n : Nat} {t' : Nat} (I : Inv X pins σ H s) (hv : Vals vs its) (hz : vs.length ≤ sizeLine) (q : ∀ p, H p = none → FrzQ Q (.ref p) (upd H p (.lst vs))) :
    EP X pins σ Q (.ref s.heap.objs.size) { s with heap := s.heap.push { cls := .type "list", data := .seq its.toArray n }, toks := t' } :=
  EP_frz ⟨.ref s.heap.objs.size, _, I.laid (t' := t') (o := .lst vs) (fun _ _ q => Heap.get?_push_of_some _ q) (Nat.le_refl _) ⟨hz, its, n, hv, Heap.get?_push_size _ rfl⟩, rfl, q _ (I.hok.fresh (Nat.le_refl _))⟩
theorem tup_new {Q : VK} {vs : List V} {its : List Value} {t' : Nat} (I : Inv X pins σ H s) (hv : Vals vs its) (hz : vs.length ≤ sizeLine) (q : ∀ p, H p = none → Q (.ref p) (upd H p (.tup vs))) :
    EP X pins σ Q (.ref s.heap.objs.size) { s with heap := s.heap.push { cls := .type "tuple", data := .seq its.toArray }, toks := t' } :=
  ⟨.ref s.heap.objs.size, _, I.laid (t' := t') (o := .tup vs) (fun _ _ q => Heap.get?_push_of_some _ q) (Nat.le_refl _) ⟨hz, its, hv, IsTup.new _ _⟩, rfl, q _ (I.hok.fresh (Nat.le_refl _))⟩
theorem cat_list {m : Bool} {v u : Value} {Q : VK} {a b : Addr} {vs ws : List V} {xs ys : List T} (hK : D.K = X.K) (I : Inv X pins σ H s) (R : RelH D H rho h) (rx : RelV (.ref a) v) (ry : RelV (.ref b) u) (ha : SqL D.K H a vs) (hb : SqL D.K H b ws)
    (la : RpL D none H rho vs xs) (lb : RpL D none H rho ws ys) (o : outE D none W σ2 H rho Q (fresh m (xs ++ ys) h)) : wpAny (model X.prog X.w) X.A (binaryOp .Add v u) (EP X pins σ Q) X.xe s := by
  cases rx
  cases ry
  rw [hK] at ha hb
  obtain ⟨hz, q⟩ := fresh_ok R (la.append lb) o
  obtain ⟨its, r1, p1, _⟩ := I.list ha
  obtain ⟨its2, r2, p2, _⟩ := I.list hb
  obtain ⟨⟨cls, dd, data, sl⟩, ho, hc, n, hd⟩ := p1.isList
  obtain ⟨⟨cls2, dd2, data2, sl2⟩, ho2, hc2, n2, hd2⟩ := p2.isList
  simp only at hc hd hc2 hd2
  subst hc hd hc2 hd2
  have e : its.toArray ++ its2.toArray = (its ++ its2).toArray := by simp
  have hz2 : its.toArray.size + its2.toArray.size ≤ sizeLine := by
    rw [List.size_toArray, List.size_toArray, ← r1.length, ← r2.length, ← List.length_append]; exact hz
  refine concat_meets ⟨_, ho, rfl⟩ ⟨_, ho2, rfl⟩ noFill_list_add seq_list_add PySem.F.slot_list_add PySem.F.entry_list_add (PySem.F.args_list_add_2 _ _) (list_addW a b its.toArray its2.toArray n n2 dd dd2 sl sl2 hz2) ⟨ho, ho2, ?_⟩
  rw [e]
  exact list_new (t' := s.toks) I (r1.append r2) hz q
theorem cat_tup {v u : Value} {Q : VK} {a b : Addr} {vs ws : List V} {xs ys : List T} (hK : D.K = X.K) (I : Inv X pins σ H s) (R : RelH D H rho h) (rx : RelV (.ref a) v) (ry : RelV (.ref b) u) (ha : H a = some (.tup vs)) (hb : H b = some (.tup ws))
    (la : RpL D sx H rho vs xs) (lb : RpL D sx H rho ws ys) (hz : xs.length + ys.length ≤ sizeLine) (o : outE D sx W σ2 H rho Q (.ok (.tup (xs ++ ys)) h)) : wpAny (model X.prog X.w) X.A (binaryOp .Add v u) (EP X pins σ Q) X.xe s := by
  by_cases hv : vs = []
  · subst hv
    cases la
    have q := val_ok R (.tup hb lb) o
    cases rx
    cases ry
    obtain ⟨its, r1, ⟨⟨cls, dd, data, sl⟩, ho, hc, n, hd⟩, _⟩ := I.tuple (SqT.of ha)
    obtain ⟨its2, r2, ⟨⟨cls2, dd2, data2, sl2⟩, ho2, hc2, n2, hd2⟩, _⟩ := I.tuple (SqT.of hb)
    simp only at hc hd hc2 hd2
    subst hc hd hc2 hd2
    cases r1
    exact concat_meets ⟨_, ho, rfl⟩ ⟨_, ho2, rfl⟩ noFill_tuple_add seq_tuple_add PySem.F.slot_tuple_add PySem.F.entry_tuple_add (PySem.F.args_tuple_add_2 _ _)
      (tuple_addW0 a b _ its2.toArray n n2 dd dd2 sl sl2 rfl) ⟨ho, ho2, ⟨.ref b, H, I, rfl, q⟩⟩
  · refine op_catT pins s σ H (.ref a) (.ref b) v u Q I rx ry ⟨a, b, vs, ws, rfl, rfl, SqT.of ha, SqT.of hb, hv, by rw [la.length, lb.length]; exact hz, fun e => ?_, fun _ p n => tup_ok R (la.append lb) o n⟩
    subst e
    cases lb
    rw [List.append_nil] at o
    exact val_ok R (.tup ha la) o
def opS : Bo → Operator
  | .add => .Add
  | .sub => .Sub
  | .mul => .Mult
  | .mod => .Mod
  | .fdiv => .FloorDiv
  | .pow => .Pow
theorem bin_ok {m : Bool} {o : Bo} {x y : V} {v u : Value} {t t' : T} {Q : VK} (hK : D.K = X.K) (I : Inv X pins σ H s) (R : RelH D H rho h) (rx : RelV x v) (ry : RelV y u) (px : Rp D none H rho x t) (py : Rp D none H rho y t')
    (q : outE D none W σ2 H rho Q (binT m o t t' h)) : wpAny (model X.prog X.w) X.A (binaryOp (opS o) v u) (EP X pins σ Q) X.xe s := by
  cases o with
  | add =>
    have lists : (∀ xs ys, isList h t = some xs → isList h t' = some ys → outE D none W σ2 H rho Q (fresh m (xs ++ ys) h) → wpAny (model X.prog X.w) X.A (binaryOp (opS .add) v u) (EP X pins σ Q) X.xe s) := fun xs ys e1 e2 q => by
      obtain ⟨a, vs, rfl, ha, la⟩ := view_list R px e1
      obtain ⟨b, ws, rfl, hb, lb⟩ := view_list R py e2
      exact cat_list hK I R rx ry ha hb la lb q
    have gen : (match isList h t, isList h t' with
      | some xs, some ys => outE D none W σ2 H rho Q (fresh m (xs ++ ys) h)
      | _, _ => False) → wpAny (model X.prog X.w) X.A (binaryOp (opS .add) v u) (EP X pins σ Q) X.xe s := fun g => by
      cases e1 : isList h t with
      | none => rw [e1] at g; exact g.elim
      | some xs =>
        cases e2 : isList h t' with
        | none => rw [e1, e2] at g; exact g.elim
        | some ys => rw [e1, e2] at g; exact lists xs ys e1 e2 g
    have lift : ∀ {r : PS.R T}, outE D none W σ2 H rho Q (match isList h t, isList h t' with
      | some xs, some ys => fresh m (xs ++ ys) h
      | _, _ => .stuck) → (match isList h t, isList h t' with
      | some xs, some ys => outE D none W σ2 H rho Q (fresh m (xs ++ ys) h)
      | _, _ => False) := fun {_} g => by
      cases e1 : isList h t with
      | none => rw [e1] at g; exact g
      | some xs =>
        cases e2 : isList h t' with
        | none => rw [e1, e2] at g; exact g
        | some ys => rw [e1, e2] at g; exact g
    cases px with
    | int i =>
      cases py with
      | int j => exact op_add pins s σ H _ _ v u Q I rx ry ⟨i, j, rfl, rfl, val_ok R (.int _) q⟩
      | _ => exact gen (lift (r := .stuck) q)
    | str a =>
      cases py with
      | str b =>
        unfold binT at q
        simp only at q
        split at q
        · rename_i c
          exact op_add_str pins s σ H _ _ v u Q I rx ry ⟨a, b, rfl, rfl, c, val_ok R (.str _) q⟩
        · exact q.elim
      | _ => exact gen (lift (r := .stuck) q)
    | tup ha la =>
      cases py with
      | tup hb lb =>
        unfold binT at q
        simp only at q
        split at q
        · rename_i c
          exact cat_tup (W := W) (σ2 := σ2) hK I R rx ry ha hb la lb c q
        · exact q.elim
      | _ => exact gen (lift (r := .stuck) q)
    | _ => cases py <;> exact gen (lift (r := .stuck) q)
  | sub =>
    cases px with
    | int i =>
      cases py with
      | int j => exact op_sub pins s σ H _ _ v u Q I rx ry ⟨i, j, rfl, rfl, val_ok R (.int _) q⟩
      | _ => exact q.elim
    | _ => cases py <;> exact q.elim
  | mul =>
    cases px with
    | int i =>
      cases py with
      | int j =>
        unfold binT at q
        simp only at q
        split at q
        · rename_i c
          exact op_mul pins s σ H _ _ v u Q I rx ry ⟨i, j, rfl, rfl, c, val_ok R (.int _) q⟩
        · exact q.elim
      | _ => exact q.elim
    | @tup a vs ts ha la =>
      cases py with
      | int j =>
        unfold binT at q
        simp only at q
        split at q
        · rename_i c
          refine op_repT pins s σ H _ _ v u Q I rx ry ⟨a, j, vs, rfl, rfl, SqT.of ha, fun e => ?_, c.2.1, c.2.2.1, by rw [la.length]; exact c.2.2.2, fun p n => tup_ok R (la.rep _) q n⟩
          subst e
          cases la
          exact absurd c.1 (by decide)
        · exact q.elim
      | _ => exact q.elim
    | _ => cases py <;> exact q.elim
  | mod =>
    cases px with
    | int i =>
      cases py with
      | int j =>
        unfold binT at q
        simp only at q
        split at q
        · rename_i c
          exact op_mod pins s σ H _ _ v u Q I rx ry ⟨i, j, rfl, rfl, c, val_ok R (.int _) q⟩
        · exact q.elim
      | _ => exact q.elim
    | _ => cases py <;> exact q.elim
  | fdiv =>
    cases px with
    | int i =>
      cases py with
      | int j =>
        unfold binT at q
        simp only at q
        split at q
        · rename_i c
          exact op_fdiv pins s σ H _ _ v u Q I rx ry ⟨i, j, rfl, rfl, c, val_ok R (.int _) q⟩
        · exact q.elim
      | _ => exact q.elim
    | _ => cases py <;> exact q.elim
  | pow =>
    cases px with
    | int i =>
      cases py with
      | int j =>
        unfold binT at q
        simp only at q
        split at q
        · rename_i c
          exact op_pow pins s σ H _ _ v u Q I rx ry ⟨i, j, rfl, rfl, c, val_ok R (.int _) q⟩
        · exact q.elim
      | _ => exact q.elim
    | _ => cases py <;> exact q.elim

theorem nat_bne : ∀ n : Nat, (n != 0) = ((n : Int) != 0)
  | 0 => rfl
  | _ + 1 => rfl
theorem tru_T (R : RelH D H rho h) {x : V} {t : T} {k : Bool} (px : Rp D none H rho x t) (e : truT h t = some k) : TruV D.K x H k := by
  unfold truT at e
  rcases snap_cases h t with ⟨n, rfl, xs, hn, z⟩ | ⟨n, rfl, tk, ks, vs, hn, z⟩ | ⟨n, rfl, z⟩ | ⟨_, z⟩
  · rw [z] at e
    cases px with
    | ref r =>
      obtain ⟨ws, q1, l⟩ := R.cell n _ _ r hn
      cases e
      exact .inl ⟨ws, SqL.of q1, by rw [l.isEmpty]⟩
  · rw [z] at e
    cases px with
    | ref r =>
      cases e
  · rw [z] at e; cases e
  · rw [z] at e
    cases px with
    | non => cases e; rfl
    | bl b => cases e; rfl
    | int i => cases e; rfl
    | str y =>
      simp only at e
      split at e
      · rename_i c; cases e; exact ⟨c, nat_bne _⟩
      · cases e
    | tup q l => cases e; exact .inr (.inl ⟨_, SqT.of q, by rw [l.isEmpty]⟩)
    | lst q l => cases e; exact .inl ⟨_, .inl (.inr ⟨_, q⟩), by rw [l.isEmpty]⟩
    | dK => cases e
    | dT => cases e
    | ref => cases e
    | exn => cases e
end PS
end
section
set_option maxRecDepth 100000
set_option maxHeartbeats 2000000
namespace PS
open PySem PySem.Spec PyProof.Rows L2
variable {D : Wd} {X : Cx} {pins : List (Addr × Obj)} {σ : L2.St} {H : Hp} {s : Shared} {rho : Rho} {h : AH} {W : WX} {sx : Sx}

def nk : Key → NestedKey
  | .inl i => .num i
  | .inr x => .text x
theorem nk_inj {a b : Key} (e : nk a = nk b) : a = b := by
  cases a <;> cases b <;> simp [nk] at e <;> rw [e]
theorem key_keyT (a : Key) : (keyT a).key = some (nk a) := by cases a <;> simp [keyT, T.key, nk]
theorem keyL_map : ∀ ks : List Key, T.keyL (ks.map keyT) = some (ks.map nk)
  | [] => rfl
  | k :: ks => by simp only [List.map_cons, T.keyL, key_keyT, keyL_map ks]
theorem nks_inj : ∀ {a b : List Key}, a.map nk = b.map nk → a = b
  | [], [], _ => rfl
  | [], _ :: _, e => by simp at e
  | _ :: _, [], e => by simp at e
  | x :: xs, y :: ys, e => by
    simp only [List.map_cons, List.cons.injEq] at e
    rw [nk_inj e.1, nks_inj e.2]
theorem key_tup (ks : List Key) : (T.tup (ks.map keyT)).key = some (.tup (ks.map nk)) := by simp only [T.key, keyL_map, Option.map_some]
theorem find_gen {κ : Type} [DecidableEq κ] (f : κ → T) (g : κ → NestedKey) (hf : ∀ a, (f a).key = some (g a)) (hg : ∀ a b, g a = g b → a = b) (k : κ) : ∀ kvs : List (κ × V),
    (∃ j v, findK (g k) (kvs.map fun p => f p.1) = some j ∧ (kvs.map (·.2))[j]? = some v ∧ valV kvs k = some v) ∨ (findK (g k) (kvs.map fun p => f p.1) = none ∧ valV kvs k = none)
  | [] => .inr ⟨rfl, rfl⟩
  | (a, v) :: r => by
    simp only [List.map_cons, findK, hf]
    by_cases e : a = k
    · subst e
      rw [if_pos rfl]
      exact .inl ⟨0, v, rfl, rfl, valV_pos rfl⟩
    · rw [if_neg (fun z => e (hg _ _ (Option.some.inj z)))]
      rcases find_gen f g hf hg k r with ⟨j, u, h1, h2, h3⟩ | ⟨h1, h2⟩
      · exact .inl ⟨j + 1, u, by rw [h1]; rfl, by simpa using h2, by rw [valV_neg e]; exact h3⟩
      · exact .inr ⟨by rw [h1]; rfl, by rw [valV_neg e]; exact h2⟩
theorem set_gen {κ : Type} [DecidableEq κ] (f : κ → T) (g : κ → NestedKey) (hf : ∀ a, (f a).key = some (g a)) (hg : ∀ a b, g a = g b → a = b) (k : κ) {x : V} {t : T} (px : Rp D none H rho x t) : ∀ (kvs : List (κ × V)) {ts : List T}, RpL D none H rho (kvs.map (·.2)) ts →
    ((kvs.map fun kv => if kv.1 = k then (kv.1, x) else kv).map fun p => f p.1) = (kvs.map fun p => f p.1) ∧ RpL D none H rho ((kvs.map fun kv => if kv.1 = k then (kv.1, x) else kv).map (·.2)) (setK (g k) t (kvs.map fun p => f p.1) ts)
  | [], _, .nil => ⟨rfl, .nil⟩
  | (a, v) :: r, _, .cons p l => by
    obtain ⟨h1, h2⟩ := set_gen f g hf hg k px r l
    simp only [List.map_cons, setK, hf]
    by_cases e : a = k
    · subst e
      simp only [if_pos]
      exact ⟨by rw [h1], .cons px h2⟩
    · rw [if_neg e, if_neg (fun z => e (hg _ _ (Option.some.inj z)))]
      exact ⟨by rw [h1], .cons p h2⟩
theorem any_none {κ : Type} [DecidableEq κ] {kvs : List (κ × V)} {k : κ} (e : valV kvs k = none) : (kvs.any fun kv => decide (kv.1 = k)) = false := by
  rw [valV_any, e]; rfl
theorem any_some {κ : Type} [DecidableEq κ] {kvs : List (κ × V)} {k : κ} {v : V} (e : valV kvs k = some v) : (kvs.any fun kv => decide (kv.1 = k)) = true := by
  rw [valV_any, e]; rfl
theorem keyOk_false {t : T} {k : NestedKey} (e : keyOk false t = some k) : ∃ key, t = keyT key ∧ k = nk key := by
  cases t with
  | int i => simp [keyOk] at e; exact ⟨.inl i, rfl, e.symm⟩
  | str x => simp [keyOk] at e; exact ⟨.inr x, rfl, e.symm⟩
  | _ => simp [keyOk] at e
theorem flat_keys : ∀ {xs : List T}, xs.all flatK = true → ∃ ks : List Key, xs = ks.map keyT
  | [], _ => ⟨[], rfl⟩
  | x :: xs, e => by
    simp only [List.all_cons, Bool.and_eq_true] at e
    obtain ⟨ks, rfl⟩ := flat_keys e.2
    cases x with
    | int i => exact ⟨.inl i :: ks, rfl⟩
    | str y => exact ⟨.inr y :: ks, rfl⟩
    | _ => simp [flatK] at e
theorem keyOk_true {t : T} {k : NestedKey} (e : keyOk true t = some k) : ∃ ks : List Key, t = .tup (ks.map keyT) ∧ k = .tup (ks.map nk) := by
  cases t with
  | tup xs =>
    simp only [keyOk] at e
    split at e
    · rename_i c
      obtain ⟨ks, rfl⟩ := flat_keys c
      rw [key_tup] at e
      cases e
      exact ⟨ks, rfl, rfl⟩
    · cases e
  | _ => simp [keyOk] at e
theorem rp_keyT {v : V} {k : Key} (p : Rp D sx H rho v (keyT k)) : v = kV k := by
  cases k <;> cases p <;> rfl
theorem rpL_keyT : ∀ {ks : List Key} {vs : List V}, RpL D sx H rho vs (ks.map keyT) → vs = ks.map kV
  | [], _, .nil => rfl
  | k :: ks, _, .cons p l => by rw [rp_keyT p, rpL_keyT l]; rfl
theorem dct_get (R : RelH D H rho h) {x y : V} {t t' : T} {tk : Bool} {ks vs : List T} {k : NestedKey} (px : Rp D none H rho x t) (py : Rp D none H rho y t') (e : snap h t' = .dct tk ks vs) (ek : keyOk tk t = some k) :
    ∃ a o, y = .ref a ∧ DGet H a x o ∧ ((∃ j v u, findK k ks = some j ∧ vs[j]? = some u ∧ o = some v ∧ Rp D none H rho v u) ∨ (findK k ks = none ∧ o = none)) := by
  have goK : ∀ {a : Addr} {kvs : List (Key × V)}, Rd H a (.dK kvs) → tk = false → ks = kvs.map (fun p => keyT p.1) → RpL D none H rho (kvs.map (·.2)) vs → ∃ o, DGet H a x o ∧ ((∃ j v u, findK k ks = some j ∧ vs[j]? = some u ∧ o = some v ∧ Rp D none H rho v u) ∨ (findK k ks = none ∧ o = none)) := fun {a kvs} r ht hk l => by
    subst ht
    obtain ⟨key, rfl, rfl⟩ := keyOk_false ek
    have ex := rp_keyT px
    subst ex
    subst hk
    refine ⟨_, .inl ⟨kvs, key, r, rfl, rfl⟩, ?_⟩
    rcases find_gen keyT nk key_keyT (fun a b => nk_inj) key kvs with ⟨j, v, h1, h2, h3⟩ | ⟨h1, h2⟩
    · obtain ⟨u, e1, e2⟩ := l.getV h2
      exact .inl ⟨j, v, u, h1, e1, h3, e2⟩
    · exact .inr ⟨h1, h2⟩
  have goT : ∀ {a : Addr} {kvs : List (List Key × V)}, Rd H a (.dT kvs) → tk = true → ks = kvs.map (fun p => .tup (p.1.map keyT)) → RpL D none H rho (kvs.map (·.2)) vs → ∃ o, DGet H a x o ∧ ((∃ j v u, findK k ks = some j ∧ vs[j]? = some u ∧ o = some v ∧ Rp D none H rho v u) ∨ (findK k ks = none ∧ o = none)) := fun {a kvs} r ht hk l => by
    subst ht
    obtain ⟨key, rfl, rfl⟩ := keyOk_true ek
    cases px with
    | tup q lq =>
      have ex := rpL_keyT lq
      subst ex
      subst hk
      refine ⟨_, .inr ⟨kvs, key, _, r, rfl, q, rfl⟩, ?_⟩
      rcases find_gen (fun ks : List Key => T.tup (ks.map keyT)) (fun ks => .tup (ks.map nk)) key_tup (fun a b e => nks_inj (NestedKey.tup.inj e)) key kvs with ⟨j, v, h1, h2, h3⟩ | ⟨h1, h2⟩
      · obtain ⟨u, e1, e2⟩ := l.getV h2
        exact .inl ⟨j, v, u, h1, e1, h3, e2⟩
      · exact .inr ⟨h1, h2⟩
  rcases snap_cases h t' with ⟨n, rfl, xs, hn, z⟩ | ⟨n, rfl, tk', ks', vs', hn, z⟩ | ⟨n, rfl, z⟩ | ⟨_, z⟩
  · rw [z] at e; cases e
  · rw [z] at e
    cases e
    cases py with
    | @ref a _ r =>
      cases tk with
      | false =>
        obtain ⟨kvs, q1, e1, l⟩ := R.cell n _ _ r hn
        obtain ⟨o, h1, h2⟩ := goK (.inl q1) rfl e1 l
        exact ⟨a, o, rfl, h1, h2⟩
      | true =>
        obtain ⟨kvs, q1, e1, l⟩ := R.cell n _ _ r hn
        obtain ⟨o, h1, h2⟩ := goT (.inl q1) rfl e1 l
        exact ⟨a, o, rfl, h1, h2⟩
  · rw [z] at e; cases e
  · rw [z] at e
    subst e
    cases py with
    | @dK a ob kvs _ _ q1 e1 l =>
      obtain ⟨o, h1, h2⟩ := goK (.inr ⟨ob, q1⟩) rfl e1 l
      exact ⟨a, o, rfl, h1, h2⟩
    | @dT a ob kvs _ _ q1 e1 l =>
      obtain ⟨o, h1, h2⟩ := goT (.inr ⟨ob, q1⟩) rfl e1 l
      exact ⟨a, o, rfl, h1, h2⟩

theorem inL_inv {t : T} {xs : List T} {k : Bool} (e : inL t xs = some k) : ∃ d es, t.dat = some d ∧ T.datL xs = some es ∧ min (PyData.depthAll es) d.depth ≤ deepest ∧ k = es.any fun e => PyData.eqv e d := by
  unfold inL at e
  cases h1 : t.dat with
  | none => rw [h1] at e; cases e
  | some d =>
    cases h2 : T.datL xs with
    | none => rw [h1, h2] at e; cases e
    | some es =>
      rw [h1, h2] at e
      simp only at e
      split at e
      · rename_i c
        cases e
        exact ⟨d, es, rfl, rfl, c, rfl⟩
      · cases e
theorem cmp_in (hK : D.K = X.K) (hu : X.A.units + 190 < cLine) {x y : V} {v u : Value} {t t' : T} {k : Bool} {Q : VK} (I : Inv X pins σ H s) (R : RelH D H rho h) (rx : RelV x v) (ry : RelV y u) (px : Rp D none H rho x t) (py : Rp D none H rho y t')
    (e : inT h t t' = some k) (n : Bool) (q : Q (.bl (n != k)) H) : wpAny (model X.prog X.w) X.A (compareOp (if n = true then .NotIn else .In) v u) (EP X pins σ Q) X.xe s := by
  unfold inT at e
  have fin : ∀ {s' : Shared}, Inv X pins σ H s' → EP X pins σ Q (.bool (n != k)) s' := fun {s'} I' => ⟨.bl _, H, I', rfl, q⟩
  have seqs : ∀ (b : Bool) (xs : List T), (snap h t').dat = (T.datL xs).map (if b = true then PyData.list else PyData.tuple) → inL (snap h t) xs = some k → wpAny (model X.prog X.w) X.A (compareOp (if n = true then .NotIn else .In) v u) (EP X pins σ Q) X.xe s := fun b xs hd hi => by
    obtain ⟨d, es, h1, h2, c3, rfl⟩ := inL_inv hi
    have c1 := dat_plain h1
    have c2 := datL_plain h2
    rw [h2] at hd
    have p1 := snap_dp R px h1
    have p2 := snap_dp R py hd
    rw [hK] at p1 p2
    obtain ⟨as, r1⟩ := Dp.reads I d x v p1 rx
    obtain ⟨bs, r2⟩ := Dp.reads I _ y u p2 ry
    have hr : X.A.units + 1 + min (PyData.depthAll es) d.depth < cLine := by unfold deepest at c3; omega
    cases n with
    | false =>
      cases b with
      | true => exact SeqAt.in_list_data r2 r1 c2 c1 hr (by simpa using fin I)
      | false => exact SeqAt.in_tuple_data r2 r1 c2 c1 hr (by simpa using fin I)
    | true =>
      cases b with
      | true => exact SeqAt.notIn_list_data r2 r1 c2 c1 hr (by simpa using fin I)
      | false => exact SeqAt.notIn_tuple_data r2 r1 c2 c1 hr (by simpa using fin I)
  cases es : snap h t' with
  | tup xs => rw [es] at e; exact seqs false xs (by rw [es]; simp [T.dat]) e
  | lst xs => rw [es] at e; exact seqs true xs (by rw [es]; simp [T.dat]) e
  | dct tk ks vs =>
    rw [es] at e
    simp only at e
    cases ek : keyOk tk t with
    | none => rw [ek] at e; cases e
    | some key =>
      rw [ek] at e
      cases e
      obtain ⟨a, o, rfl, g, hfind⟩ := dct_get R px py es ek
      have ho : o.isSome = (findK key ks).isSome := by
        rcases hfind with ⟨j, v, u, h1, _, h3, _⟩ | ⟨h1, h2⟩
        · rw [h1, h3]; rfl
        · rw [h1, h2]; rfl
      cases ry
      have hu1 : X.A.units + 1 < cLine := by omega
      cases n with
      | false => exact d_in hu1 I g rx fun s' I' => by rw [ho]; simpa using fin I'
      | true => exact d_notIn hu1 I g rx fun s' I' => by rw [ho]; simpa using fin I'
  | str b =>
    rw [es] at e
    have e2 : t' = .str b := by
      rcases snap_cases h t' with ⟨n, rfl, xs, hn, z⟩ | ⟨n, rfl, tk', ks', vs', hn, z⟩ | ⟨n, rfl, z⟩ | ⟨_, z⟩ <;> rw [es] at z <;> first | exact z.symm | cases z
    subst e2
    cases px with
    | str a =>
      cases e
      cases py
      cases n with
      | false => exact op_in_str pins s σ H _ _ v u Q I rx ry ⟨a, b, rfl, rfl, by simpa [subStr] using q⟩
      | true => exact op_notIn_str pins s σ H _ _ v u Q I rx ry ⟨a, b, rfl, rfl, by simpa [subStr] using q⟩
    | _ => cases e
  | _ => rw [es] at e; cases e

theorem cmp_is {x y : V} {v u : Value} {t t' : T} {k : Bool} {Q : VK} (I : Inv X pins σ H s) (rx : RelV x v) (ry : RelV y u) (px : Rp D sx H rho x t) (py : Rp D sx H rho y t')
    (e : isT t t' = some k) (n : Bool) (q : Q (.bl (n != k)) H) : wpAny (model X.prog X.w) X.A (compareOp (if n = true then .IsNot else .Is) v u) (EP X pins σ Q) X.xe s := by
  cases py with
  | non =>
    have e2 : k = decide (x = .non) := by cases px <;> (simp only [isT] at e; cases e; first | rfl | simp)
    subst e2
    cases n with
    | false => exact op_isN pins s σ H _ _ v u Q I rx ry ⟨rfl, by simpa using q⟩
    | true => exact op_notN pins s σ H _ _ v u Q I rx ry ⟨rfl, by simpa using q⟩
  | bl b =>
    cases ry
    have fin : EP X pins σ Q (.bool (n != k)) s := ⟨.bl _, H, I, rfl, q⟩
    have hp : plainIs v (.bool b) = true ∧ (v == Value.bool b) = k := by
      cases px with
      | non => cases rx; simp only [isT] at e; cases e; exact ⟨rfl, rfl⟩
      | bl c => cases rx; simp only [isT] at e; cases e; exact ⟨rfl, by cases c <;> cases b <;> rfl⟩
      | int i => obtain ⟨tk, rfl⟩ := rx; simp only [isT] at e; cases e; exact ⟨rfl, rfl⟩
      | str i => obtain ⟨tk, rfl⟩ := rx; simp only [isT] at e; cases e; exact ⟨rfl, rfl⟩
      | _ => cases rx; simp only [isT] at e; cases e; exact ⟨rfl, rfl⟩
    cases n with
    | false => exact wpAny_is_plain hp.1 (by rw [hp.2]; simpa using fin)
    | true => exact wpAny_isNot_plain hp.1 (by rw [hp.2]; simpa using fin)
  | _ => cases px <;> cases e
def opC : Co → CmpOp
  | .eq => .Eq
  | .ne => .NotEq
  | .lt => .Lt
  | .le => .LtE
  | .gt => .Gt
  | .ge => .GtE
  | .is => .Is
  | .isnot => .IsNot
  | .isin => .In
  | .notin => .NotIn
theorem map_not {o : Option Bool} {k : Bool} (e : o.map (!·) = some k) : o = some (!k) := by
  cases o with
  | none => cases e
  | some b => simp at e; subst e; simp
theorem cmp_ok (hK : D.K = X.K) (hu : X.A.units + 190 < cLine) {o : Co} {x y : V} {v u : Value} {t t' : T} {k : Bool} {Q : VK} (I : Inv X pins σ H s) (R : RelH D H rho h) (rx : RelV x v) (ry : RelV y u) (px : Rp D none H rho x t) (py : Rp D none H rho y t')
    (e : cmpT o h t t' = some k) (q : Q (.bl k) H) : wpAny (model X.prog X.w) X.A (compareOp (opC o) v u) (EP X pins σ Q) X.xe s := by
  cases o with
  | eq => exact cmp_eq hK hu I R rx ry px py e q
  | ne => exact cmp_ne hK hu I R rx ry px py (map_not e) (by simpa using q)
  | is => exact cmp_is I rx ry px py e false (by simpa using q)
  | isnot => exact cmp_is I rx ry px py (map_not e) true (by simpa using q)
  | isin => exact cmp_in hK hu I R rx ry px py e false (by simpa using q)
  | notin => exact cmp_in hK hu I R rx ry px py (map_not e) true (by simpa using q)
  | lt =>
    simp only [cmpT] at e
    cases px with
    | int i => cases py with
      | int j => cases e; exact op_lt pins s σ H _ _ v u Q I rx ry ⟨i, j, rfl, rfl, q⟩
      | _ => cases e
    | str i => cases py with
      | str j => cases e; exact op_lt_str pins s σ H _ _ v u Q I rx ry ⟨i, j, rfl, rfl, q⟩
      | _ => cases e
    | _ => cases e
  | le =>
    simp only [cmpT] at e
    cases px with
    | int i => cases py with
      | int j => cases e; exact op_le pins s σ H _ _ v u Q I rx ry ⟨i, j, rfl, rfl, q⟩
      | _ => cases e
    | str i => cases py with
      | str j => cases e; exact op_le_str pins s σ H _ _ v u Q I rx ry ⟨i, j, rfl, rfl, q⟩
      | _ => cases e
    | _ => cases e
  | gt =>
    simp only [cmpT] at e
    cases px with
    | int i => cases py with
      | int j => cases e; exact op_gt pins s σ H _ _ v u Q I rx ry ⟨i, j, rfl, rfl, q⟩
      | _ => cases e
    | str i => cases py with
      | str j => cases e; exact op_gt_str pins s σ H _ _ v u Q I rx ry ⟨i, j, rfl, rfl, q⟩
      | _ => cases e
    | _ => cases e
  | ge =>
    simp only [cmpT] at e
    cases px with
    | int i => cases py with
      | int j => cases e; exact op_ge pins s σ H _ _ v u Q I rx ry ⟨i, j, rfl, rfl, q⟩
      | _ => cases e
    | str i => cases py with
      | str j => cases e; exact op_ge_str pins s σ H _ _ v u Q I rx ry ⟨i, j, rfl, rfl, q⟩
      | _ => cases e
    | _ => cases e
end PS
end
section
set_option maxRecDepth 100000
set_option maxHeartbeats 2000000
namespace PS
open PySem PySem.Spec PyProof.Rows L2
variable {D : Wd} {X : Cx} {pins : List (Addr × Obj)} {σ : L2.St} {H : Hp} {s : Shared} {rho : Rho} {h : AH} {W : WX} {sx : Sx}

theorem RpL.atI {vs : List V} {ts : List T} {i : Int} {t : T} (l : RpL D sx H rho vs ts) (e : atI ts i = some t) : ∃ v, L2.atI vs i = some v ∧ Rp D sx H rho v t := by
  unfold L2.atI at e ⊢
  rw [l.length]
  cases hj : ixN ts.length i with
  | none => rw [hj] at e; cases e
  | some j => rw [hj] at e; exact l.get e
theorem snap_of_tup {t : T} {xs : List T} (e : snap h t = .tup xs) : t = .tup xs := by
  rcases snap_cases h t with ⟨n, rfl, ys, hn, z⟩ | ⟨n, rfl, tk, ks, vs, hn, z⟩ | ⟨n, rfl, z⟩ | ⟨_, z⟩ <;> rw [e] at z <;> first | exact z.symm | cases z
theorem snap_of_str {t : T} {x : Str} (e : snap h t = .str x) : t = .str x := by
  rcases snap_cases h t with ⟨n, rfl, ys, hn, z⟩ | ⟨n, rfl, tk, ks, vs, hn, z⟩ | ⟨n, rfl, z⟩ | ⟨_, z⟩ <;> rw [e] at z <;> first | exact z.symm | cases z
theorem list_of_snap {t : T} {xs : List T} (e : snap h t = .lst xs) : isList h t = some xs := by unfold isList; rw [e]
theorem idx_ok (hK : D.K = X.K) (hu : X.A.units + 190 < cLine) {value slice : Expr} {x y : V} {v u : Value} {t t' r : T} {Q : VK} (I : Inv X pins σ H s) (R : RelH D H rho h) (rx : RelV x v) (ry : RelV y u) (px : Rp D none H rho x t) (py : Rp D none H rho y t')
    (e : idxT h t t' = some r) (q : ∀ w, Rp D none H rho w r → Q w H) (hs : subscripted slice false v u = operate [v, u] (getItem v u)) : wpAny (model X.prog X.w) X.A (subscriptTail value slice v u) (EP X pins σ Q) X.xe s := by
  unfold idxT at e
  cases es : snap h t with
  | tup xs =>
    rw [es] at e
    have et := snap_of_tup es
    subst et
    cases py with
    | int i =>
      cases px with
      | tup hq l =>
        obtain ⟨w, e1, e2⟩ := l.atI e
        exact ix_tup value slice pins s σ H _ _ v u Q I rx ry ⟨_, _, i, w, rfl, rfl, SqT.of hq, e1, q w e2⟩ hs
    | _ => cases e
  | lst xs =>
    rw [es] at e
    cases py with
    | int i =>
      obtain ⟨a, vs, rfl, ha, l⟩ := view_list R px (list_of_snap es)
      obtain ⟨w, e1, e2⟩ := l.atI e
      exact ix_list value slice pins s σ H _ _ v u Q I rx ry ⟨_, _, i, w, rfl, rfl, hK ▸ ha, e1, q w e2⟩ hs
    | _ => cases e
  | dct tk ks vs =>
    rw [es] at e
    simp only at e
    cases ek : keyOk tk t' with
    | none => rw [ek] at e; cases e
    | some key =>
      rw [ek] at e
      dsimp only at e
      obtain ⟨a, o, rfl, g, hf⟩ := dct_get R py px es ek
      rcases hf with ⟨j, w, r', h1, h2, h3, h4⟩ | ⟨h1, h2⟩
      · rw [h1] at e
        dsimp only at e
        rw [h2] at e
        cases e
        subst h3
        cases rx
        exact tail_any (dict_typeIs I g) PySem.F.slot_dict_getitem.lookup (d_getItem (by omega) I g ry fun w' s3 I3 rw' => ⟨w, H, I3, rw', q w h4⟩) hs
      · rw [h1] at e; cases e
  | str a =>
    rw [es] at e
    have et := snap_of_str es
    subst et
    cases py with
    | int i =>
      simp only at e
      split at e
      · rename_i c
        cases px
        cases hc : L2.atI a.cps.toList i with
        | none => rw [hc] at e; cases e
        | some d =>
          rw [hc] at e
          cases e
          exact ix_str value slice pins s σ H _ _ v u Q I rx ry ⟨a, i, d, rfl, rfl, c, hc, q _ (.str _)⟩ hs
      · cases e
    | _ => cases e
  | _ => rw [es] at e; cases e

theorem fm_congr {α β : Type} {f g : α → Option β} : ∀ {l : List α}, (∀ a ∈ l, f a = g a) → l.filterMap f = l.filterMap g
  | [], _ => rfl
  | a :: l, h => by
    rw [List.filterMap_cons, List.filterMap_cons, h a (by simp), fm_congr (l := l) fun b hb => h b (by simp [hb])]
theorem RpL.cut {vs : List V} {ts : List T} (l : RpL D sx H rho vs ts) (lo hi : Option Int) : RpL D sx H rho (cutV vs lo hi) (cutL ts lo hi) := by
  unfold cutV cutL
  rw [l.length]
  exact (l.drop _).take _
theorem getItem_tuple_whole {prog : Program} {w : World} {A : Around} {E : Value → Shared → Prop} {s : Shared} {t sl : Addr} {items : Array Value} {vl vu : Value} {lo hi : Option Int} {Q : Value → Shared → Prop} (ht : IsTup s.heap t items) (hs : s.heap.IsSliceOf sl vl vu .none) (pl : IsPart vl lo) (pu : IsPart vu hi)
    (hw : HT.sIx items.size 0 lo = 0 ∧ HT.sIx items.size items.size hi = items.size) (h : Q (.ref t) s) : wpAny (model prog w) A (getItem (.ref t) (.ref sl)) Q E s := by
  obtain ⟨os, hos, hcs, hds⟩ := id hs
  have hTs : s.TypeIs (.ref sl) "slice" := ⟨os, hos, hcs⟩
  unfold getItem
  try with_reducible refine wpAny_holding ?_
  first | refine wpAny_bind (wpAny_pure ?_) | skip
  refine wpAny_bind (wpAny_sequenceKey ht.typeIs (by decide) ?_)
  refine wpAny_bind (wpAny_callSpecial?_slot (name := Str.ofString "__getitem__") ht.typeIs PyProof.Rows.slot_tuple_getitem
    (wpAny_call_entry PyProof.Rows.slot_tuple_getitem ht.typeIs entry_tuple_getitem ?_ (args_tuple_getitem _ _)))
  show wpAny _ _ (Builtin.Tuple.tupleItemsOf (.ref t) >>= _) _ _ s
  refine wpAny_bind (tupleItemsOf_ ht ?_)
  refine wpAny_bind (wpAny_typeOf hTs ?_)
  rw [if_pos (by decide)]
  refine wpAny_bind (HT.sliceApplied_gen hs pl pu ?_)
  rw [hw.1, hw.2]
  have hyes : ((((0 : Nat) : Int) == 0 && (1 : Int) == 1 && (items.size - 0) == items.size) = true) := by simp
  show wpAny _ _ (if (((0 : Nat) : Int) == 0 && (1 : Int) == 1 && (items.size - 0) == items.size) = true then _ else _) _ _ s
  rw [if_pos hyes]
  obtain ⟨o, ho, hc, _⟩ := id ht
  have hTt : s.TypeIs (.ref t) "tuple" := ⟨o, ho, hc⟩
  refine wpAny_bind (show wpAny _ _ (Builtin.Tuple.tupleIsExact (.ref t)) _ _ s from wpAny_bind (wpAny_typeOf hTt (wpAny_pure ?_)))
  rw [if_pos (by decide)]
  first
    | exact wpAny_bind (wpAny_rule (wpAny_pure ⟨_, rfl, wpAny_pure h⟩))
    | exact wpAny_rule (wpAny_pure ⟨_, rfl, wpAny_pure h⟩)
    | exact wpAny_bind (wpAny_rule (wpAny_bind (wpAny_pure (wpAny_pure ⟨_, rfl, wpAny_pure h⟩))))
theorem sliceApplied_rev {prog : Program} {w : World} {A : Around} {E : Value → Shared → Prop} {s : Shared} {sl : Addr} {vl vu vs : Value} {n : Nat} {Q : Int × Int × Nat → Shared → Prop} (hs : s.heap.IsSliceOf sl vl vu vs) (pl : IsPart vl none) (pu : IsPart vu none) (ps : IsPart vs (some (-1)))
    (h : Q ((n : Int) - 1, -1, n) s) : wpAny (model prog w) A (Builtin.Slice.sliceApplied (.ref sl) (pure (n : Int))) Q E s := by
  obtain ⟨os, hos, hcs, hds⟩ := id hs
  unfold Builtin.Slice.sliceApplied Builtin.Slice.sliceFields
  refine wpAny_bind (wpAny_bind (wpAny_field hos hds (x := vl) rfl (wpAny_bind (wpAny_field hos hds (x := vu) rfl (wpAny_bind (wpAny_field hos hds (x := vs) rfl (wpAny_pure ?_)))))))
  refine wpAny_bind (HT.slicePart_ ps ?_)
  show wpAny _ _ (if ((-1 : Int) == 0) = true then _ else _) _ _ s
  rw [if_neg (by decide)]
  refine wpAny_bind (HT.slicePart_ pl (wpAny_bind (HT.slicePart_ pu (wpAny_bind (wpAny_pure ?_)))))
  show wpAny _ _ (match Builtin.Slice.sliceAdjust none none (-1) (n : Int) with | (lo, hi) => pure (lo, (-1 : Int), Builtin.Slice.slicePlaces lo hi (-1))) _ _ s
  have e1 : Builtin.Slice.sliceAdjust none none (-1) (n : Int) = ((n : Int) - 1, -1) := by
    unfold Builtin.Slice.sliceAdjust
    rfl
  have e2 : Builtin.Slice.slicePlaces ((n : Int) - 1) (-1) (-1) = n := by
    unfold Builtin.Slice.slicePlaces
    have h1 : ¬ ((-1 : Int) > 0) := by decide
    simp only [h1, if_false]
    split
    · rw [show (- (-1 : Int)) = 1 by decide, Int.ediv_one]; omega
    · omega
  rw [e1]
  show wpAny _ _ (pure ((n : Int) - 1, (-1 : Int), Builtin.Slice.slicePlaces ((n : Int) - 1) (-1) (-1))) _ _ s
  rw [e2]
  exact wpAny_pure h
theorem getItem_tuple_rev {prog : Program} {w : World} {A : Around} {E : Value → Shared → Prop} {s : Shared} {t sl : Addr} {items : Array Value} {vl vu vs : Value} {Q : Value → Shared → Prop} (ht : IsTup s.heap t items) (hs : s.heap.IsSliceOf sl vl vu vs) (pl : IsPart vl none) (pu : IsPart vu none) (ps : IsPart vs (some (-1)))
    (h : Q (.ref s.heap.objs.size) { s with heap := s.heap.push { cls := .type "tuple", data := .seq items.toList.reverse.toArray } }) (hsz : items.size ≤ sizeLine) : wpAny (model prog w) A (getItem (.ref t) (.ref sl)) Q E s := by
  obtain ⟨os, hos, hcs, hds⟩ := id hs
  have hTs : s.TypeIs (.ref sl) "slice" := ⟨os, hos, hcs⟩
  unfold getItem
  try with_reducible refine wpAny_holding ?_
  first | refine wpAny_bind (wpAny_pure ?_) | skip
  refine wpAny_bind (wpAny_sequenceKey ht.typeIs (by decide) ?_)
  refine wpAny_bind (wpAny_callSpecial?_slot (name := Str.ofString "__getitem__") ht.typeIs PyProof.Rows.slot_tuple_getitem
    (wpAny_call_entry PyProof.Rows.slot_tuple_getitem ht.typeIs entry_tuple_getitem ?_ (args_tuple_getitem _ _)))
  show wpAny _ _ (Builtin.Tuple.tupleItemsOf (.ref t) >>= _) _ _ s
  refine wpAny_bind (tupleItemsOf_ ht ?_)
  refine wpAny_bind (wpAny_typeOf hTs ?_)
  rw [if_pos (by decide)]
  refine wpAny_bind (sliceApplied_rev hs pl pu ps ?_)
  have hno : ¬ ((((items.size : Int) - 1) == 0 && (-1 : Int) == 1 && items.size == items.size) = true) := by simp
  show wpAny _ _ (if (((items.size : Int) - 1) == 0 && (-1 : Int) == 1 && items.size == items.size) = true then _ else _) _ _ s
  rw [if_neg hno]
  have pick : ((List.range items.size).filterMap fun (m : Nat) => items[(((items.size : Int) - 1) + (m : Int) * (-1)).toNat]?).toArray = items.toList.reverse.toArray := by
    have e : ((List.range items.size).filterMap fun (m : Nat) => items[(((items.size : Int) - 1) + (m : Int) * (-1)).toNat]?) = (List.range items.size).filterMap fun (m : Nat) => items[items.size - 1 - m]? := by
      refine fm_congr fun m hm => ?_
      have := List.mem_range.mp hm
      rw [show ((((items.size : Int) - 1) + (m : Int) * (-1)).toNat) = items.size - 1 - m by omega]
    have e2 : ((List.range items.size).filterMap fun (m : Nat) => items[items.size - 1 - m]?) = ((List.range items.size).map fun k => items.size - 1 - k).filterMap (items[·]?) := by
      rw [List.filterMap_map]; rfl
    rw [e, e2, PySem.W.krv_range, List.filterMap_reverse, PySem.W.krv_all]
  rw [pick]
  have htake : sizeOk (.seq items.toList.reverse.toArray) := by
    show items.toList.reverse.toArray.size ≤ sizeLine
    simpa using hsz
  first
    | exact wpAny_bind (m := Builtin.Tuple.tupleExact _) (wpAny_newObj_type (wpAny_pure ⟨_, rfl, wpAny_pure h⟩) htake)
    | exact wpAny_bind (m := Builtin.Tuple.tupleExact _) (wpAny_newObj_type (wpAny_bind (wpAny_pure (wpAny_pure ⟨_, rfl, wpAny_pure h⟩))) htake)
    | exact wpAny_bind (wpAny_bind (m := Builtin.Tuple.tupleExact _) (wpAny_newObj_type (wpAny_pure (wpAny_pure ⟨_, rfl, wpAny_pure h⟩)) htake))
    | exact wpAny_bind (wpAny_bind (m := Builtin.Tuple.tupleExact _) (wpAny_newObj_type (wpAny_pure ⟨_, rfl, wpAny_pure h⟩) htake))
end PS
end
section
set_option maxRecDepth 100000
set_option maxHeartbeats 2000000
namespace PS
open PySem PySem.Spec PyProof.Rows L2
variable {D : Wd} {X : Cx} {C : Ctx} {W : WX} {sx : Sx} {σ : L2.St} {H : Hp} {rho : Rho} {env : Env} {h : AH}

structure ClsOk (D : Wd) (c : Nat) : Prop where
  cl : Cls D.K (D.ca c)
  ha : PySem.W.findIn D.K (.ref (D.ca c)) "__class__" = some (some (.builtin "object.__class__"))
  hn : PySem.W.specialIn D.K (.builtin "object.__class__") "__get__" = some (some (.builtin "getset_descriptor.__get__"))
  htk : PySem.W.takesIn D.K (.builtin "object.__class__") = some true
  hm : PySem.W.mroIn D.K (D.ca c) (.type "object") = some true
  kb : ∀ T ∈ ["NoneType", "bool", "int", "str", "tuple", "list"], PySem.W.kitOne D.K (.type T) (.ref (D.ca c)) = some false
  kc : ∀ T ∈ ["int", "bool", "str", "tuple", "list"], PySem.W.kitOne D.K (.ref (D.ca c)) (.type T) = some false
  nf : ∀ T ∈ ["NoneType", "bool", "int", "str", "tuple", "list"], PySem.W.notFirst D.K (D.ca c) (.type T) = true
  nfc : ∀ d, d < D.nc → PySem.W.notFirst D.K (D.ca c) (.ref (D.ca d)) = true
  kk : ∀ d, d < D.nc → PySem.W.kitOne D.K (.ref (D.ca c)) (.ref (D.ca d)) = some (c == d)
structure Okx (D : Wd) (X : Cx) : Prop where
  K : D.K = X.K
  u : X.A.units + 190 < cLine
  cls : ∀ c, c < D.nc → ClsOk D c
abbrev XP (D : Wd) (X : Cx) (W : WX) (C : Ctx) (e : Expr) (i : IE) : Prop := PE X e (rdE D none W (evE C i))
abbrev XB (D : Wd) (X : Cx) (W : WX) (C : Ctx) (e : Expr) (i : IE) : Prop := PT X e (rdB D none W (evB C i))
abbrev XW (D : Wd) (X : Cx) (W : WX) (C : Ctx) (e : Expr) (i : IE) : Prop := PW X e (rdB D none W (evB C i))
abbrev XL (D : Wd) (X : Cx) (W : WX) (C : Ctx) (es : List Expr) (l : IL) : Prop := PA X es (rdL D none W (evL C l))
def rdO (D : Wd) (W : WX) (f : Env → AH → R (Option Int)) : TO := fun σ H Q => ∃ rho env h, RelE D none H rho σ env ∧ RelH D H rho h ∧ outR D W σ H rho (fun b H' _ _ => Q b H') (f env h)
abbrev XO (D : Wd) (X : Cx) (W : WX) (C : Ctx) (e : Option Expr) (i : IO) : Prop := PO X e (rdO D W (evO C i))

theorem rd_bind {α : Type} {f : R T} {k : T → AH → R α} {Q' : α → Hp → Rho → AH → Prop} {Qn : VK} (a : At D sx σ H rho env h) (q : outR D W σ H rho Q' (f.bind k))
    (g : ∀ t H' rho' h' v, At D sx σ H' rho' env h' → Step H rho H' rho' → Rp D sx H' rho' v t → outR D W σ H' rho' Q' (k t h') → Qn v H') : outE D sx W σ H rho Qn f :=
  outR.mono (fun t H' r' h' s R q => fun v x => g t H' r' h' v (a.step s R) s x q) (outR.bind q)
theorem rd_bindL {α : Type} {f : R (List T)} {k : List T → AH → R α} {Q' : α → Hp → Rho → AH → Prop} {Qn : List V → Hp → Prop} (a : At D sx σ H rho env h) (q : outR D W σ H rho Q' (f.bind k))
    (g : ∀ t H' rho' h' v, At D sx σ H' rho' env h' → Step H rho H' rho' → RpL D sx H' rho' v t → outR D W σ H' rho' Q' (k t h') → Qn v H') : outR D W σ H rho (fun ts H' rho' _ => ∀ vs, RpL D sx H' rho' vs ts → Qn vs H') f :=
  outR.mono (fun t H' r' h' s R q => fun v x => g t H' r' h' v (a.step s R) s x q) (outR.bind q)
theorem rd_bindB {β α : Type} {f : R β} {k : β → AH → R α} {Q' : α → Hp → Rho → AH → Prop} {Qn : β → Hp → Prop} (a : At D sx σ H rho env h) (q : outR D W σ H rho Q' (f.bind k))
    (g : ∀ t H' rho' h', At D sx σ H' rho' env h' → Step H rho H' rho' → outR D W σ H' rho' Q' (k t h') → Qn t H') : outR D W σ H rho (fun b H' _ _ => Qn b H') f :=
  outR.mono (fun t H' r' h' s R q => g t H' r' h' (a.step s R) s q) (outR.bind q)
theorem of_ok {α : Type} {Q : α → Hp → Rho → AH → Prop} {t : α} (a : At D sx σ H rho env h) (q : outR D W σ H rho Q (R.ok t h)) : Q t H rho h := q H rho Step.rfl a.r
theorem of_of {α β : Type} {Q : β → Hp → Rho → AH → Prop} {o : Option α} {k : α → AH → R β} (q : outR D W σ H rho Q ((R.of o h).bind k)) : ∃ x, o = some x ∧ outR D W σ H rho Q (k x h) := by
  cases o with
  | none => exact q.elim
  | some x => exact ⟨x, rfl, q⟩
theorem of_of1 {α : Type} {Q : α → Hp → Rho → AH → Prop} {o : Option α} (q : outR D W σ H rho Q (R.of o h)) : ∃ x, o = some x ∧ outR D W σ H rho Q (R.ok x h) := by
  cases o with
  | none => exact q.elim
  | some x => exact ⟨x, rfl, q⟩

theorem x_var {i : Nat} {x : Str} {pos : Pos} (hN : X.N[i]? = some x) (hv : Vis X.env.scope x) (hd : (x == ("__debug__" : Str)) = false := by decide) (hcd : (x == ("__classdict__" : Str)) = false := by decide) : PE X (.Name x pos) (rdE D sx W (evE C (.var i))) :=
  PE_imp (pe_var hN hv hd hcd) fun σ H Q ⟨rho, env, h, e, r, q⟩ => by
    have q' : outE D sx W σ H rho Q (match env[i]? with | some (some t) => R.ok t h | _ => .stuck) := q
    cases he : env[i]? with
    | none => rw [he] at q'; exact q'.elim
    | some o =>
      cases o with
      | none => rw [he] at q'; exact q'.elim
      | some t =>
        rw [he] at q'
        obtain ⟨v, a, b⟩ := e.2 i t he
        exact ⟨v, a, val_ok r b q'⟩
theorem x_int {i : Int} {j : Nat} {pos : Pos} : PE X (.Constant (.int i) j pos) (rdE D sx W (evE C (.cst (.int i)))) := PE_imp pe_int fun σ H Q ⟨rho, env, h, e, r, q⟩ => val_ok r (.int i) q
theorem x_bl {i : Bool} {j : Nat} {pos : Pos} : PE X (.Constant (.bool i) j pos) (rdE D sx W (evE C (.cst (.bl i)))) := PE_imp pe_bl fun σ H Q ⟨rho, env, h, e, r, q⟩ => val_ok r (.bl i) q
theorem x_non {j : Nat} {pos : Pos} : PE X (.Constant .none j pos) (rdE D sx W (evE C (.cst .non))) := PE_imp pe_non fun σ H Q ⟨rho, env, h, e, r, q⟩ => val_ok r .non q
theorem x_str {i : Str} {j : Nat} {pos : Pos} : PE X (.Constant (.str i) j pos) (rdE D sx W (evE C (.cst (.str i)))) := PE_imp pe_str fun σ H Q ⟨rho, env, h, e, r, q⟩ => val_ok r (.str i) q
theorem x_gint {x : Str} {k : Nat} {i : Int} {u : Value} {pos : Pos} (hg : Gl X x) (hm : X.mg x = some u) (hu : ∃ t, u = .int i t) (hd : (x == ("__debug__" : Str)) = false := by decide) : XP D X W C (.Name x pos) (.glb k (.int i)) :=
  PE_imp (pe_glob (v := .int i) hg hm hu hd) fun σ H Q ⟨rho, env, h, e, r, q⟩ => val_ok r (.int i) q
theorem x_gstr {x : Str} {k : Nat} {i : Str} {u : Value} {pos : Pos} (hg : Gl X x) (hm : X.mg x = some u) (hu : ∃ t, u = .str i t) (hd : (x == ("__debug__" : Str)) = false := by decide) : XP D X W C (.Name x pos) (.glb k (.str i)) :=
  PE_imp (pe_glob (v := .str i) hg hm hu hd) fun σ H Q ⟨rho, env, h, e, r, q⟩ => val_ok r (.str i) q

section
variable {a b c : Expr} {ia ib ic : IE} {pos : Pos}
theorem x_bin (O : Okx D X) {m : Bool} {o : Bo} (ha : XP D X W C a ia) (hb : XP D X W C b ib) : XP D X W C (.BinOp a (opS o) b pos) (.bin m o ia ib) := by
  refine PE_imp (pe_op (r := fun x y H Q => ∃ (W : WX) (σ : L2.St) (rho : Rho) (h : AH) (t t' : T), RelH D H rho h ∧ Rp D none H rho x t ∧ Rp D none H rho y t' ∧ outE D none W σ H rho Q (binT m o t t' h))
    (fun pins s σ H x y v u Q I rx ry ⟨W, σ', rho, h, t, t', R, px, py, q⟩ => bin_ok (m := m) O.K I R rx ry px py q) ha hb) fun σ H Q ⟨rho, env, h, e, r, q⟩ => ?_
  exact ⟨rho, env, h, e, r, rd_bind ⟨e, r⟩ q fun t H' rho' h' v A s p q => ⟨rho', env, h', A.e, A.r, rd_bind A q fun t2 H2 rho2 h2 v2 A2 s2 p2 q2 => ⟨W, σ, rho2, h2, t, t2, A2.r, p.step s2, p2, q2⟩⟩⟩
def rC (D : Wd) (o : Co) : R2 := fun x y H Q => ∃ (rho : Rho) (h : AH) (t t' : T) (k : Bool), RelH D H rho h ∧ Rp D none H rho x t ∧ Rp D none H rho y t' ∧ cmpT o h t t' = some k ∧ Q (.bl k) H
theorem opC_ok (O : Okx D X) (o : Co) : OpR X (compareOp (opC o)) (rC D o) := fun pins s σ H x y v u Q I rx ry ⟨rho, h, t, t', k, R, px, py, e, q⟩ => cmp_ok O.K O.u I R rx ry px py e q
theorem t_cmp {o : Co} {ta tb : TE} (ha : ∀ σ H Q, rdE D none W (evE C ia) σ H Q → ta σ H Q) (hb : ∀ σ H Q, rdE D none W (evE C ib) σ H Q → tb σ H Q) : ∀ σ H Q, rdE D none W (evE C (.cmp o ia ib)) σ H Q → tOp (rC D o) ta tb σ H Q := fun σ H Q ⟨rho, env, h, e, r, q⟩ =>
  ha _ _ _ ⟨rho, env, h, e, r, rd_bind ⟨e, r⟩ q fun t H' rho' h' v A s p q => hb _ _ _ ⟨rho', env, h', A.e, A.r, rd_bind A q fun t2 H2 rho2 h2 v2 A2 s2 p2 q2 => by
    obtain ⟨k, ek, q3⟩ := of_of q2
    exact ⟨rho2, h2, t, t2, k, A2.r, p.step s2, p2, ek, val_ok A2.r (.bl k) q3⟩⟩⟩
theorem x_cmp (O : Okx D X) {o : Co} (ha : XP D X W C a ia) (hb : XP D X W C b ib) (hm : behindInMarks (opC o) b = false) : XP D X W C (.Compare a [opC o] [b] pos) (.cmp o ia ib) :=
  PE_imp (pe_cmpR (opC_ok O o) ha hb hm) (t_cmp (fun _ _ _ q => q) (fun _ _ _ q => q))
theorem isB_cmp {o : Co} : (evE C (.cmp o ia ib) env h).isB = (evE C ia env h).bind fun x h1 => (evE C ib env h1).bind fun y h2 => R.of (cmpT o h2 x y) h2 := by
  show ((evE C ia env h).bind fun x h1 => (evE C ib env h1).bind fun y h2 => (R.of (cmpT o h2 x y) h2).bind fun k h3 => R.ok (.bl k) h3).isB = _
  cases evE C ia env h with
  | ok x h1 =>
    show ((evE C ib env h1).bind fun y h2 => (R.of (cmpT o h2 x y) h2).bind fun k h3 => R.ok (.bl k) h3).isB = (evE C ib env h1).bind fun y h2 => R.of (cmpT o h2 x y) h2
    cases evE C ib env h1 with
    | ok y h2 =>
      show ((R.of (cmpT o h2 x y) h2).bind fun k h3 => R.ok (.bl k) h3).isB = R.of (cmpT o h2 x y) h2
      cases cmpT o h2 x y <;> rfl
    | exc _ _ _ => rfl
    | stuck => rfl
  | exc _ _ _ => rfl
  | stuck => rfl
theorem b_cmp (O : Okx D X) {o : Co} (ha : XP D X W C a ia) (hb : XP D X W C b ib) (hm : behindInMarks (opC o) b = false) : XB D X W C (.Compare a [opC o] [b] pos) (.cmp o ia ib) :=
  PT_imp (pt_cmpR (opC_ok O o) ha hb hm) fun σ H Q hw => by
    obtain ⟨rho, env, h, e, r, q⟩ := hw
    have q' : outR D W σ H rho (fun b H' _ _ => Q b H') ((evE C ia env h).bind fun x h1 => (evE C ib env h1).bind fun y h2 => R.of (cmpT o h2 x y) h2) := by
      rw [← isB_cmp]; exact q
    exact ⟨rho, env, h, e, r, rd_bind ⟨e, r⟩ q' fun t H' rho' h' v A s p q => ⟨rho', env, h', A.e, A.r, rd_bind A q fun t2 H2 rho2 h2 v2 A2 s2 p2 q2 => by
      obtain ⟨k, ek, q3⟩ := of_of1 q2
      exact ⟨rho2, h2, t, t2, k, A2.r, p.step s2, p2, ek, k, rfl, of_ok A2 q3⟩⟩⟩
theorem b_val (O : Okx D X) (ha : XP D X W C a ia) (he : ∀ whole, isTrue a X.env whole = (do let v ← whole; standAt a.pos; holding [v] (truthy v)) := by intro _; rfl) (hi : ∀ env h, evB C ia env h = (evE C ia env h).isB := by intro _ _; rfl) : XB D X W C a ia :=
  PT_imp (pt_truth ha he) fun σ H Q hw => by
    obtain ⟨rho, env, h, e, r, q⟩ := hw
    rw [hi] at q
    refine ⟨rho, env, h, e, r, rd_bind ⟨e, r⟩ q fun t H' rho' h' v A s p q => ?_⟩
    obtain ⟨k, ek, q2⟩ := of_of1 q
    exact ⟨k, O.K ▸ tru_T A.r p ek, of_ok A q2⟩
theorem t_and {f g : Env → AH → R Bool} {ta tb : TT} (ha : ∀ σ H Q, rdB D none W f σ H Q → ta σ H Q) (hb : ∀ σ H Q, rdB D none W g σ H Q → tb σ H Q) : ∀ σ H Q, rdB D none W (fun env h => (f env h).bind fun k h1 => match k with | true => g env h1 | false => .ok false h1) σ H Q → tAnd ta tb σ H Q := fun σ H Q ⟨rho, env, h, e, r, q⟩ =>
  ha _ _ _ ⟨rho, env, h, e, r, rd_bindB ⟨e, r⟩ q fun k H' rho' h' A s q => by
    cases k with
    | true => rw [if_pos rfl]; exact hb _ _ _ ⟨rho', env, h', A.e, A.r, q⟩
    | false => rw [if_neg (by decide)]; exact of_ok A q⟩
theorem t_or {f g : Env → AH → R Bool} {ta tb : TT} (ha : ∀ σ H Q, rdB D none W f σ H Q → ta σ H Q) (hb : ∀ σ H Q, rdB D none W g σ H Q → tb σ H Q) : ∀ σ H Q, rdB D none W (fun env h => (f env h).bind fun k h1 => match k with | true => .ok true h1 | false => g env h1) σ H Q → tOr ta tb σ H Q := fun σ H Q ⟨rho, env, h, e, r, q⟩ =>
  ha _ _ _ ⟨rho, env, h, e, r, rd_bindB ⟨e, r⟩ q fun k H' rho' h' A s q => by
    cases k with
    | true => rw [if_pos rfl]; exact of_ok A q
    | false => rw [if_neg (by decide)]; exact hb _ _ _ ⟨rho', env, h', A.e, A.r, q⟩⟩
theorem PW_imp {e : Expr} {t t' : TT} (p : PW X e t) (i : ∀ σ H Q, t' σ H Q → t σ H Q) : PW X e t' := ⟨fun wh pins s σ H Q I h => p.run wh pins s σ H Q I (i σ H Q h)⟩
variable {rest : List Expr}
theorem w_and1 (hc : XB D X W C c ic) : XW D X W C (.BoolOp .And [c] pos) ic := pw_and1 hc
theorem w_or1 (hc : XB D X W C c ic) : XW D X W C (.BoolOp .Or [c] pos) ic := pw_or1 hc
theorem w_and (ha : XB D X W C a ia) (hb : XW D X W C (.BoolOp .And (b :: rest) pos) ib) : XW D X W C (.BoolOp .And (a :: b :: rest) pos) (.and ia ib) := PW_imp (pw_and ha hb) (t_and (fun _ _ _ q => q) (fun _ _ _ q => q))
theorem w_or (ha : XB D X W C a ia) (hb : XW D X W C (.BoolOp .Or (b :: rest) pos) ib) : XW D X W C (.BoolOp .Or (a :: b :: rest) pos) (.or ia ib) := PW_imp (pw_or ha hb) (t_or (fun _ _ _ q => q) (fun _ _ _ q => q))
theorem b_not (ha : XB D X W C a ia) : XB D X W C (.UnaryOp .Not a pos) (.not ia) := PT_imp (pt_not ha) fun σ H Q ⟨rho, env, h, e, r, q⟩ => ⟨rho, env, h, e, r, rd_bindB ⟨e, r⟩ q fun k H' rho' h' A s q => of_ok A q⟩
theorem x_and1 (hc : XP D X W C c ic) {o : BoolOp} : XP D X W C (.BoolOp o [c] pos) ic := pe_one hc
theorem x_and (O : Okx D X) (ha : XP D X W C a ia) (hb : XP D X W C (.BoolOp .And (b :: rest) pos) ib) : XP D X W C (.BoolOp .And (a :: b :: rest) pos) (.and ia ib) :=
  PE_imp (pe_andT ha hb) fun σ H Q ⟨rho, env, h, e, r, q⟩ => ⟨rho, env, h, e, r, rd_bind ⟨e, r⟩ q fun t H' rho' h' v A s p q => by
    obtain ⟨k, ek, q2⟩ := of_of q
    refine ⟨k, O.K ▸ tru_T A.r p ek, ?_⟩
    cases k with
    | true => rw [if_pos rfl]; exact ⟨rho', env, h', A.e, A.r, q2⟩
    | false => rw [if_neg (by decide)]; exact val_ok A.r p q2⟩
theorem x_or (O : Okx D X) (ha : XP D X W C a ia) (hb : XP D X W C (.BoolOp .Or (b :: rest) pos) ib) : XP D X W C (.BoolOp .Or (a :: b :: rest) pos) (.or ia ib) :=
  PE_imp (pe_orT ha hb) fun σ H Q ⟨rho, env, h, e, r, q⟩ => ⟨rho, env, h, e, r, rd_bind ⟨e, r⟩ q fun t H' rho' h' v A s p q => by
    obtain ⟨k, ek, q2⟩ := of_of q
    refine ⟨k, O.K ▸ tru_T A.r p ek, ?_⟩
    cases k with
    | true => rw [if_pos rfl]; exact val_ok A.r p q2
    | false => rw [if_neg (by decide)]; exact ⟨rho', env, h', A.e, A.r, q2⟩⟩
theorem bind_assoc' {α β γ : Type} (x : R α) (f : α → AH → R β) (g : β → AH → R γ) : (x.bind f).bind g = x.bind fun a h => (f a h).bind g := by cases x <;> rfl
theorem x_not (O : Okx D X) (ha : XP D X W C a ia) : XP D X W C (.UnaryOp .Not a pos) (.not ia) :=
  PE_imp (pe_notT ha) fun σ H Q ⟨rho, env, h, e, r, q⟩ => by
    have q' : outE D none W σ H rho Q (((evE C ia env h).bind fun t h => R.of (truT h t) h).bind fun b h1 => R.ok (.bl (!b)) h1) := q
    unfold outE at q'
    rw [bind_assoc'] at q'
    exact ⟨rho, env, h, e, r, rd_bind ⟨e, r⟩ q' fun t H' rho' h' v A s p q => by
      obtain ⟨k, ek, q2⟩ := of_of q
      exact ⟨k, O.K ▸ tru_T A.r p ek, val_ok A.r (.bl _) q2⟩⟩
theorem x_neg (ha : XP D X W C a ia) : XP D X W C (.UnaryOp .USub a pos) (.neg ia) :=
  PE_imp (pe_un un_neg ha) fun σ H Q ⟨rho, env, h, e, r, q⟩ => ⟨rho, env, h, e, r, rd_bind ⟨e, r⟩ q fun t H' rho' h' v A s p q => by
    cases t with
    | int i => cases p; exact ⟨i, rfl, val_ok A.r (.int _) q⟩
    | _ => exact q.elim⟩
theorem x_ite (hc : XB D X W C c ic) (ha : XP D X W C a ia) (hb : XP D X W C b ib) (hi : ∀ env h, evB C ic env h = (evE C ic env h).isB) : XP D X W C (.IfExp c a b pos) (.ite ic ia ib) :=
  PE_imp (pe_ifExp hc ha hb) fun σ H Q ⟨rho, env, h, e, r, q⟩ => by
    have q' : outE D none W σ H rho Q ((evB C ic env h).bind fun k h1 => match k with | true => evE C ia env h1 | false => evE C ib env h1) := by rw [hi]; exact q
    exact ⟨rho, env, h, e, r, rd_bindB ⟨e, r⟩ q' fun k H' rho' h' A s q => by
      cases k with
      | true => rw [if_pos rfl]; exact ⟨rho', env, h', A.e, A.r, q⟩
      | false => rw [if_neg (by decide)]; exact ⟨rho', env, h', A.e, A.r, q⟩⟩
theorem x_chain (O : Okx D X) {o o' : Co} (ha : XP D X W C a ia) (hb : XP D X W C b ib) (hc : XP D X W C c ic) (hm : lastMarks [opC o, opC o'] [b, c] = false) : XP D X W C (.Compare a [opC o, opC o'] [b, c] pos) (.chain o ia ib o' ic) :=
  PE_imp (pe_chain (opC_ok O o) (opC_ok O o') ha hb hc hm) fun σ H Q ⟨rho, env, h, e, r, q⟩ => ⟨rho, env, h, e, r, rd_bind ⟨e, r⟩ q fun t H' rho' h' v A s p q => ⟨rho', env, h', A.e, A.r, rd_bind A q fun t2 H2 rho2 h2 v2 A2 s2 p2 q2 => by
    obtain ⟨k, ek, q3⟩ := of_of q2
    refine ⟨rho2, h2, t, t2, k, A2.r, p.step s2, p2, ek, k, rfl, ?_⟩
    cases k with
    | false => rw [if_neg (by decide)]; exact val_ok A2.r (.bl _) q3
    | true =>
      rw [if_pos rfl]
      exact ⟨rho2, env, h2, A2.e, A2.r, rd_bind A2 q3 fun t3 H3 rho3 h3 v3 A3 s3 p3 q3 => by
        obtain ⟨k2, ek2, q4⟩ := of_of q3
        exact ⟨rho3, h3, t2, t3, k2, A3.r, p2.step s3, p3, ek2, val_ok A3.r (.bl k2) q4⟩⟩⟩⟩
theorem b_chain (O : Okx D X) {o o' : Co} (ha : XP D X W C a ia) (hb : XP D X W C b ib) (hc : XP D X W C c ic) (hm : lastMarks [opC o, opC o'] [b, c] = false) : XB D X W C (.Compare a [opC o, opC o'] [b, c] pos) (.chain o ia ib o' ic) :=
  PT_imp (pt_chain (opC_ok O o) (opC_ok O o') ha hb hc hm) fun σ H Q ⟨rho, env, h, e, r, q⟩ => by
    have q' : outR D W σ H rho (fun b H' _ _ => Q b H') (((evE C ia env h).bind fun x h1 => (evE C ib env h1).bind fun y h2 => (R.of (cmpT o h2 x y) h2).bind fun k h3 => match k with
      | true => (evE C ic env h3).bind fun z h4 => (R.of (cmpT o' h4 y z) h4).bind fun k2 h5 => R.ok (.bl k2) h5
      | false => R.ok (.bl false) h3).bind fun t h => R.of (truT h t) h) := q
    rw [bind_assoc'] at q'
    refine ⟨rho, env, h, e, r, rd_bind ⟨e, r⟩ q' fun t H' rho' h' v A s p q => ?_⟩
    rw [bind_assoc'] at q
    refine ⟨rho', env, h', A.e, A.r, rd_bind A q fun t2 H2 rho2 h2 v2 A2 s2 p2 q2 => ?_⟩
    rw [bind_assoc'] at q2
    obtain ⟨k, ek, q3⟩ := of_of q2
    refine ⟨rho2, h2, t, t2, k, A2.r, p.step s2, p2, ek, k, rfl, ?_⟩
    cases k with
    | false => rw [if_neg (by decide)]; exact ⟨false, rfl, of_ok A2 (h := h2) (D := D) (sx := none) q3⟩
    | true =>
      rw [if_pos rfl]
      dsimp only at q3
      rw [bind_assoc'] at q3
      exact ⟨rho2, env, h2, A2.e, A2.r, rd_bind A2 q3 fun t3 H3 rho3 h3 v3 A3 s3 p3 q3 => by
        rw [bind_assoc'] at q3
        obtain ⟨k2, ek2, q4⟩ := of_of q3
        exact ⟨rho3, h3, t2, t3, k2, A3.r, p2.step s3, p3, ek2, k2, rfl, of_ok A3 (h := h3) (D := D) (sx := none) q4⟩⟩

variable {es : List Expr} {l : IL}
theorem x_nil : PA X [] (rdL D sx W (evL C .nil)) := PA_imp pa_nil fun σ H Q ⟨rho, env, h, e, r, q⟩ => q H rho Step.rfl r _ .nil
theorem x_cons (ha : PE X a (rdE D sx W (evE C ia))) (hr : PA X es (rdL D sx W (evL C l))) (hs : starEach (a :: es) X.env = (false, eval a X.env) :: starEach es X.env := by rfl) : PA X (a :: es) (rdL D sx W (evL C (.cons ia l))) :=
  PA_imp (pa_cons ha hr hs) fun σ H Q ⟨rho, env, h, e, r, q⟩ => ⟨rho, env, h, e, r, rd_bind ⟨e, r⟩ q fun t H' rho' h' v A s p q => ⟨rho', env, h', A.e, A.r, rd_bindL A q fun ts H2 rho2 h2 vs A2 s2 p2 q2 => of_ok A2 q2 _ (.cons (p.step s2) p2)⟩⟩
theorem x_star (O : Okx D X) {p0 : Pos} (ha : XP D X W C a ia) (hr : XL D X W C es l) (hs : starEach (.Starred a p0 :: es) X.env = (true, eval a X.env) :: starEach es X.env := by rfl) : XL D X W C (.Starred a p0 :: es) (.star ia l) :=
  PA_imp (StX.pa_star ha hr hs) fun σ H Q ⟨rho, env, h, e, r, q⟩ => ⟨rho, env, h, e, r, rd_bind ⟨e, r⟩ q fun t H' rho' h' v A s p q => by
    cases hq : seqV h' t with
    | none => rw [hq] at q; exact q.elim
    | some ys =>
      rw [hq] at q
      obtain ⟨x, vs, rfl, hv, lv⟩ := view_seq A.r p hq
      refine ⟨x, vs, rfl, O.K ▸ Or.symm hv, rho', env, h', A.e, A.r, rd_bindL A q fun ts H2 rho2 h2 ws A2 s2 p2 q2 => of_ok A2 q2 _ ((lv.step s2).append p2)⟩⟩
theorem x_tup {k : Nat} (hr : PA X es (rdL D sx W (evL C l))) : PE X (.Tuple es k pos) (rdE D sx W (evE C (.tup l))) :=
  PE_imp (pe_tup hr) fun σ H Q ⟨rho, env, h, e, r, q⟩ => ⟨rho, env, h, e, r, rd_bindL ⟨e, r⟩ q fun ts H' rho' h' vs A s p q => by
    have q' : outE D sx W σ H' rho' Q (if ts.length ≤ sizeLine then R.ok (.tup ts) h' else .stuck) := q
    by_cases c : ts.length ≤ sizeLine
    · rw [if_pos c] at q'
      exact ⟨by rw [p.length]; exact c, fun x n => tup_ok A.r p q' n⟩
    · rw [if_neg c] at q'; exact q'.elim⟩
theorem x_lst {m : Bool} (hr : XL D X W C es l) : XP D X W C (.List es pos) (.lst m l) :=
  PE_imp (PE_frz (pe_lst hr)) fun σ H Q ⟨rho, env, h, e, r, q⟩ => ⟨rho, env, h, e, r, rd_bindL ⟨e, r⟩ q fun ts H' rho' h' vs A s p q => fresh_ok (m := m) A.r p q⟩

theorem x_idx (O : Okx D X) (ha : XP D X W C a ia) (hb : XP D X W C b ib) (hs : PlainIx b := by intro _ _; rfl) : XP D X W C (.Subscript a b pos) (.idx ia ib) :=
  PE_imp (pe_ix (r := fun x y H Q => ∃ (rho : Rho) (h : AH) (t t' r : T), RelH D H rho h ∧ Rp D none H rho x t ∧ Rp D none H rho y t' ∧ idxT h t t' = some r ∧ ∀ w, Rp D none H rho w r → Q w H)
    (fun value slice pins s σ H x y v u Q I rx ry ⟨rho, h, t, t', r, R, px, py, e, q⟩ hs => idx_ok O.K O.u I R rx ry px py e q hs) ha hb hs) fun σ H Q ⟨rho, env, h, e, r, q⟩ =>
    ⟨rho, env, h, e, r, rd_bind ⟨e, r⟩ q fun t H' rho' h' v A s p q => ⟨rho', env, h', A.e, A.r, rd_bind A q fun t2 H2 rho2 h2 v2 A2 s2 p2 q2 => by
      obtain ⟨k, ek, q3⟩ := of_of1 q2
      exact ⟨rho2, h2, t, t2, k, A2.r, p.step s2, p2, ek, of_ok A2 q3⟩⟩⟩
end
end PS
end
section
set_option maxRecDepth 100000
set_option maxHeartbeats 2000000
namespace PS
open PySem PySem.Spec PyProof.Rows L2
variable {D : Wd} {X : Cx} {C : Ctx} {W : WX} {sx : Sx} {σ σ2 : L2.St} {H : Hp} {rho : Rho} {env : Env} {h : AH} {pins : List (Addr × Obj)} {s : Shared}

theorem ep_frz {u : Value} {s : Shared} {Q : VK} {m : Sem Value} {M : Model} {A : Around} {E : Value → Shared → Prop} (hw : wpAny M A m (EP X pins σ (FrzQ Q)) E s) : wpAny M A m (EP X pins σ Q) E s := thn hw fun _ _ q => EP_frz q
def rSlc (D : Wd) (m : Bool) : V → Option Int → Option Int → Hp → VK → Prop := fun x lo hi H Q => ∃ (W : WX) (σ : L2.St) (rho : Rho) (h : AH) (t : T), RelH D H rho h ∧ Rp D none H rho x t ∧ outE D none W σ H rho Q (slcT m t lo hi h)
theorem slc_ok (O : Okx D X) (m : Bool) : SlR X (rSlc D m) := by
  intro pins s σ H x v vl vu lo hi sl Q I rx hs pl pu ⟨W, σ2, rho, h, t, R, px, q⟩
  unfold slcT at q
  cases es : snap h t with
  | tup xs =>
    rw [es] at q
    have et := snap_of_tup es
    subst et
    dsimp only at q
    cases px with
    | @tup a vs _ hq l =>
      by_cases hw : HT.sIx vs.length 0 lo = 0 ∧ HT.sIx vs.length vs.length hi = vs.length
      · cases rx
        obtain ⟨its, r, ht, hz⟩ := I.tuple (SqT.of hq)
        have hlen : its.toArray.size = vs.length := by rw [List.size_toArray]; exact r.length.symm
        refine ⟨"tuple", _, PyProof.Rows.slot_tuple_getitem.lookup, ht.typeIs, getItem_tuple_whole ht hs pl pu (by rw [hlen]; exact hw) ⟨.ref a, H, I, rfl, ?_⟩⟩
        have e : cutL xs lo hi = xs := by
          unfold cutL
          rw [← l.length, hw.1, hw.2]
          simp [l.length]
        rw [e] at q
        exact val_ok R (.tup hq l) q
      · exact sl_tup pins s σ H (.ref a) v vl vu lo hi sl Q I rx hs pl pu ⟨a, vs, rfl, SqT.of hq, hw, fun p n => tup_ok R (l.cut lo hi) q n⟩
  | lst xs =>
    rw [es] at q
    dsimp only at q
    obtain ⟨a, vs, rfl, ha, l⟩ := view_list R px (list_of_snap es)
    obtain ⟨T, id, h1, h2, h3⟩ := sl_list pins s σ H (.ref a) v vl vu lo hi sl (FrzQ Q) I rx hs pl pu ⟨a, vs, rfl, O.K ▸ ha, (fresh_ok R (l.cut lo hi) q).2⟩
    exact ⟨T, id, h1, h2, ep_frz (u := v) (s := s) h3⟩
  | str a =>
    rw [es] at q
    have et := snap_of_str es
    subst et
    dsimp only at q
    cases px
    by_cases c : a.length ≤ sizeLine
    · rw [if_pos c] at q
      exact sl_str pins s σ H (.str a) v vl vu lo hi sl Q I rx hs pl pu ⟨a, rfl, c, val_ok R (.str _) q⟩
    · rw [if_neg c] at q; exact q.elim
  | _ => rw [es] at q; exact q.elim
section
variable {a b c : Expr} {ia ib ic : IE} {pos : Pos}
theorem o_none : XO D X W C none .none := by
  refine ⟨fun pins s σ H Q I ⟨rho, env, h, e, r, q⟩ => po_none.run pins s σ H Q I (q H rho Step.rfl r)⟩
theorem o_some (ha : XP D X W C a ia) : XO D X W C (some a) (.some ia) := by
  refine ⟨fun pins s σ H Q I ⟨rho, env, h, e, r, q⟩ => (po_some ha).run pins s σ H Q I ⟨rho, env, h, e, r, rd_bind ⟨e, r⟩ q fun t H' rho' h' v A s p q => ?_⟩⟩
  cases t with
  | int i => cases p; exact ⟨i, rfl, of_ok A q⟩
  | _ => exact q.elim
theorem x_slc (O : Okx D X) {m : Bool} {lo hi : Option Expr} {il ih : IO} {p2 : Pos} (ha : XP D X W C a ia) (hl : XO D X W C lo il) (hh : XO D X W C hi ih) : XP D X W C (.Subscript a (.Slice lo hi none p2) pos) (.slc m ia il ih) :=
  PE_imp (pe_slice (slc_ok O m) ha hl hh) fun σ H Q ⟨rho, env, h, e, r, q⟩ => ⟨rho, env, h, e, r, rd_bind ⟨e, r⟩ q fun t H' rho' h' v A s p q => ⟨rho', env, h', A.e, A.r, rd_bindB A q fun l H2 rho2 h2 A2 s2 q2 =>
    ⟨rho2, env, h2, A2.e, A2.r, rd_bindB A2 q2 fun u H3 rho3 h3 A3 s3 q3 => ⟨W, σ, rho3, h3, t, A3.r, (p.step s2).step s3, q3⟩⟩⟩⟩
end

def rBf (D : Wd) (m : Bool) (f : Bf) : List V → Hp → VK → Prop := fun vs H Q => ∃ (W : WX) (σ : L2.St) (rho : Rho) (h : AH) (ts : List T), RelH D H rho h ∧ RpL D none H rho vs ts ∧ outE D none W σ H rho Q (bfT m f ts h)
theorem rpl1 {vs : List V} {t : T} (l : RpL D sx H rho vs [t]) : ∃ v, vs = [v] ∧ Rp D sx H rho v t := by
  cases l with
  | cons p l => cases l; exact ⟨_, rfl, p⟩
theorem rpl2 {vs : List V} {t u : T} (l : RpL D sx H rho vs [t, u]) : ∃ v w, vs = [v, w] ∧ Rp D sx H rho v t ∧ Rp D sx H rho w u := by
  cases l with
  | cons p l =>
    cases l with
    | cons p2 l => cases l; exact ⟨_, _, rfl, p, p2⟩
theorem bf_len (O : Okx D X) {m : Bool} : CallR X (.builtin "len") (rBf D m .len) := by
  intro pins s σ H xs us Q I r ⟨W, σ2, rho, h, ts, R, l, q⟩
  match ts, l, q with
  | [t], l, q =>
    obtain ⟨v, rfl, p⟩ := rpl1 l
    have q' : outE D none W σ2 H rho Q (match lenT h t with | some n => .ok (.int n) h | none => .stuck) := q
    cases e : lenT h t with
    | none => rw [e] at q'; exact q'.elim
    | some n =>
      rw [e] at q'
      have q2 := val_ok R (.int n) q'
      unfold lenT at e
      cases es : snap h t with
      | tup ys =>
        rw [es] at e
        have et := snap_of_tup es
        subst et
        cases e
        cases p with
        | tup hq l2 =>
          exact call_len_seq pins s σ H _ us Q I r ⟨_, _, rfl, .inr (SqT.of hq), by rw [l2.length]; exact q2⟩
      | lst ys =>
        rw [es] at e
        cases e
        obtain ⟨a, vs, rfl, ha, l2⟩ := view_list R p (list_of_snap es)
        exact call_len_seq pins s σ H _ us Q I r ⟨_, _, rfl, .inl (O.K ▸ ha), by rw [l2.length]; exact q2⟩
      | str z =>
        rw [es] at e
        have et := snap_of_str es
        subst et
        cases p
        dsimp only at e
        split at e
        · rename_i c
          cases e
          exact call_len_str pins s σ H _ us Q I r ⟨z, rfl, c, q2⟩
        · cases e
      | _ => rw [es] at e; cases e
  | [], _, q => exact q.elim
  | _ :: _ :: _, _, q => exact q.elim
theorem bf_abs {m : Bool} : CallR X (.builtin "abs") (rBf D m .abs) := by
  intro pins s σ H xs us Q I r ⟨W, σ2, rho, h, ts, R, l, q⟩
  match ts, l, q with
  | [.int i], l, q =>
    obtain ⟨v, rfl, p⟩ := rpl1 l
    cases p
    exact call_abs pins s σ H _ us Q I r ⟨i, rfl, val_ok R (.int _) q⟩
  | [.non], _, q => exact q.elim
  | [.bl _], _, q => exact q.elim
  | [.str _], _, q => exact q.elim
  | [.tup _], _, q => exact q.elim
  | [.lst _], _, q => exact q.elim
  | [.dct _ _ _], _, q => exact q.elim
  | [.ref _], _, q => exact q.elim
  | [.clo _ _], _, q => exact q.elim
  | [.exn _ _], _, q => exact q.elim
  | [], _, q => exact q.elim
  | t :: _ :: _, _, q => cases t <;> exact q.elim
theorem bf_int {m : Bool} : CallR X (.type "int") (rBf D m .int) := by
  intro pins s σ H xs us Q I r ⟨W, σ2, rho, h, ts, R, l, q⟩
  match ts, l, q with
  | [.int i], l, q =>
    obtain ⟨v, rfl, p⟩ := rpl1 l
    cases p
    exact call_int1 pins s σ H _ us Q I r (.inl ⟨i, rfl, val_ok R (.int _) q⟩)
  | [.bl i], l, q =>
    obtain ⟨v, rfl, p⟩ := rpl1 l
    cases p
    exact call_int1 pins s σ H _ us Q I r (.inr ⟨i, rfl, val_ok R (.int _) q⟩)
  | [.non], _, q => exact q.elim
  | [.str _], _, q => exact q.elim
  | [.tup _], _, q => exact q.elim
  | [.lst _], _, q => exact q.elim
  | [.dct _ _ _], _, q => exact q.elim
  | [.ref _], _, q => exact q.elim
  | [.clo _ _], _, q => exact q.elim
  | [.exn _ _], _, q => exact q.elim
  | [], _, q => exact q.elim
  | t :: _ :: _, _, q => cases t <;> exact q.elim
theorem bf_str {m : Bool} : CallR X (.type "str") (rBf D m .str) := by
  intro pins s σ H xs us Q I r ⟨W, σ2, rho, h, ts, R, l, q⟩
  match ts, l, q with
  | [.int i], l, q =>
    obtain ⟨v, rfl, p⟩ := rpl1 l
    cases p
    have q' : outE D none W σ2 H rho Q (match strT (.int i) with | some x => .ok (.str x) h | none => .stuck) := q
    unfold strT at q'
    dsimp only at q'
    by_cases c : i.natAbs.log2 < 1920
    · rw [if_pos c] at q'
      exact call_str_int pins s σ H _ us Q I r ⟨i, rfl, c, val_ok R (.str _) q'⟩
    · rw [if_neg c] at q'; exact q'.elim
  | [.non], _, q => exact q.elim
  | [.bl _], _, q => exact q.elim
  | [.str _], _, q => exact q.elim
  | [.tup _], _, q => exact q.elim
  | [.lst _], _, q => exact q.elim
  | [.dct _ _ _], _, q => exact q.elim
  | [.ref _], _, q => exact q.elim
  | [.clo _ _], _, q => exact q.elim
  | [.exn _ _], _, q => exact q.elim
  | [], _, q => exact q.elim
  | t :: _ :: _, _, q => cases t <;> exact q.elim
theorem bf_list (O : Okx D X) {m : Bool} : CallR X (.type "list") (rBf D m .list) := by
  intro pins s σ H xs us Q I r ⟨W, σ2, rho, h, ts, R, l, q⟩
  match ts, l, q with
  | [t], l, q =>
    obtain ⟨v, rfl, p⟩ := rpl1 l
    have q' : outE D none W σ2 H rho Q (match seqV h t with
        | some ys => fresh m ys h
        | none => .stuck) := q
    cases e : seqV h t with
    | none => rw [e] at q'; exact q'.elim
    | some ys =>
      rw [e] at q'
      obtain ⟨a, vs, rfl, hv, lv⟩ := view_seq R p e
      exact ep_frz (u := .none) (s := s) (call_list_of pins s σ H _ us (FrzQ Q) I r ⟨a, vs, rfl, O.K ▸ hv, (fresh_ok R lv q').2⟩)
  | [], _, q => exact q.elim
  | _ :: _ :: _, _, q => exact q.elim
theorem bf_tuple (O : Okx D X) {m : Bool} : CallR X (.type "tuple") (rBf D m .tuple) := by
  intro pins s σ H xs us Q I r ⟨W, σ2, rho, h, ts, R, l, q⟩
  match ts, l, q with
  | [t], l, q =>
    obtain ⟨v, rfl, p⟩ := rpl1 l
    have q' : outE D none W σ2 H rho Q (match seqV h t with
        | some ys => .ok (.tup ys) h
        | none => .stuck) := q
    cases e : seqV h t with
    | none => rw [e] at q'; exact q'.elim
    | some ys =>
      rw [e] at q'
      unfold seqV at e
      cases es : snap h t with
      | tup zs =>
        have et := snap_of_tup es
        subst et
        rw [es] at e
        cases e
        cases p with
        | tup hq l2 => exact call_tuple_of pins s σ H _ us Q I r ⟨_, _, rfl, .inr ⟨SqT.of hq, val_ok R (.tup hq l2) q'⟩⟩
      | lst zs =>
        rw [es] at e
        cases e
        obtain ⟨a, vs, rfl, ha, l2⟩ := view_list R p (list_of_snap es)
        exact call_tuple_of pins s σ H _ us Q I r ⟨_, _, rfl, .inl ⟨O.K ▸ ha, fun x n => tup_ok R l2 q' n⟩⟩
      | _ => rw [es] at e; cases e
  | [], _, q => exact q.elim
  | _ :: _ :: _, _, q => exact q.elim
theorem intsT_rp : ∀ {ys : List T} {ns : List Int} {vs : List V}, intsT ys = some ns → RpL D sx H rho vs ys → vs = ns.map V.int
  | [], _, _, e, .nil => by cases e; rfl
  | .int i :: r, _, _, e, .cons p l => by
    unfold intsT at e
    cases hr : intsT r with
    | none => rw [hr] at e; cases e
    | some ms => rw [hr] at e; cases e; cases p; rw [intsT_rp hr l]; rfl
theorem blsT_rp : ∀ {ys : List T} {ns : List Bool} {vs : List V}, blsT ys = some ns → RpL D sx H rho vs ys → vs = ns.map V.bl
  | [], _, _, e, .nil => by cases e; rfl
  | .bl i :: r, _, _, e, .cons p l => by
    unfold blsT at e
    cases hr : blsT r with
    | none => rw [hr] at e; cases e
    | some ms => rw [hr] at e; cases e; cases p; rw [blsT_rp hr l]; rfl
theorem bf_all (O : Okx D X) (hc : X.calm = true) {m : Bool} : CallR X (.builtin "all") (rBf D m .all) := by
  intro pins s σ H xs us Q I r ⟨W, σ2, rho, h, ts, R, l, q⟩
  match ts, l, q with
  | [t], l, q =>
    obtain ⟨v, rfl, p⟩ := rpl1 l
    have q' : outE D none W σ2 H rho Q (match isList h t with
      | some ys => match blsT ys with
        | some bs => .ok (.bl (bs.all id)) h
        | none => .stuck
      | none => .stuck) := q
    cases e : isList h t with
    | none => rw [e] at q'; exact q'.elim
    | some ys =>
      rw [e] at q'
      dsimp only at q'
      cases e2 : blsT ys with
      | none => rw [e2] at q'; exact q'.elim
      | some bs =>
        rw [e2] at q'
        obtain ⟨a, vs, rfl, ha, l2⟩ := view_list R p e
        rw [blsT_rp e2 l2] at ha
        exact cr_all hc pins s σ H _ us Q I r ⟨a, bs, rfl, O.K ▸ ha, val_ok R (.bl _) q'⟩
  | [], _, q => exact q.elim
  | _ :: _ :: _, _, q => exact q.elim
theorem bf_any (O : Okx D X) (hc : X.calm = true) {m : Bool} : CallR X (.builtin "any") (rBf D m .any) := by
  intro pins s σ H xs us Q I r ⟨W, σ2, rho, h, ts, R, l, q⟩
  match ts, l, q with
  | [t], l, q =>
    obtain ⟨v, rfl, p⟩ := rpl1 l
    have q' : outE D none W σ2 H rho Q (match isList h t with
      | some ys => match blsT ys with
        | some bs => .ok (.bl (bs.any id)) h
        | none => .stuck
      | none => .stuck) := q
    cases e : isList h t with
    | none => rw [e] at q'; exact q'.elim
    | some ys =>
      rw [e] at q'
      dsimp only at q'
      cases e2 : blsT ys with
      | none => rw [e2] at q'; exact q'.elim
      | some bs =>
        rw [e2] at q'
        obtain ⟨a, vs, rfl, ha, l2⟩ := view_list R p e
        rw [blsT_rp e2 l2] at ha
        exact cr_any hc pins s σ H _ us Q I r ⟨a, bs, rfl, O.K ▸ ha, val_ok R (.bl _) q'⟩
  | [], _, q => exact q.elim
  | _ :: _ :: _, _, q => exact q.elim
theorem bf_sum (O : Okx D X) (hc : X.calm = true) {m : Bool} : CallR X (.builtin "sum") (rBf D m .sum) := by
  intro pins s σ H xs us Q I r ⟨W, σ2, rho, h, ts, R, l, q⟩
  match ts, l, q with
  | [t], l, q =>
    obtain ⟨v, rfl, p⟩ := rpl1 l
    have q' : outE D none W σ2 H rho Q (match isList h t with
      | some ys => match intsT ys with
        | some bs => .ok (.int bs.sum) h
        | none => .stuck
      | none => .stuck) := q
    cases e : isList h t with
    | none => rw [e] at q'; exact q'.elim
    | some ys =>
      rw [e] at q'
      dsimp only at q'
      cases e2 : intsT ys with
      | none => rw [e2] at q'; exact q'.elim
      | some bs =>
        rw [e2] at q'
        obtain ⟨a, vs, rfl, ha, l2⟩ := view_list R p e
        rw [intsT_rp e2 l2] at ha
        exact cr_sum hc pins s σ H _ us Q I r ⟨a, bs, rfl, O.K ▸ ha, val_ok R (.int _) q'⟩
  | [], _, q => exact q.elim
  | _ :: _ :: _, _, q => exact q.elim
section
variable {a : Expr} {es : List Expr} {l : IL} {x : Str} {p pos : Pos} {id T : String}
theorem x_bf {m : Bool} {f : Bf} (hc : CallR X (.builtin id) (rBf D m f)) (hg : Gl X x) (hm : X.mg x = none) (hv : bootBuiltins x = some (.builtin id)) (ha : XL D X W C (a :: es) l) (hn : x ≠ "__name__" := by decide) (hdb : (x == ("__debug__" : Str)) = false := by decide)
    (he : starEach (a :: es) X.env = (false, eval a X.env) :: starEach es X.env := by rfl) (hpl : (backTo pos (starEach es X.env)).any (·.1) = false := by rfl) : XP D X W C (.Call (.Name x p) (a :: es) [] pos) (.bf m f l) :=
  PE_imp (pe_callB hc hg hm hv ha hn hdb he hpl) fun σ H Q ⟨rho, env, h, e, r, q⟩ => ⟨rho, env, h, e, r, rd_bindL ⟨e, r⟩ q fun ts H' rho' h' vs A s p q => ⟨W, σ, rho', h', ts, A.r, p, q⟩⟩
theorem x_bfT {m : Bool} {f : Bf} (hc : CallR X (.type T) (rBf D m f)) (hg : Gl X x) (hm : X.mg x = none) (hv : bootBuiltins x = some (.type T)) (ha : XL D X W C (a :: es) l) (hn : x ≠ "__name__" := by decide) (hdb : (x == ("__debug__" : Str)) = false := by decide)
    (he : starEach (a :: es) X.env = (false, eval a X.env) :: starEach es X.env := by rfl) (hpl : (backTo pos (starEach es X.env)).any (·.1) = false := by rfl) : XP D X W C (.Call (.Name x p) (a :: es) [] pos) (.bf m f l) :=
  PE_imp (pe_callTy hc hg hm hv ha hn hdb he hpl) fun σ H Q ⟨rho, env, h, e, r, q⟩ => ⟨rho, env, h, e, r, rd_bindL ⟨e, r⟩ q fun ts H' rho' h' vs A s p q => ⟨W, σ, rho', h', ts, A.r, p, q⟩⟩
end
end PS
end
section
set_option maxRecDepth 100000
set_option maxHeartbeats 2000000
namespace PS
open PySem PySem.Spec PyProof.Rows L2
variable {D : Wd} {X : Cx} {C : Ctx} {W : WX} {sx : Sx} {σ σ2 : L2.St} {H : Hp} {rho : Rho} {env : Env} {h : AH} {pins : List (Addr × Obj)} {s : Shared}

def rBm (D : Wd) (m : Bool) (f : Bm) : V → List V → Hp → VK → Prop := fun x vs H Q => ∃ (W : WX) (σ : L2.St) (rho : Rho) (h : AH) (t : T) (ts : List T), RelH D H rho h ∧ Rp D none H rho x t ∧ RpL D none H rho vs ts ∧ outE D none W σ H rho Q (bmT m f t ts h)
theorem put_lst {Q : VK} {n : Nat} {a : Addr} {u : HO} {vs : List V} {ts : List T} {v : V} {t : T} (R : RelH D H rho h) (r : rho[n]? = some a) (hH : H a = some u) (su : stays u = false) (l : RpL D none H rho vs ts) (p : Rp D none H rho v t)
    (q : outE D none W σ2 H rho Q (.ok t (h.set n (.lst ts)))) : Q v (upd H a (.lst vs)) :=
  q _ rho (Step.set r hH su) (R.put r hH su ⟨vs, upd_same, l.step (Step.set r hH su)⟩) v (p.step (Step.set r hH su))
theorem cell_lst {x : V} {t : T} {n : Nat} {ts : List T} (R : RelH D H rho h) (px : Rp D none H rho x (.ref n)) (hn : h[n]? = some (.lst ts)) : ∃ a vs, x = .ref a ∧ rho[n]? = some a ∧ H a = some (.lst vs) ∧ RpL D none H rho vs ts := by
  cases px with
  | ref r =>
    obtain ⟨vs, q, l⟩ := R.cell n _ _ r hn
    exact ⟨_, vs, rfl, r, q, l⟩
theorem bm_append {m : Bool} : MtR X "list.append" (rBm D m .append) := by
  intro pins s σ H x xs v us Q I rx rs ⟨W, σ2, rho, h, t, ts, R, px, l, q⟩
  match ts, l, q with
  | [y], l, q =>
    obtain ⟨v1, rfl, p1⟩ := rpl1 l
    cases t with
    | ref n =>
      have q' : outE D none W σ2 H rho Q (match h[n]? with
        | some (.lst xs) => if xs.length < sizeLine then .ok .non (h.set n (.lst (xs ++ [y]))) else .stuck
        | _ => .stuck) := q
      cases hn : h[n]? with
      | none => rw [hn] at q'; exact q'.elim
      | some c =>
        rw [hn] at q'
        cases c with
        | lst zs =>
          dsimp only at q'
          by_cases c : zs.length < sizeLine
          · rw [if_pos c] at q'
            obtain ⟨a, vs, rfl, r, hH, lv⟩ := cell_lst (t := .non) R px hn
            exact mt_append pins s σ H (.ref a) [v1] v us Q I rx rs ⟨a, vs, v1, rfl, rfl, hH, by rw [lv.length]; exact c, put_lst R r hH rfl (lv.append (.cons p1 .nil)) .non q'⟩
          · rw [if_neg c] at q'; exact q'.elim
        | dct tk ks vs => exact q'.elim
        | obj c fs => exact q'.elim
    | _ => exact q.elim
  | [], _, q => exact q.elim
  | t :: _ :: _, _, q => exact q.elim
theorem bm_pop {m : Bool} : MtR X "list.pop" (rBm D m .pop) := by
  intro pins s σ H x xs v us Q I rx rs ⟨W, σ2, rho, h, t, ts, R, px, l, q⟩
  match ts, l, q with
  | [], l, q =>
    cases l
    cases t with
    | ref n =>
      have q' : outE D none W σ2 H rho Q (match h[n]? with
        | some (.lst xs) => match xs[xs.length - 1]? with
          | some y => .ok y (h.set n (.lst xs.dropLast))
          | none => .stuck
        | _ => .stuck) := q
      cases hn : h[n]? with
      | none => rw [hn] at q'; exact q'.elim
      | some c =>
        rw [hn] at q'
        cases c with
        | lst zs =>
          dsimp only at q'
          cases hz : zs[zs.length - 1]? with
          | none => rw [hz] at q'; exact q'.elim
          | some y =>
            rw [hz] at q'
            obtain ⟨a, vs, rfl, r, hH, lv⟩ := cell_lst (t := .non) R px hn
            obtain ⟨w, ew, pw⟩ := lv.get hz
            exact mt_pop pins s σ H (.ref a) [] v us Q I rx rs ⟨a, vs, w, rfl, rfl, hH, by rw [lv.length]; exact ew, put_lst R r hH rfl lv.dropLast pw q'⟩
        | dct tk ks vs => exact q'.elim
        | obj c fs => exact q'.elim
    | _ => exact q.elim
  | t :: _, _, q => exact q.elim
theorem bm_insert {m : Bool} : MtR X "list.insert" (rBm D m .insert) := by
  intro pins s σ H x xs v us Q I rx rs ⟨W, σ2, rho, h, t, ts, R, px, l, q⟩
  match ts, l, q with
  | [.int i, y], l, q =>
    obtain ⟨v0, v1, rfl, p0, p1⟩ := rpl2 l
    cases p0
    cases t with
    | ref n =>
      have q' : outE D none W σ2 H rho Q (match h[n]? with
        | some (.lst xs) => if xs.length < sizeLine ∧ 0 ≤ i ∧ i ≤ xs.length then .ok .non (h.set n (.lst (insAt xs i.toNat y))) else .stuck
        | _ => .stuck) := q
      cases hn : h[n]? with
      | none => rw [hn] at q'; exact q'.elim
      | some c =>
        rw [hn] at q'
        cases c with
        | lst zs =>
          dsimp only at q'
          by_cases c : zs.length < sizeLine ∧ 0 ≤ i ∧ i ≤ zs.length
          · rw [if_pos c] at q'
            obtain ⟨a, vs, rfl, r, hH, lv⟩ := cell_lst (t := .non) R px hn
            have hz := c.1
            have h63 : i < 2 ^ 63 := by
              have h1 := c.2.2
              have h2 : sizeLine < 2 ^ 63 := by rw [sizeLine_eq]; decide
              omega
            refine mt_insert pins s σ H (.ref a) [.int i, v1] v us Q I rx rs ⟨a, vs, i, v1, rfl, rfl, hH, by rw [lv.length]; exact c.1, c.2.1, h63, put_lst R r hH rfl (ts := insAt zs i.toNat y) ?_ .non q'⟩
            unfold insAt
            rw [List.append_assoc]
            exact (lv.take _).append (.cons p1 (lv.drop _))
          · rw [if_neg c] at q'; exact q'.elim
        | dct tk ks vs => exact q'.elim
        | obj c fs => exact q'.elim
    | _ => exact q.elim
  | [], _, q => exact q.elim
  | [t1], _, q => cases t1 <;> exact q.elim
  | t1 :: _ :: _ :: _, _, q => cases t1 <;> exact q.elim
section
variable {a o e : Expr} {es : List Expr} {ia io ie : IE} {l : IL} {x name : Str} {p pos apos cpos : Pos} {id T : String}
theorem bmOk_lst {f : Bm} {t : PS.T} (hf : f ≠ .get ∧ f ≠ .setdefault) (e : bmOk f t h = true) : ∃ xs, isList h t = some xs := by
  cases f <;> first | exact absurd rfl hf.1 | exact absurd rfl hf.2 | exact Option.isSome_iff_exists.mp e
theorem x_bm {m : Bool} {f : Bm} (O : Okx D X) (hf : f ≠ .get ∧ f ≠ .setdefault) (slot : Slot "list" name id) (hty : typeOf (.builtin id) = pure (.type "method_descriptor")) (hm : MtR X id (rBm D m f)) (ho : XP D X W C o io) (ha : XL D X W C (e :: es) l)
    (hbase : attributeBase o name X.env (eval o X.env) = eval o X.env := by rfl)
    (hfew : ((backTo cpos (starEach (e :: es) X.env)).all (fun x => !x.1) && (backToKw cpos (keywordEach [] X.env)).all (fun x => x.1.isSome)
      && decide ((e :: es).length + ([] : List Keyword).length + (if ([] : List Keyword).isEmpty then 0 else 1) < 30)) = true := by rfl)
    (hline : (apos.endLine == cpos.line) = true := by rfl) (hs : starEach (e :: es) X.env = (false, eval e X.env) :: starEach es X.env := by rfl) (hplain : (backTo cpos (starEach es X.env)).any (·.1) = false := by rfl) :
    XP D X W C (.Call (.Attribute o name apos) (e :: es) [] cpos) (.bm m f io l) :=
  PE_imp (pe_bm PySem.F.plainAttrs_list slot hty hm ho ha hbase hfew hline hs hplain) fun σ H Q ⟨rho, env, h, e, r, q⟩ => ⟨rho, env, h, e, r, rd_bind ⟨e, r⟩ q fun t H' rho' h' v A s p q => by
    by_cases c : bmOk f t h' = true
    · rw [if_pos c] at q
      obtain ⟨xs, hx⟩ := bmOk_lst hf c
      obtain ⟨a, vs, rfl, hv, lv⟩ := view_list A.r p hx
      exact ⟨.inl ⟨rfl, vs, O.K ▸ hv⟩, rho', env, h', A.e, A.r, rd_bindL A q fun ts H2 rho2 h2 ws A2 s2 p2 q2 => ⟨W, σ, rho2, h2, t, ts, A2.r, p.step s2, p2, q2⟩⟩
    · rw [if_neg c] at q; exact q.elim⟩
theorem x_bm0 {m : Bool} {f : Bm} (O : Okx D X) (hf : f ≠ .get ∧ f ≠ .setdefault) (slot : Slot "list" name id) (hty : typeOf (.builtin id) = pure (.type "method_descriptor")) (hm : MtR X id (rBm D m f)) (ho : XP D X W C o io)
    (hbase : attributeBase o name X.env (eval o X.env) = eval o X.env := by rfl) (hline : (apos.endLine == cpos.line) = true := by rfl) :
    XP D X W C (.Call (.Attribute o name apos) [] [] cpos) (.bm m f io .nil) :=
  PE_imp (pe_bm0 PySem.F.plainAttrs_list slot hty hm ho hbase hline) fun σ H Q ⟨rho, env, h, e, r, q⟩ => ⟨rho, env, h, e, r, rd_bind ⟨e, r⟩ q fun t H' rho' h' v A s p q => by
    by_cases c : bmOk f t h' = true
    · rw [if_pos c] at q
      obtain ⟨xs, hx⟩ := bmOk_lst hf c
      obtain ⟨a, vs, rfl, hv, lv⟩ := view_list A.r p hx
      exact ⟨.inl ⟨rfl, vs, O.K ▸ hv⟩, W, σ, rho', h', t, [], A.r, p, .nil, q⟩
    · rw [if_neg c] at q; exact q.elim⟩

theorem fr_lookup {f : Nat} {t : PS.T} (hj : ∀ i j, D.fl i = D.fl j → i = j) : ∀ {gs : List (Str × V)} {fs : List (Nat × PS.T)}, FR D H rho gs fs → fs.lookup f = some t → ∃ v, gs.lookup (D.fl f) = some v ∧ Rp D none H rho v t
  | [], [], _, e => by cases e
  | [], _ :: _, ⟨h1, _⟩, _ => by simp at h1
  | _ :: _, [], ⟨h1, _⟩, _ => by simp at h1
  | (g, v) :: gs, (i, u) :: fs, ⟨h1, h2⟩, e => by
    simp only [List.map_cons, List.cons.injEq] at h1
    cases h2 with
    | cons p l =>
      obtain ⟨rfl, h1⟩ := h1
      by_cases hi : f = i
      · subst hi
        simp [List.lookup] at e
        subst e
        exact ⟨v, by simp [List.lookup], p⟩
      · have hn : (f == i) = false := by simpa using hi
        simp only [List.lookup, hn] at e
        obtain ⟨w, e1, e2⟩ := fr_lookup hj ⟨h1, l⟩ e
        refine ⟨w, ?_, e2⟩
        have hn2 : (D.fl f == D.fl i) = false := by
          simp only [beq_eq_false_iff_ne, ne_eq]
          exact fun z => hi (hj _ _ z)
        simp only [List.lookup, hn2]
        exact e1
theorem fr_put {f : Nat} {t : PS.T} {v : V} (hj : ∀ i j, D.fl i = D.fl j → i = j) (p : Rp D none H rho v t) : ∀ {gs : List (Str × V)} {fs : List (Nat × PS.T)}, FR D H rho gs fs → FR D H rho (L2.putF (D.fl f) v gs) (putF f t fs)
  | [], [], _ => ⟨rfl, .cons p .nil⟩
  | [], _ :: _, ⟨h1, _⟩ => by simp at h1
  | _ :: _, [], ⟨h1, _⟩ => by simp at h1
  | (g, w) :: gs, (i, u) :: fs, ⟨h1, h2⟩ => by
    simp only [List.map_cons, List.cons.injEq] at h1
    cases h2 with
    | cons p2 l =>
      obtain ⟨rfl, h1⟩ := h1
      by_cases hi : i = f
      · subst hi
        unfold L2.putF putF
        rw [if_pos rfl, if_pos rfl]
        exact ⟨by simp [h1], .cons p l⟩
      · have hn2 : ¬ D.fl i = D.fl f := fun z => hi (hj _ _ z)
        unfold L2.putF putF
        rw [if_neg hi, if_neg hn2]
        obtain ⟨r1, r2⟩ := fr_put hj p (gs := gs) (fs := fs) ⟨h1, l⟩
        exact ⟨by simp [r1], .cons p2 r2⟩
theorem cell_obj {v : V} {n c : Nat} {fs : List (Nat × PS.T)} (R : RelH D H rho h) (px : Rp D none H rho v (.ref n)) (hn : h[n]? = some (.obj c fs)) : ∃ a dx gs, v = .ref a ∧ rho[n]? = some a ∧ H a = some (.ins (D.ca c) dx gs) ∧ c < D.nc ∧ FR D H rho gs fs := by
  cases px with
  | ref r =>
    obtain ⟨dx, gs, q, b, l⟩ := R.cell n _ _ r hn
    exact ⟨_, dx, gs, rfl, r, q, b, l⟩
theorem x_fld (O : Okx D X) {c f : Nat} (hj : ∀ i j, D.fl i = D.fl j → i = j) (hno : NoAttr D.K (D.ca c) (D.fl f)) (ha : XP D X W C a ia) (hb : attributeBase a (D.fl f) X.env (eval a X.env) = eval a X.env := by rfl) : XP D X W C (.Attribute a (D.fl f) pos) (.fld ia c f) :=
  PE_imp (pe_fld ha hb) fun σ H Q ⟨rho, env, h, e, r, q⟩ => ⟨rho, env, h, e, r, rd_bind ⟨e, r⟩ q fun t H' rho' h' v A s p q => by
    obtain ⟨u, eu, q2⟩ := of_of1 q
    cases t with
    | ref n =>
      have eu' : (match h'[n]? with
        | some (.obj c' fs) => if c' = c then fs.lookup f else none
        | _ => none) = some u := eu
      cases hn : h'[n]? with
      | none => rw [hn] at eu'; cases eu'
      | some cl =>
        rw [hn] at eu'
        cases cl with
        | obj c' fs =>
          dsimp only at eu'
          by_cases hc : c' = c
          · rw [if_pos hc] at eu'
            subst hc
            obtain ⟨a, dx, gs, rfl, r2, hH, hb, fr⟩ := cell_obj A.r p hn
            obtain ⟨w, e1, e2⟩ := fr_lookup hj fr eu'
            exact ⟨a, _, dx, gs, w, rfl, hH, O.K ▸ (O.cls _ hb).cl, O.K ▸ hno, e1, val_ok A.r e2 q2⟩
          · rw [if_neg hc] at eu'; cases eu'
        | lst _ => cases eu'
        | dct _ _ _ => cases eu'
    | _ => cases eu⟩
end
end PS
end
section
set_option maxRecDepth 100000
set_option maxHeartbeats 2000000
namespace PS
open PySem PySem.Spec PyProof.Rows L2
variable {D : Wd} {X : Cx} {C : Ctx} {W : WX} {sx : Sx} {σ σ2 : L2.St} {H : Hp} {rho : Rho} {env : Env} {h : AH} {pins : List (Addr × Obj)} {s : Shared} {En : Ends}

structure RelK (D : Wd) (n0 : Nat) (H : Hp) (rho : Rho) (h : AH) : Prop where
  len : rho.length = h.length
  nd : rho.Nodup
  cell : ∀ (n : Nat) (a : Addr) (c : Cell), n < n0 → rho[n]? = some a → h[n]? = some c → CellR D H rho a c
def RelM (D : Wd) (H : Hp) (rho : Rho) (h : AH) : Option Nat → Prop
  | none => RelH D H rho h
  | some n => RelK D n H rho h
def outS (D : Wd) (sx : Sx) (W : WX) (En : Ends) (H : Hp) (rho : Rho) : RS → Prop
  | .next e h' => ∀ σ' H' rho', Step H rho H' rho' → At D sx σ' H' rho' e h' → En.nx σ' H'
  | .brk e h' => ∀ σ' H' rho', Step H rho H' rho' → At D sx σ' H' rho' e h' → En.bk σ' H'
  | .cont e h' => ∀ σ' H' rho', Step H rho H' rho' → At D sx σ' H' rho' e h' → En.ct σ' H'
  | .ret m t h' => ∀ H' rho' v, Step H rho H' rho' → RelM D H' rho' h' m → Rp D none H' rho' v t → En.rt v H'
  | .exc c t e h' => ∀ σ' H' rho' cls d, Step H rho H' rho' → At D sx σ' H' rho' e h' → ExR D H' rho' cls d c t → W cls d σ' H'
  | .stuck => False
theorem outS.step {H1 : Hp} {rho1 : Rho} (s : Step H rho H1 rho1) : ∀ {x : RS}, outS D sx W En H rho x → outS D sx W En H1 rho1 x
  | .next _ _, q => fun σ' H' r' s' A => q σ' H' r' (s.trans s') A
  | .brk _ _, q => fun σ' H' r' s' A => q σ' H' r' (s.trans s') A
  | .cont _ _, q => fun σ' H' r' s' A => q σ' H' r' (s.trans s') A
  | .ret _ _ _, q => fun H' r' v s' R p => q H' r' v (s.trans s') R p
  | .exc _ _ _ _, q => fun σ' H' r' cls d s' A x => q σ' H' r' cls d (s.trans s') A x
  | .stuck, q => q
def rdS (D : Wd) (sx : Sx) (W : WX) (f : Env → AH → RS) : TS := fun En σ H => ∃ rho env h, At D sx σ H rho env h ∧ outS D sx W En H rho (f env h)
abbrev XS (D : Wd) (X : Cx) (W : WX) (C : Ctx) (st : Stmt) (i : IS) : Prop := PS X st (rdS D none W (evS C i))
abbrev XSs (D : Wd) (X : Cx) (W : WX) (C : Ctx) (st : List Stmt) (i : ISs) : Prop := PSs X st (rdS D none W (evSs C i))
theorem PSs_imp {X : Cx} {e : List Stmt} {t t' : TS} (p : PSs X e t) (i : ∀ D σ H, t' D σ H → t D σ H) : PSs X e t' := ⟨fun pins s σ H Q I h => p.run pins s σ H Q I (i Q σ H h)⟩
theorem sR {α : Type} {r : R α} {k : α → AH → RS} (a : At D sx σ H rho env h) (q : outS D sx W En H rho (r.toS (fun c v h1 => .exc c v env h1) .stuck k)) : outR D W σ H rho (fun t H' rho' h' => outS D sx W En H' rho' (k t h')) r := by
  cases r with
  | ok x h1 => exact fun H' r' s R => outS.step s q
  | exc c v h1 => exact fun H' r' cls d s R x => q σ H' r' cls d s (a.step s R) x
  | stuck => exact q
theorem sRv {r : R T} {k : T → AH → RS} {Qn : VK} (a : At D sx σ H rho env h) (q : outS D sx W En H rho (r.toS (fun c v h1 => .exc c v env h1) .stuck k)) (g : ∀ t H' rho' h' v, At D sx σ H' rho' env h' → Step H rho H' rho' → Rp D sx H' rho' v t → outS D sx W En H' rho' (k t h') → Qn v H') : outE D sx W σ H rho Qn r :=
  outR.mono (fun t H' r' h' s R q v x => g t H' r' h' v (a.step s R) s x q) (sR a q)
theorem sRb {β : Type} {r : R β} {k : β → AH → RS} {Qn : β → Hp → Prop} (a : At D sx σ H rho env h) (q : outS D sx W En H rho (r.toS (fun c v h1 => .exc c v env h1) .stuck k)) (g : ∀ t H' rho' h', At D sx σ H' rho' env h' → Step H rho H' rho' → outS D sx W En H' rho' (k t h') → Qn t H') : outR D W σ H rho (fun b H' _ _ => Qn b H') r :=
  outR.mono (fun t H' r' h' s R q => g t H' r' h' (a.step s R) s q) (sR a q)
theorem nx_ok {e : Env} (a : At D sx σ H rho e h) (q : outS D sx W En H rho (.next e h)) : En.nx σ H := q σ H rho Step.rfl a

def But (sl : List Nat) (σ σ' : L2.St) : Prop := σ'.length = σ.length ∧ ∀ i, i ∉ sl → σ'[i]? = σ[i]?
theorem But.rfl {sl : List Nat} : But sl σ σ := ⟨Eq.refl _, fun _ _ => Eq.refl _⟩
theorem But.trans {s1 s2 : List Nat} {σ1 σ2 : L2.St} (a : But s1 σ σ1) (b : But s2 σ1 σ2) : But (s1 ++ s2) σ σ2 := ⟨b.1.trans a.1, fun i n => by
  rw [List.mem_append, not_or] at n
  exact (b.2 i n.2).trans (a.2 i n.1)⟩
theorem wipe_get : ∀ (vs : List Nat) (σ : L2.St) (i : Nat), (L2.wipe σ vs)[i]? = if i ∈ vs then (if i < σ.length then some none else none) else σ[i]?
  | [], σ, i => by simp [L2.wipe]
  | v :: vs, σ, i => by
    have hl : (L2.wipe σ vs).length = σ.length := L2.wipe_length _ _
    unfold L2.wipe
    by_cases hv : v = i
    · subst hv
      rw [if_pos (by simp)]
      by_cases hi : v < σ.length
      · rw [List.getElem?_set_self (by rw [hl]; exact hi), if_pos hi]
      · rw [List.getElem?_eq_none (by rw [List.length_set, hl]; omega), if_neg hi]
    · rw [List.getElem?_set_ne hv, wipe_get vs σ i]
      have : (i ∈ v :: vs) ↔ i ∈ vs := by simp [Ne.symm hv]
      simp only [this]
theorem But.wipe {sl vs : List Nat} {σ' : L2.St} (b : But sl σ σ') (hs : ∀ i ∈ sl, i ∈ vs) : L2.wipe σ' vs = L2.wipe σ vs := by
  refine List.ext_getElem? fun i => ?_
  rw [wipe_get, wipe_get, b.1]
  by_cases h : i ∈ vs
  · rw [if_pos h, if_pos h]
  · rw [if_neg h, if_neg h, b.2 i fun z => h (hs i z)]
def rdG (D : Wd) (sx : Sx) (g : TG) : L2.TG := fun v σ H Q => ∃ rho env h t e', At D sx σ H rho env h ∧ Rp D sx H rho v t ∧ g.asg t env = some e' ∧ ∀ σ', RelE D sx H rho σ' e' → But g.slots σ σ' → Q σ' H
def rdGs (D : Wd) (sx : Sx) (g : TGs) : L2.TGs := fun vs σ H Q => ∃ rho env h ts e', At D sx σ H rho env h ∧ RpL D sx H rho vs ts ∧ g.asg ts env = some e' ∧ ∀ σ', RelE D sx H rho σ' e' → But g.slots σ σ' → Q σ' H
abbrev XG (D : Wd) (X : Cx) (tg : Expr) (g : TG) : Prop := PG X tg (rdG D none g)
theorem PG_imp {X : Cx} {e : Expr} {t t' : L2.TG} (p : PG X e t) (i : ∀ v σ H Q, t' v σ H Q → t v σ H Q) : PG X e t' := ⟨fun pins s σ H v u Q I r h => p.run pins s σ H v u Q I r (i v σ H Q h)⟩
theorem PGs_imp {X : Cx} {e : List Expr} {t t' : L2.TGs} (p : PGs X e t) (i : ∀ v σ H Q, t' v σ H Q → t v σ H Q) : PGs X e t' := ⟨fun pins s σ H v u Q I r h => p.run pins s σ H v u Q I r (i v σ H Q h)⟩
section
variable {pos : Pos}
theorem g_nm {i : Nat} {x : Str} (hN : X.N.Nodup) (hi : X.N[i]? = some x) (hx : Loc X.env.scope x) (hf : X.fn x = true ∨ X.env.scope.names.lookup x = some .local) : PG X (.Name x pos) (rdG D sx (TG.nm i)) :=
  PG_imp (pg_name hN hi hx hf) fun v σ H Q ⟨rho, env, h, t, e', A, p, e, q⟩ => q _ (by cases e; exact A.e.set i p) ⟨by simp, fun j n => by
    have hj : i ≠ j := fun z => n (by simp [TG.slots, z])
    rw [List.getElem?_set_ne hj]⟩
theorem gs_nil : PGs X [] (rdGs D none TGs.nil) :=
  PGs_imp pgs_nil fun vs σ H Q ⟨rho, env, h, ts, e', A, p, e, q⟩ => by
    cases ts with
    | nil => cases p; cases e; exact ⟨rfl, q σ A.e But.rfl⟩
    | cons t ts => cases e
theorem gs_cons {e : Expr} {es : List Expr} {t : TG} {u : TGs} (h1 : XG D X e t) (h2 : PGs X es (rdGs D none u))
    (hs : (assignEach (e :: es) X.env).map (·.2) = assign e X.env :: (assignEach es X.env).map (·.2) := by rfl) : PGs X (e :: es) (rdGs D none (TGs.cons t u)) :=
  PGs_imp (pgs_cons h1 h2 hs) fun vs σ H Q ⟨rho, env, h, ts, e', A, p, e, q⟩ => by
    cases ts with
    | nil => cases e
    | cons t0 ts =>
      cases p with
      | cons p0 p =>
        have e2 : (match t.asg t0 env with | some e1 => TGs.asg u ts e1 | none => none) = some e' := e
        cases h1 : t.asg t0 env with
        | none => rw [h1] at e2; cases e2
        | some e1 =>
          rw [h1] at e2
          exact ⟨_, _, rfl, rho, env, h, t0, e1, A, p0, h1, fun σ' r b1 => ⟨rho, e1, h, ts, e', ⟨r, A.r⟩, p, e2, fun σ2 r2 b2 => q σ2 r2 (b1.trans b2)⟩⟩
theorem g_tp {es : List Expr} {k : Nat} {u : TGs} {n : Nat} (hc : X.calm = true) (h : PGs X es (rdGs D none u)) (hu : ∀ ts env e', u.asg ts env = some e' → ts.length = n)
    (hn : (assignEach es X.env).length = n := by rfl) (hst : (assignEach es X.env).findIdx? (·.1) = none := by rfl) : XG D X (.Tuple es k pos) (.tp u) :=
  PG_imp (pg_tup hc h hn hst) fun v σ H Q ⟨rho, env, h, t, e', A, p, e, q⟩ => by
    cases t with
    | tup ts =>
      cases p with
      | tup hq l => exact ⟨_, _, rfl, SqT.of hq, by rw [l.length]; exact hu _ _ _ e, rho, env, h, ts, e', A, l, e, q⟩
    | _ => cases e
def TGs.count : TGs → Nat
  | .nil => 0
  | .cons _ r => r.count + 1
theorem asg_len : ∀ {u : TGs} {ts : List T} {env e' : Env}, u.asg ts env = some e' → ts.length = u.count
  | .nil, [], _, _, _ => rfl
  | .nil, _ :: _, _, _, e => by cases e
  | .cons t r, [], _, _, e => by cases e
  | .cons t r, x :: xs, env, e', e => by
    have e2 : (match t.asg x env with | some e1 => TGs.asg r xs e1 | none => none) = some e' := e
    cases h1 : t.asg x env with
    | none => rw [h1] at e2; cases e2
    | some e1 =>
      rw [h1] at e2
      simp [TGs.count, asg_len e2]
end

structure Walk (D : Wd) (J : It) (H0 : Hp) (rho0 : Rho) (I : Items) : Prop where
  go : ∀ i H rho h t, Step H0 rho0 H rho → RelH D H rho h → I.chk h → I.xs[i]? = some t → J.go i H ∧ ∀ x H', J.yld i H x H' → Step H rho H' rho ∧ RelH D H' rho h ∧ Rp D none H' rho x t
  stop : ∀ i H rho h, Step H0 rho0 H rho → RelH D H rho h → I.chk h → I.xs.length ≤ i → J.stop i H
def rdI (D : Wd) (W : WX) (f : Env → AH → R Items) : TI := fun σ H R => ∃ rho env h, RelE D none H rho σ env ∧ RelH D H rho h ∧ outR D W σ H rho (fun I H' rho' h' => I.chk h' ∧ ∀ J, Walk D J H' rho' I → R J H') (f env h)
abbrev XI (D : Wd) (X : Cx) (W : WX) (C : Ctx) (tg it : Expr) (i : II) : Prop := PI X tg it (rdI D W (evI C i))
theorem PI_imp {X : Cx} {tg e : Expr} {t t' : TI} (p : PI X tg e t) (i : ∀ σ H Q, t' σ H Q → t σ H Q) : PI X tg e t' := ⟨fun pins s σ H Q I h => p.run pins s σ H Q I (i σ H Q h)⟩
theorem walk_lst (hK : D.K = X.K) {a : Addr} {vs : List V} {ts : List T} {o : Obj} (e : H a = some (.frz o (.lst vs))) (l : RpL D none H rho vs ts) : Walk D (Itl X.K a) H rho ⟨ts, none⟩ where
  go := fun i H1 rho1 h t s R _ ht => by
    have e1 : SqL X.K H1 a vs := .inl (.inr ⟨o, s.stay e rfl⟩)
    obtain ⟨v, hv, p⟩ := (l.step s).get ht
    exact ⟨⟨vs, v, e1, hv⟩, fun x H' ⟨hH, hx⟩ => by
      subst hH
      have := hx vs e1
      rw [hv] at this
      cases this
      exact ⟨Step.rfl, R, p⟩⟩
  stop := fun i H1 rho1 h s R _ hi => ⟨vs, .inl (.inr ⟨o, s.stay e rfl⟩), by rw [l.length]; exact hi⟩
theorem walk_tup {a : Addr} {vs : List V} {ts : List T} {K : PySem.W.Frag} (e : H a = some (.tup vs)) (l : RpL D none H rho vs ts) : Walk D (Itt K a) H rho ⟨ts, none⟩ where
  go := fun i H1 rho1 h t s R _ ht => by
    have e1 : SqT K H1 a vs := SqT.of (s.stay e rfl)
    obtain ⟨v, hv, p⟩ := (l.step s).get ht
    exact ⟨⟨vs, v, e1, hv⟩, fun x H' ⟨hH, hx⟩ => by
      subst hH
      have := hx vs e1
      rw [hv] at this
      cases this
      exact ⟨Step.rfl, R, p⟩⟩
  stop := fun i H1 rho1 h s R _ hi => ⟨vs, SqT.of (s.stay e rfl), by rw [l.length]; exact hi⟩
theorem walk_cell {a : Addr} {n : Nat} {ts : List T} {K : PySem.W.Frag} (r : rho[n]? = some a) : Walk D (Itl K a) H rho ⟨ts, some (n, .lst ts)⟩ where
  go := fun i H1 rho1 h t s R hc ht => by
    obtain ⟨vs, q, l⟩ := R.cell n a _ (s.get r) hc
    have e1 : SqL K H1 a vs := SqL.of q
    obtain ⟨v, hv, p⟩ := l.get ht
    exact ⟨⟨vs, v, e1, hv⟩, fun x H' ⟨hH, hx⟩ => by
      subst hH
      have := hx vs e1
      rw [hv] at this
      cases this
      exact ⟨Step.rfl, R, p⟩⟩
  stop := fun i H1 rho1 h s R hc hi => by
    obtain ⟨vs, q, l⟩ := R.cell n a _ (s.get r) hc
    exact ⟨vs, SqL.of q, by rw [l.length]; exact hi⟩
theorem walk_str {x : Str} : Walk D (Its x) H rho ⟨chars x, none⟩ where
  go := fun i H1 rho1 h t s R hc ht => by
    have ht' : (x.cps.toList.map fun c => T.str ⟨#[c]⟩)[i]? = some t := ht
    rw [List.getElem?_map] at ht'
    cases hx : x.cps.toList[i]? with
    | none => rw [hx] at ht'; cases ht'
    | some c =>
      rw [hx] at ht'
      cases ht'
      have hx2 : x.cps[i]? = some c := by rw [← Array.getElem?_toList]; exact hx
      refine ⟨(Array.getElem?_eq_some_iff.mp hx2).1, fun y H' ⟨hH, d, hd, hy⟩ => ?_⟩
      subst hH
      rw [hx2] at hd
      cases hd
      subst hy
      exact ⟨Step.rfl, R, .str _⟩
  stop := fun i H1 rho1 h s R hc hi => by
    have hi' : (x.cps.toList.map fun c => T.str ⟨#[c]⟩).length ≤ i := hi
    rw [List.length_map, Array.length_toList] at hi'
    exact hi'
theorem walk_rng {lo : Int} {n : Nat} : Walk D (Itr lo n) H rho ⟨rangeT lo n, none⟩ where
  go := fun i H1 rho1 h t s R hc ht => by
    have ht' : ((List.range n).map fun (k : Nat) => T.int (lo + k))[i]? = some t := ht
    rw [List.getElem?_map] at ht'
    by_cases hi : i < n
    · rw [List.getElem?_range hi] at ht'
      cases ht'
      exact ⟨hi, fun y H' ⟨hH, hy⟩ => by subst hH; subst hy; exact ⟨Step.rfl, R, .int _⟩⟩
    · rw [List.getElem?_eq_none (by simpa using hi)] at ht'; cases ht'
  stop := fun i H1 rho1 h s R hc hi => by
    have hi' : ((List.range n).map fun (k : Nat) => T.int (lo + k)).length ≤ i := hi
    rw [List.length_map, List.length_range] at hi'
    exact hi'
section
variable {tg a b : Expr} {ia ib : IE} {p pos : Pos}
theorem i_e (O : Okx D X) (ha : XP D X W C a ia) : XI D X W C tg a (.e ia) := by
  refine ⟨fun pins s σ H R I ⟨rho, env, h, e, r, q⟩ => ?_⟩
  have hw := ha.run pins s σ H (fun v H1 => ∃ t rho1 h1 Is, RelH D H1 rho1 h1 ∧ Rp D none H1 rho1 v t ∧ itemsOf h1 t = some Is ∧ Is.chk h1 ∧ ∀ J, Walk D J H1 rho1 Is → R J H1) I ⟨rho, env, h, e, r, rd_bind ⟨e, r⟩ q fun t H' rho' h' v A s p q => by
    obtain ⟨Is, ei, q2⟩ := of_of1 q
    obtain ⟨q3, q4⟩ := of_ok A q2
    exact ⟨t, rho', h', Is, A.r, p, ei, q3, q4⟩⟩
  refine thn hw fun u s1 ⟨v, H1, I1, rv, t, rho1, h1, Is, R1, p, ei, hchk, q⟩ => ?_
  unfold itemsOf iterV at ei
  have golist : ∀ {a : Addr} {vs : List V}, u = .ref a → SqL X.K H1 a vs → R (Itl X.K a) H1 → wpAny (model X.prog X.w) X.A (pyIter u) (PIE X pins σ tg R) X.xe s1 := fun {a vs} hu hq q => by
    subst hu
    obtain ⟨its, rv, p, hz⟩ := I1.list hq
    exact wpAny_pyIter_list p.isList (pi_one (tk := s1.toks) I1 _ (turn_list a _) ⟨_, Heap.get?_push_size _ rfl, rfl, rfl⟩ q)
  cases p with
  | tup hq l =>
    cases ei
    cases rv
    obtain ⟨its, rv, p, hz⟩ := I1.tuple (SqT.of hq)
    exact wpAny_pyIter_tuple (show s1.heap.IsTuple _ its.toArray from p) (pi_one (tk := s1.toks) I1 _ (turn_tuple _ _) ⟨_, Heap.get?_push_size _ rfl, rfl, rfl⟩ (q _ (walk_tup hq l)))
  | lst hq l =>
    cases ei
    cases rv
    exact golist rfl (.inl (.inr ⟨_, hq⟩)) (q _ (walk_lst O.K hq l))
  | str x =>
    cases ei
    obtain ⟨t, rfl⟩ := rv
    have q' := q _ (walk_str (x := x))
    cases hx : x.cps.all (· < 128)
    · exact wpAny_pyIter_wide hx (pi_one (tk := s1.toks) I1 _ (turn_str _ x t "str_iterator" (.inr rfl)) ⟨_, Heap.get?_push_size _ rfl, rfl, rfl⟩ q')
    · exact wpAny_pyIter_ascii hx (pi_one (tk := s1.toks) I1 _ (turn_str _ x t "str_ascii_iterator" (.inl rfl)) ⟨_, Heap.get?_push_size _ rfl, rfl, rfl⟩ q')
  | @ref a n hr =>
    rw [snap_ref] at ei
    cases hn : h1[n]? with
    | none => rw [hn] at ei; cases ei
    | some c =>
      rw [hn] at ei
      cases c with
      | lst ts =>
        simp only at ei
        rw [hn] at ei
        cases ei
        cases rv
        obtain ⟨vs, hq, l⟩ := R1.cell n _ _ hr hn
        exact golist rfl (SqL.of hq) (q _ (walk_cell hr))
      | dct tk ks vs => cases ei
      | obj c fs => cases ei
  | _ => cases ei
theorem i_rng (hg : Gl X "range") (hm : X.mg "range" = none) (ha : XP D X W C a ia) (hs : starEach [a] X.env = [(false, eval a X.env)] := by rfl) : XI D X W C tg (.Call (.Name "range" p) [a] [] pos) (.rng ia) :=
  PI_imp (pi_range1 hg hm (x_cons ha x_nil hs) hs) fun σ H R ⟨rho, env, h, e, r, q⟩ => ⟨rho, env, h, e, r, by
    have z : evL C (.cons ia .nil) env h = (evE C ia env h).bind fun x h1 => PS.R.ok [x] h1 := rfl
    rw [z]
    have q' : outR D W σ H rho (fun I H' rho' h' => I.chk h' ∧ ∀ J, Walk D J H' rho' I → R J H') ((evE C ia env h).bind fun x h1 => match x with
      | .int j => if small62 j then .ok ⟨rangeT 0 j.toNat, none⟩ h1 else .stuck
      | _ => .stuck) := q
    generalize evE C ia env h = f at q' ⊢
    cases f with
    | exc c v h1 => exact q'
    | stuck => exact q'
    | ok t h1 =>
      show ∀ H' rho', Step H rho H' rho' → RelH D H' rho' h1 → ∀ vs, RpL D none H' rho' vs [t] → _
      intro H' rho' s R1 vs l
      obtain ⟨v, rfl, p⟩ := rpl1 l
      cases t with
      | int j =>
        cases p
        have q2 : outR D W σ H rho (fun I H' rho' h' => I.chk h' ∧ ∀ J, Walk D J H' rho' I → R J H') (if small62 j then PS.R.ok (⟨rangeT 0 j.toNat, none⟩ : Items) h1 else .stuck) := q'
        by_cases c : small62 j
        · rw [if_pos c] at q2
          exact ⟨j, rfl, c.1, c.2, (q2 H' rho' s R1).2 _ walk_rng⟩
        · rw [if_neg c] at q2; exact q2.elim
      | _ => exact q'.elim⟩
end
end PS
end
section
set_option maxRecDepth 100000
set_option maxHeartbeats 2000000
namespace PS
open PySem PySem.Spec PyProof.Rows L2
variable {D : Wd} {X : Cx} {C : Ctx} {W : WX} {sx : Sx} {σ σ2 : L2.St} {H H' : Hp} {rho rho' : Rho} {env : Env} {h h' : AH} {pins : List (Addr × Obj)} {s : Shared} {En : Ends}

theorem keys_und {n : Nat} : ∀ kvs : List (Key × V), T.undL n (kvs.map fun p => keyT p.1) = true
  | [] => rfl
  | (.inl i, v) :: r => by simp only [List.map_cons, T.undL, keyT, T.und, Bool.true_and]; exact keys_und r
  | (.inr i, v) :: r => by simp only [List.map_cons, T.undL, keyT, T.und, Bool.true_and]; exact keys_und r
theorem keyl_und {n : Nat} : ∀ ks : List Key, T.undL n (ks.map keyT) = true
  | [] => rfl
  | .inl i :: r => by simp only [List.map_cons, T.undL, keyT, T.und, Bool.true_and]; exact keyl_und r
  | .inr i :: r => by simp only [List.map_cons, T.undL, keyT, T.und, Bool.true_and]; exact keyl_und r
theorem keysT_und {n : Nat} : ∀ kvs : List (List Key × V), T.undL n (kvs.map fun p => T.tup (p.1.map keyT)) = true
  | [] => rfl
  | (k, v) :: r => by simp only [List.map_cons, T.undL, T.und, Bool.and_eq_true]; exact ⟨keyl_und k, keysT_und r⟩
mutual
theorem Rp.und : ∀ {v : V} {t : T}, Rp D none H rho v t → t.und rho.length = true
  | _, _, .non => rfl
  | _, _, .bl b => rfl
  | _, _, .int i => rfl
  | _, _, .str x => rfl
  | _, _, .tup _ l => by simp only [T.und]; exact RpL.und l
  | _, _, .lst _ l => by simp only [T.und]; exact RpL.und l
  | _, _, .dK (kvs := kvs) _ hk l => by
    subst hk
    simp only [T.und, Bool.and_eq_true]
    exact ⟨keys_und _, RpL.und l⟩
  | _, _, .dT (kvs := kvs) _ hk l => by
    subst hk
    simp only [T.und, Bool.and_eq_true]
    exact ⟨keysT_und _, RpL.und l⟩
  | _, _, .ref e => by
    simp only [T.und]
    exact decide_eq_true (List.getElem?_eq_some_iff.mp e).1
  | _, _, .exn _ e _ _ => by cases e
theorem RpL.und : ∀ {vs : List V} {ts : List T}, RpL D none H rho vs ts → T.undL rho.length ts = true
  | _, _, .nil => rfl
  | _, _, .cons p l => by
    simp only [T.undL, Bool.and_eq_true]
    exact ⟨Rp.und p, RpL.und l⟩
end
mutual
theorem Rp.cutR {n : Nat} : ∀ {v : V} {t : T}, Rp D sx H rho v t → t.und n = true → Rp D none H (rho.take n) v t
  | _, _, .non, _ => .non
  | _, _, .bl b, _ => .bl b
  | _, _, .int i, _ => .int i
  | _, _, .str x, _ => .str x
  | _, _, .tup q l, e => .tup q (RpL.cutR l (by simpa only [T.und] using e))
  | _, _, .lst q l, e => .lst q (RpL.cutR l (by simpa only [T.und] using e))
  | _, _, .dK q hk l, e => .dK q hk (RpL.cutR l (by simp only [T.und, Bool.and_eq_true] at e; exact e.2))
  | _, _, .dT q hk l, e => .dT q hk (RpL.cutR l (by simp only [T.und, Bool.and_eq_true] at e; exact e.2))
  | _, _, .ref (n := m) q, e => .ref (by
    simp only [T.und] at e
    rw [List.getElem?_take_of_lt (of_decide_eq_true e)]
    exact q)
  | _, _, .exn _ _ _ _, e => by simp only [T.und] at e; cases e
theorem RpL.cutR {n : Nat} : ∀ {vs : List V} {ts : List T}, RpL D sx H rho vs ts → T.undL n ts = true → RpL D none H (rho.take n) vs ts
  | _, _, .nil, _ => .nil
  | _, _, .cons p l, e => by
    simp only [T.undL, Bool.and_eq_true] at e
    exact .cons (Rp.cutR p e.1) (RpL.cutR l e.2)
end
theorem CellR.und {a : Addr} : ∀ {c : Cell}, CellR D H rho a c → c.und rho.length = true
  | .lst _, ⟨vs, q, l⟩ => RpL.und l
  | .dct false _ _, ⟨kvs, q, z, l⟩ => by
    subst z
    unfold Cell.und
    simp only [Bool.and_eq_true]
    exact ⟨keys_und _, RpL.und l⟩
  | .dct true _ _, ⟨kvs, q, z, l⟩ => by
    subst z
    unfold Cell.und
    simp only [Bool.and_eq_true]
    exact ⟨keysT_und _, RpL.und l⟩
  | .obj _ _, ⟨dx, gs, q, b, f⟩ => RpL.und f.2
theorem CellR.cutR {a : Addr} {n : Nat} : ∀ {c : Cell}, CellR D H rho a c → c.und n = true → CellR D H (rho.take n) a c
  | .lst _, ⟨vs, q, l⟩, e => ⟨vs, q, l.cutR e⟩
  | .dct false _ _, ⟨kvs, q, z, l⟩, e => ⟨kvs, q, z, l.cutR (by unfold Cell.und at e; simp only [Bool.and_eq_true] at e; exact e.2)⟩
  | .dct true _ _, ⟨kvs, q, z, l⟩, e => ⟨kvs, q, z, l.cutR (by unfold Cell.und at e; simp only [Bool.and_eq_true] at e; exact e.2)⟩
  | .obj _ _, ⟨dx, gs, q, b, f⟩, e => ⟨dx, gs, q, b, f.1, f.2.cutR e⟩
theorem RelH.k (R : RelH D H rho h) (n : Nat) : RelK D n H rho h := ⟨R.len, R.nd, fun m a c _ => R.cell m a c⟩
theorem gc_ok (R0 : RelH D H rho h) (s : Step H rho H' rho') (RK : RelK D h.length H' rho' h') (g : GcOk h h') : RelH D H' rho (h'.take h.length) ∧ rho'.take h.length = rho := by
  obtain ⟨⟨_, t, rfl⟩, _, _, _⟩ := s
  have e : (rho ++ t).take h.length = rho := by rw [← R0.len]; simp
  refine ⟨⟨?_, R0.nd, fun n a c e1 e2 => ?_⟩, e⟩
  · rw [List.length_take, R0.len, Nat.min_eq_left g.1]
  · have hn : n < h.length := by rw [← R0.len]; exact (List.getElem?_eq_some_iff.mp e1).1
    rw [List.getElem?_take_of_lt hn] at e2
    have r := RK.cell n a c hn (by rw [List.getElem?_append_left (by rw [R0.len]; exact hn)]; exact e1) e2
    have u : c.und h.length = true := by
      rcases g.2 n hn with z | ⟨c', z, u⟩
      · rw [e2] at z
        have := (R0.cell n a c e1 z.symm).und
        rwa [R0.len] at this
      · rw [e2] at z; cases z; exact u
    have := r.cutR u
    rwa [e] at this

structure Frz (n0 : Nat) (rho : Rho) (H H' : Hp) : Prop where
  at_ : ∀ a u, H a = some u → H' a = some u ∨ (frzb u = true ∧ ∃ o, H' a = some (.frz o u))
  old : ∀ n a, n < n0 → rho[n]? = some a → H' a = H a
  out : ∀ a, a ∉ rho → H' a = H a
theorem frzb_stays {u : HO} (e : stays u = true) : frzb u = false := by cases u <;> first | rfl | cases e
theorem Frz.rfl {n0 : Nat} : Frz n0 rho H H := ⟨fun _ _ e => .inl e, fun _ _ _ _ => Eq.refl _, fun _ _ => Eq.refl _⟩
theorem Frz.trans {n0 : Nat} {H1 : Hp} (a : Frz n0 rho H H1) (b : Frz n0 rho H1 H') : Frz n0 rho H H' := by
  refine ⟨fun x u e => ?_, fun n x hn e => (b.old n x hn e).trans (a.old n x hn e), fun x n => (b.out x n).trans (a.out x n)⟩
  rcases a.at_ x u e with q | ⟨f, o, q⟩
  · exact b.at_ x u q
  · rcases b.at_ x _ q with q2 | ⟨f2, _⟩
    · exact .inr ⟨f, o, q2⟩
    · cases f2
theorem Frz.step {n0 : Nat} (f : Frz n0 rho H H') : Step H rho H' rho := by
  refine ⟨⟨fun a o e s => ?_, [], by simp⟩, fun a o e n => by rw [f.out a n]; exact e, fun a o e => ?_, fun _ a b => absurd a b⟩
  · rcases f.at_ a o e with q | ⟨g, _⟩
    · exact q
    · rw [frzb_stays s] at g; cases g
  · rcases f.at_ a o e with q | ⟨g, o', q⟩
    · exact ⟨o, q⟩
    · exact ⟨_, q⟩
def CellF (D : Wd) (H : Hp) (rho : Rho) (a : Addr) : Cell → Prop
  | .lst ts => ∃ vs, (H a = some (.lst vs) ∨ ∃ o, H a = some (.frz o (.lst vs))) ∧ RpL D none H rho vs ts
  | .dct false ks ts => ∃ kvs : List (Key × V), (H a = some (.dK kvs) ∨ ∃ o, H a = some (.frz o (.dK kvs))) ∧ ks = kvs.map (fun p => keyT p.1) ∧ RpL D none H rho (kvs.map (·.2)) ts
  | .dct true ks ts => ∃ kvs : List (List Key × V), (H a = some (.dT kvs) ∨ ∃ o, H a = some (.frz o (.dT kvs))) ∧ ks = kvs.map (fun p => .tup (p.1.map keyT)) ∧ RpL D none H rho (kvs.map (·.2)) ts
  | .obj _ _ => True
structure RelF (D : Wd) (n0 : Nat) (H : Hp) (rho : Rho) (h : AH) : Prop where
  k : RelK D n0 H rho h
  new : ∀ (n : Nat) (a : Addr) (c : Cell), n0 ≤ n → rho[n]? = some a → h[n]? = some c → CellF D H rho a c
theorem RelH.f (R : RelH D H rho h) (n0 : Nat) : RelF D n0 H rho h := ⟨R.k n0, fun n a c _ e1 e2 => by
  have r := R.cell n a c e1 e2
  match c, r with
  | .lst _, ⟨vs, q, l⟩ => exact ⟨vs, .inl q, l⟩
  | .dct false _ _, ⟨kvs, q, z, l⟩ => exact ⟨kvs, .inl q, z, l⟩
  | .dct true _ _, ⟨kvs, q, z, l⟩ => exact ⟨kvs, .inl q, z, l⟩
  | .obj _ _, _ => trivial⟩
theorem frz_or {u : HO} {a : Addr} {n0 : Nat} (f : Frz n0 rho H H') (q : H a = some u ∨ ∃ o, H a = some (.frz o u)) : H' a = some u ∨ ∃ o, H' a = some (.frz o u) := by
  rcases q with q | ⟨o, q⟩
  · rcases f.at_ a u q with z | ⟨_, z⟩
    · exact .inl z
    · exact .inr z
  · rcases f.at_ a _ q with z | ⟨z, _⟩
    · exact .inr ⟨o, z⟩
    · cases z
theorem RelF.frz {n0 : Nat} (R : RelF D n0 H rho h) (f : Frz n0 rho H H') : RelF D n0 H' rho h := ⟨⟨R.k.len, R.k.nd, fun n a c hn e1 e2 => (R.k.cell n a c hn e1 e2).step f.step (f.old n a hn e1)⟩, fun n a c hn e1 e2 => by
  have r := R.new n a c hn e1 e2
  match c, r with
  | .lst _, ⟨vs, q, l⟩ => exact ⟨vs, frz_or f q, l.step f.step⟩
  | .dct false _ _, ⟨kvs, q, z, l⟩ => exact ⟨kvs, frz_or f q, z, l.step f.step⟩
  | .dct true _ _, ⟨kvs, q, z, l⟩ => exact ⟨kvs, frz_or f q, z, l.step f.step⟩
  | .obj _ _, _ => trivial⟩
theorem frz_one {n0 n : Nat} {a : Addr} {u : HO} (nd : rho.Nodup) (hn : n0 ≤ n) (ea : rho[n]? = some a) (I : Inv X pins σ H s) (fu : frzb u = true) (q : H a = some u ∨ ∃ o, H a = some (.frz o u)) : ∃ H' o, Inv X pins σ H' s ∧ Frz n0 rho H H' ∧ H' a = some (.frz o u) := by
  rcases q with q | ⟨o, q⟩
  · obtain ⟨o, J⟩ := Inv.freeze I q fu
    refine ⟨_, o, J, ⟨fun b w e => ?_, fun m b hm e => ?_, fun b nb => upd_ne fun z => nb (by rw [z]; exact List.mem_of_getElem? ea)⟩, upd_same⟩
    · by_cases hb : b = a
      · subst hb; rw [q] at e; cases e; exact .inr ⟨fu, o, upd_same⟩
      · exact .inl (by rw [upd_ne hb]; exact e)
    · refine upd_ne fun z => ?_
      subst z
      have := RelH.put.nodup_addr nd ea e
      omega
  · exact ⟨H, o, I, Frz.rfl, q⟩
theorem frz_ok {n0 : Nat} : ∀ (d : Nat) {t t' : T} {v : V} {H : Hp}, frzV n0 h d t = some t' → RelF D n0 H rho h → Rp D none H rho v t → Inv X pins σ H s → ∃ H', Inv X pins σ H' s ∧ Frz n0 rho H H' ∧ Rp D none H' rho v t' ∧ t'.und n0 = true
  | 0, t, t', v, H, e, R, p, I => by
    unfold frzV at e
    split at e
    · rename_i c
      cases e
      exact ⟨H, I, Frz.rfl, p, c⟩
    · cases e
  | d + 1, t, t', v, H, e, R, p, I => by
    have lst : ∀ {ts ts' : List T} {vs : List V} {H : Hp}, ts.mapM (frzV n0 h d) = some ts' → RelF D n0 H rho h → RpL D none H rho vs ts → Inv X pins σ H s → ∃ H', Inv X pins σ H' s ∧ Frz n0 rho H H' ∧ RpL D none H' rho vs ts' ∧ T.undL n0 ts' = true := by
      intro ts
      induction ts with
      | nil =>
        intro ts' vs H e R l I
        rw [List.mapM_nil] at e
        cases e
        cases l
        exact ⟨H, I, Frz.rfl, .nil, rfl⟩
      | cons t ts ih =>
        intro ts' vs H e R l I
        rw [List.mapM_cons] at e
        cases e1 : frzV n0 h d t with
        | none => rw [e1] at e; cases e
        | some t1 =>
          rw [e1] at e
          cases e2 : ts.mapM (frzV n0 h d) with
          | none => rw [e2] at e; cases e
          | some ts1 =>
            rw [e2] at e
            cases e
            cases l with
            | cons p l =>
              obtain ⟨H1, I1, f1, p1, u1⟩ := frz_ok d e1 R p I
              obtain ⟨H2, I2, f2, l2, u2⟩ := ih e2 (R.frz f1) (l.step f1.step) I1
              exact ⟨H2, I2, f1.trans f2, .cons (p1.step f2.step) l2, by simp only [T.undL, Bool.and_eq_true]; exact ⟨u1, u2⟩⟩
    have und : ∀ {t}, (if t.und n0 = true then some t else none) = some t' → Rp D none H rho v t → ∃ H', Inv X pins σ H' s ∧ Frz n0 rho H H' ∧ Rp D none H' rho v t' ∧ t'.und n0 = true := fun {t} e p => by
      split at e
      · rename_i c
        cases e
        exact ⟨H, I, Frz.rfl, p, c⟩
      · cases e
    cases t with
    | ref n =>
      have e' : (if n < n0 then some (T.ref n) else match h[n]? with
        | some (.lst xs) => (xs.mapM (frzV n0 h d)).map .lst
        | some (.dct tk ks vs) => if T.undL n0 ks = true then (vs.mapM (frzV n0 h d)).map (.dct tk ks) else none
        | _ => none) = some t' := e
      by_cases hn : n < n0
      · rw [if_pos hn] at e'
        cases e'
        exact ⟨H, I, Frz.rfl, p, by simp only [T.und]; exact decide_eq_true hn⟩
      · rw [if_neg hn] at e'
        cases p with
        | ref r =>
          cases hc : h[n]? with
          | none => rw [hc] at e'; cases e'
          | some c =>
            rw [hc] at e'
            cases c with
            | lst xs =>
              dsimp only at e'
              cases e1 : xs.mapM (frzV n0 h d) with
              | none => rw [e1] at e'; cases e'
              | some ys =>
                rw [e1] at e'
                cases e'
                obtain ⟨vs, q, l⟩ := R.new n _ _ (Nat.le_of_not_lt hn) r hc
                obtain ⟨H1, I1, f1, l1, u1⟩ := lst e1 R l I
                obtain ⟨H2, o, I2, f2, q2⟩ := frz_one R.k.nd (Nat.le_of_not_lt hn) r I1 (u := .lst vs) rfl (frz_or f1 q)
                exact ⟨H2, I2, f1.trans f2, .lst q2 (l1.step f2.step), by simp only [T.und]; exact u1⟩
            | dct tk ks vs =>
              dsimp only at e'
              by_cases hk : T.undL n0 ks = true
              · rw [if_pos hk] at e'
                cases e1 : vs.mapM (frzV n0 h d) with
                | none => rw [e1] at e'; cases e'
                | some ys =>
                  rw [e1] at e'
                  cases e'
                  cases tk with
                  | false =>
                    obtain ⟨kvs, q, z, l⟩ := R.new n _ _ (Nat.le_of_not_lt hn) r hc
                    obtain ⟨H1, I1, f1, l1, u1⟩ := lst e1 R l I
                    obtain ⟨H2, o, I2, f2, q2⟩ := frz_one R.k.nd (Nat.le_of_not_lt hn) r I1 (u := .dK kvs) rfl (frz_or f1 q)
                    exact ⟨H2, I2, f1.trans f2, .dK q2 z (l1.step f2.step), by simp only [T.und, Bool.and_eq_true]; exact ⟨hk, u1⟩⟩
                  | true =>
                    obtain ⟨kvs, q, z, l⟩ := R.new n _ _ (Nat.le_of_not_lt hn) r hc
                    obtain ⟨H1, I1, f1, l1, u1⟩ := lst e1 R l I
                    obtain ⟨H2, o, I2, f2, q2⟩ := frz_one R.k.nd (Nat.le_of_not_lt hn) r I1 (u := .dT kvs) rfl (frz_or f1 q)
                    exact ⟨H2, I2, f1.trans f2, .dT q2 z (l1.step f2.step), by simp only [T.und, Bool.and_eq_true]; exact ⟨hk, u1⟩⟩
              · rw [if_neg hk] at e'; cases e'
            | obj c fs => cases e'
    | tup xs =>
      have e' : (xs.mapM (frzV n0 h d)).map .tup = some t' := e
      cases e1 : xs.mapM (frzV n0 h d) with
      | none => rw [e1] at e'; cases e'
      | some ys =>
        rw [e1] at e'
        cases e'
        cases p with
        | tup q l =>
          obtain ⟨H1, I1, f1, l1, u1⟩ := lst e1 R l I
          exact ⟨H1, I1, f1, .tup (f1.step.stay q rfl) l1, by simp only [T.und]; exact u1⟩
    | _ => exact und e p
theorem Rp.plain {v : V} {t : T} (p : Rp D sx H rho v t) (e : t.und rho.length = true) : Rp D none H rho v t := by
  have := p.cutR e
  rwa [List.take_length] at this
end PS
end
section
set_option maxRecDepth 100000
set_option maxHeartbeats 2000000
namespace PS
open PySem PySem.Spec PyProof.Rows L2
variable {D : Wd} {X : Cx} {C : Ctx} {W : WX} {sx : Sx} {σ σ2 : L2.St} {H H' : Hp} {rho rho' : Rho} {env : Env} {h h' : AH} {pins : List (Addr × Obj)} {s : Shared} {En : Ends}

theorem evI_chk : ∀ {it : II} {Is : Items}, evI C it env h = .ok Is h' → Is.chk h' := by
  have z : ∀ {t : T} {h : AH} {Is : Items}, itemsOf h t = some Is → Is.chk h := fun {t h Is} e => by
    unfold itemsOf at e
    cases hi : iterV h t with
    | none => rw [hi] at e; cases e
    | some xs =>
      rw [hi] at e
      cases t with
      | ref n =>
        dsimp only at e
        cases hn : h[n]? with
        | none => rw [hn] at e; cases e
        | some c => rw [hn] at e; cases e; exact hn
      | _ => cases e; trivial
  intro it Is e
  cases it with
  | e a =>
    have e' : (evE C a env h).bind (fun x h1 => R.of (itemsOf h1 x) h1) = .ok Is h' := e
    cases ha : evE C a env h with
    | ok t h1 =>
      rw [ha] at e'
      cases hi : itemsOf h1 t with
      | none =>
        have e2 : R.of (itemsOf h1 t) h1 = .ok Is h' := e'
        rw [hi] at e2; cases e2
      | some Js =>
        have e2 : R.of (itemsOf h1 t) h1 = .ok Is h' := e'
        rw [hi] at e2; cases e2; exact z hi
    | exc _ _ _ => rw [ha] at e'; cases e'
    | stuck => rw [ha] at e'; cases e'
  | rng a =>
    have e' : (evE C a env h).bind (fun x h1 => match x with
      | .int j => if small62 j then .ok (⟨rangeT 0 j.toNat, none⟩ : Items) h1 else .stuck
      | _ => .stuck) = .ok Is h' := e
    cases ha : evE C a env h with
    | ok t h1 =>
      rw [ha] at e'
      cases t with
      | int j =>
        have e2 : (if small62 j then PS.R.ok (⟨rangeT 0 j.toNat, none⟩ : Items) h1 else .stuck) = .ok Is h' := e'
        split at e2
        · cases e2; trivial
        · cases e2
      | _ => cases e'
    | exc _ _ _ => rw [ha] at e'; cases e'
    | stuck => rw [ha] at e'; cases e'
  | rng2 a b =>
    have e' : (evE C a env h).bind (fun x h1 => (evE C b env h1).bind fun y h2 => match x, y with
      | .int i, .int j => if small62 i ∧ small62 j then .ok (⟨rangeT i (j - i).toNat, none⟩ : Items) h2 else .stuck
      | _, _ => .stuck) = .ok Is h' := e
    cases ha : evE C a env h with
    | ok t h1 =>
      rw [ha] at e'
      have e3 : (evE C b env h1).bind (fun y h2 => match t, y with
        | .int i, .int j => if small62 i ∧ small62 j then PS.R.ok (⟨rangeT i (j - i).toNat, none⟩ : Items) h2 else .stuck
        | _, _ => .stuck) = .ok Is h' := e'
      cases hb : evE C b env h1 with
      | ok u h2 =>
        rw [hb] at e3
        cases t with
        | int i =>
          cases u with
          | int j =>
            have e2 : (if small62 i ∧ small62 j then PS.R.ok (⟨rangeT i (j - i).toNat, none⟩ : Items) h2 else .stuck) = .ok Is h' := e3
            split at e2
            · cases e2; trivial
            · cases e2
          | _ => cases e3
        | _ => cases e3
      | exc _ _ _ => rw [hb] at e3; cases e3
      | stuck => rw [hb] at e3; cases e3
    | exc _ _ _ => rw [ha] at e'; cases e'
    | stuck => rw [ha] at e'; cases e'
  | enum a =>
    have e' : (evE C a env h).bind (fun x h1 => match seqV h1 x with
      | some xs => match x with
        | .ref n => match h1[n]? with
          | some c => .ok (⟨enumT 0 xs, some (n, c)⟩ : Items) h1
          | none => .stuck
        | _ => .ok ⟨enumT 0 xs, none⟩ h1
      | none => .stuck) = .ok Is h' := e
    cases ha : evE C a env h with
    | ok t h1 =>
      rw [ha] at e'
      have e2 : (match seqV h1 t with
        | some xs => match t with
          | .ref n => match h1[n]? with
            | some c => PS.R.ok (⟨enumT 0 xs, some (n, c)⟩ : Items) h1
            | none => .stuck
          | _ => .ok ⟨enumT 0 xs, none⟩ h1
        | none => .stuck) = .ok Is h' := e'
      cases hs : seqV h1 t with
      | none => rw [hs] at e2; cases e2
      | some xs =>
        rw [hs] at e2
        cases t with
        | ref n =>
          dsimp only at e2
          cases hn : h1[n]? with
          | none => rw [hn] at e2; cases e2
          | some c => rw [hn] at e2; cases e2; exact hn
        | _ => cases e2; trivial
    | exc _ _ _ => rw [ha] at e'; cases e'
    | stuck => rw [ha] at e'; cases e'
  | zip a b =>
    have e' : (evE C a env h).bind (fun x h1 => (evE C b env h1).bind fun y h2 => match x, y with
      | .ref _, _ => .stuck
      | _, .ref _ => .stuck
      | x, y => match seqV h2 x, seqV h2 y with
        | some xs, some ys => .ok (⟨zipT xs ys, none⟩ : Items) h2
        | _, _ => .stuck) = .ok Is h' := e
    cases ha : evE C a env h with
    | ok t h1 =>
      rw [ha] at e'
      have e3 : (evE C b env h1).bind (fun y h2 => match t, y with
        | .ref _, _ => .stuck
        | _, .ref _ => .stuck
        | x, y => match seqV h2 x, seqV h2 y with
          | some xs, some ys => PS.R.ok (⟨zipT xs ys, none⟩ : Items) h2
          | _, _ => .stuck) = .ok Is h' := e'
      cases hb : evE C b env h1 with
      | ok u h2 =>
        rw [hb] at e3
        have key : ∀ {xs ys : Option (List T)}, (match xs, ys with
          | some xs, some ys => PS.R.ok (⟨zipT xs ys, none⟩ : Items) h2
          | _, _ => .stuck) = .ok Is h' → Is.chk h' := fun {xs ys} q => by
          cases xs with
          | none => cases q
          | some xs =>
            cases ys with
            | none => cases q
            | some ys => cases q; trivial
        cases t <;> cases u <;> first | exact key e3 | (cases e3; trivial) | cases e3
      | exc _ _ _ => rw [hb] at e3; cases e3
      | stuck => rw [hb] at e3; cases e3
    | exc _ _ _ => rw [ha] at e'; cases e'
    | stuck => rw [ha] at e'; cases e'
theorem rdI_of {f : R Items} {Q : Items → Hp → Rho → AH → Prop} (hf : ∀ Is h', f = .ok Is h' → Is.chk h') (q : outR D W σ H rho (fun Is H' rho' h' => Is.chk h' → Q Is H' rho' h') f) : outR D W σ H rho (fun Is H' rho' h' => Is.chk h' ∧ Q Is H' rho' h') f := by
  cases f with
  | ok Is h1 => exact fun H' r' s R => ⟨hf _ _ rfl, q H' r' s R (hf _ _ rfl)⟩
  | exc c v h1 => exact q
  | stuck => exact q

section
variable {tg it c : Expr} {ii : II} {ic : IE} {g : TG} {body : List Stmt} {ib : ISs} {pos : Pos}
open Classical in
theorem s_for (hp : PassesOwn (model X.prog X.w) X.A X.env X.xe) (hc : X.calm = true) (hi : XI D X W C tg it ii) (hg : XG D X tg g) (hb : XSs D X W C body ib)
    (hs : ∀ x, foldedSetIterable it X.env x = pure x := by intro _; rfl) : XS D X W C (.For tg it body [] pos) (.forr g ii ib) :=
  PS_imp (ps_for hp hc hi hg hb hs) fun En σ H ⟨rho, env, h, A, q⟩ => ⟨rho, env, h, A.e, A.r, rdI_of (fun Is h' e => evI_chk e) (outR.mono (fun Is H0 rho0 h0 s0 R0 q0 hchk J wk => by
    have A0 := A.step s0 R0
    refine ⟨fun i m σ H => i ≤ Is.xs.length ∧ m = Is.xs.length - i ∧ ∃ rho1 env1 h1, Step H0 rho0 H rho1 ∧ At D none σ H rho1 env1 h1 ∧ Is.chk h1 ∧ outS D none W En H rho1 (forL g (fun env h => evSs C ib env h) Is.chk (Is.xs.drop i) env1 h1), ⟨Is.xs.length, Nat.zero_le _, by simp, rho0, env, h0, Step.rfl, A0, hchk, q0⟩, ?_⟩
    rintro i m σ H ⟨hi, rfl, rho1, env1, h1, s1, A1, hc1, q1⟩
    by_cases hl : i < Is.xs.length
    · have e1 : Is.xs[i]? = some Is.xs[i] := List.getElem?_eq_getElem hl
      obtain ⟨hgo, hy⟩ := wk.go i H rho1 h1 _ s1 A1.r hc1 e1
      refine .inr ⟨hgo, fun σ' H' => ∃ rho1 env1 h1, Step H0 rho0 H' rho1 ∧ At D none σ' H' rho1 env1 h1 ∧ Is.chk h1 ∧ outS D none W En H' rho1 (forL g (fun env h => evSs C ib env h) Is.chk (Is.xs.drop (i + 1)) env1 h1), fun σ' H' ⟨r2, e2, h2, s2, A2, c2, q2⟩ => ⟨Is.xs.length - (i + 1), by omega, hl, rfl, r2, e2, h2, s2, A2, c2, q2⟩, fun x H' hx => ?_⟩
      obtain ⟨sx, Rx, px⟩ := hy x H' hx
      rw [List.drop_eq_getElem_cons hl] at q1
      have q2 : outS D none W En H rho1 (match g.asg Is.xs[i] env1 with
        | none => .stuck
        | some e1 => match evSs C ib e1 h1 with
          | .next e2 h2 => if Is.chk h2 then forL g (fun env h => evSs C ib env h) Is.chk (Is.xs.drop (i + 1)) e2 h2 else .stuck
          | .cont e2 h2 => if Is.chk h2 then forL g (fun env h => evSs C ib env h) Is.chk (Is.xs.drop (i + 1)) e2 h2 else .stuck
          | .brk e2 h2 => .next e2 h2
          | r => r) := q1
      cases ha : g.asg Is.xs[i] env1 with
      | none => rw [ha] at q2; exact q2.elim
      | some e1 =>
        rw [ha] at q2
        dsimp only at q2
        refine ⟨rho1, env1, h1, _, e1, ⟨A1.e.step sx, Rx⟩, px, ha, fun σ' r _ => ⟨rho1, e1, h1, ⟨r, Rx⟩, ?_⟩⟩
        cases hbd : evSs C ib e1 h1 with
        | next e2 h2 =>
          rw [hbd] at q2
          dsimp only at q2
          by_cases hk : Is.chk h2
          · rw [if_pos hk] at q2
            exact fun σ2 H2 r2 s2 A2 => ⟨r2, e2, h2, (s1.trans sx).trans s2, A2, hk, outS.step (sx.trans s2) q2⟩
          · rw [if_neg hk] at q2; exact q2.elim
        | cont e2 h2 =>
          rw [hbd] at q2
          dsimp only at q2
          by_cases hk : Is.chk h2
          · rw [if_pos hk] at q2
            exact fun σ2 H2 r2 s2 A2 => ⟨r2, e2, h2, (s1.trans sx).trans s2, A2, hk, outS.step (sx.trans s2) q2⟩
          · rw [if_neg hk] at q2; exact q2.elim
        | brk e2 h2 =>
          rw [hbd] at q2
          exact fun σ2 H2 r2 s2 A2 => q2 σ2 H2 r2 (sx.trans s2) A2
        | ret m t h2 =>
          rw [hbd] at q2
          exact fun H2 r2 v s2 R2 p2 => q2 H2 r2 v (sx.trans s2) R2 p2
        | exc c t e2 h2 =>
          rw [hbd] at q2
          exact fun σ2 H2 r2 cls d s2 A2 x2 => q2 σ2 H2 r2 cls d (sx.trans s2) A2 x2
        | stuck => rw [hbd] at q2; exact q2.elim
    · have e : i = Is.xs.length := by omega
      subst e
      rw [List.drop_length] at q1
      exact .inl ⟨wk.stop _ H rho1 h1 s1 A1.r hc1 (Nat.le_refl _), nx_ok A1 q1⟩) (sR A q))⟩
theorem s_whl (hp : PassesOwn (model X.prog X.w) X.A X.env X.xe) (hc : XB D X W C c ic) (hb : XSs D X W C body ib) : XS D X W C (.While c body [] pos) (.whl ic ib) :=
  PS_imp (ps_while hp hc hb) fun En σ H ⟨rho, env, h, A, q⟩ => by
    refine ⟨fun m σ H => ∃ rho1 env1 h1, At D none σ H rho1 env1 h1 ∧ outS D none W En H rho1 (whlL (fun env h => evB C ic env h) (fun env h => evSs C ib env h) m env1 h1), ⟨whlFuel, rho, env, h, A, q⟩, ?_⟩
    rintro m σ H ⟨rho1, env1, h1, A1, q1⟩
    cases m with
    | zero => exact q1.elim
    | succ n =>
      have q2 : outS D none W En H rho1 (match evB C ic env1 h1 with
        | .ok true h1 => match evSs C ib env1 h1 with
          | .next e2 h2 => whlL (fun env h => evB C ic env h) (fun env h => evSs C ib env h) n e2 h2
          | .cont e2 h2 => whlL (fun env h => evB C ic env h) (fun env h => evSs C ib env h) n e2 h2
          | .brk e2 h2 => .next e2 h2
          | r => r
        | .ok false h1 => .next env1 h1
        | .exc k v h1 => .exc k v env1 h1
        | .stuck => .stuck) := q1
      refine ⟨rho1, env1, h1, A1.e, A1.r, ?_⟩
      cases hcd : evB C ic env1 h1 with
      | exc k v h2 =>
        rw [hcd] at q2
        exact fun H2 r2 cls d s2 R2 x2 => q2 σ H2 r2 cls d s2 (A1.step s2 R2) x2
      | stuck => rw [hcd] at q2; exact q2.elim
      | ok k h2 =>
        rw [hcd] at q2
        intro H2 r2 s2 R2
        cases k with
        | false =>
          rw [if_neg (by decide)]
          exact q2 σ H2 r2 s2 (A1.step s2 R2)
        | true =>
          rw [if_pos rfl]
          dsimp only at q2
          refine ⟨fun σ' H' => ∃ rho1 env1 h1, At D none σ' H' rho1 env1 h1 ∧ outS D none W En H' rho1 (whlL (fun env h => evB C ic env h) (fun env h => evSs C ib env h) n env1 h1), fun σ' H' w => ⟨n, Nat.lt_succ_self _, w⟩, r2, env1, h2, A1.step s2 R2, ?_⟩
          cases hbd : evSs C ib env1 h2 with
          | next e3 h3 =>
            rw [hbd] at q2
            exact fun σ3 H3 r3 s3 A3 => ⟨r3, e3, h3, A3, outS.step (s2.trans s3) q2⟩
          | cont e3 h3 =>
            rw [hbd] at q2
            exact fun σ3 H3 r3 s3 A3 => ⟨r3, e3, h3, A3, outS.step (s2.trans s3) q2⟩
          | brk e3 h3 =>
            rw [hbd] at q2
            exact fun σ3 H3 r3 s3 A3 => q2 σ3 H3 r3 (s2.trans s3) A3
          | ret m t h3 =>
            rw [hbd] at q2
            exact fun H3 r3 v s3 R3 p3 => q2 H3 r3 v (s2.trans s3) R3 p3
          | exc c t e3 h3 =>
            rw [hbd] at q2
            exact fun σ3 H3 r3 cls d s3 A3 x3 => q2 σ3 H3 r3 cls d (s2.trans s3) A3 x3
          | stuck => rw [hbd] at q2; exact q2.elim
end

section
variable {a b c e : Expr} {ia ib ic ie : IE} {pos p2 : Pos} {st : Stmt} {i : IS} {sts stb : List Stmt} {is isb : ISs}
theorem ss_nil : PSs X [] (rdS D sx W (evSs C .nil)) := PSs_imp pss_nil fun En σ H ⟨rho, env, h, A, q⟩ => nx_ok A q
theorem ss_cons (h1 : PS X st (rdS D sx W (evS C i))) (h2 : PSs X sts (rdS D sx W (evSs C is))) : PSs X (st :: sts) (rdS D sx W (evSs C (.cons i is))) :=
  PSs_imp (pss_cons h1 h2) fun En σ H ⟨rho, env, h, A, q⟩ => by
    have q' : outS D sx W En H rho (match evS C i env h with
      | .next e1 h1 => evSs C is e1 h1
      | q => q) := q
    refine ⟨rho, env, h, A, ?_⟩
    cases he : evS C i env h with
    | next e1 h1 =>
      rw [he] at q'
      exact fun σ' H' r' s' A' => ⟨r', e1, h1, A', outS.step s' q'⟩
    | stuck => rw [he] at q'; exact q'.elim
    | brk e1 h1 => rw [he] at q'; exact q'
    | cont e1 h1 => rw [he] at q'; exact q'
    | ret m t h1 => rw [he] at q'; exact q'
    | exc c t e1 h1 => rw [he] at q'; exact q'
theorem s_pass : PS X (.Pass pos) (rdS D sx W (evS C .pass)) := PS_imp ps_pass fun En σ H ⟨rho, env, h, A, q⟩ => nx_ok A q
theorem s_doc {x : Str} {j : Nat} : XS D X W C (.Expr (.Constant (.str x) j pos) p2) .pass := PS_imp ps_doc fun En σ H ⟨rho, env, h, A, q⟩ => nx_ok A q
theorem s_brk : XS D X W C (.Break pos) .brk := PS_imp ps_break fun En σ H ⟨rho, env, h, A, q⟩ => q σ H rho Step.rfl A
theorem s_cont : XS D X W C (.Continue pos) .cont := PS_imp ps_continue fun En σ H ⟨rho, env, h, A, q⟩ => q σ H rho Step.rfl A
theorem s_ex (he : XP D X W C e ie) (hs : swapsWith e none pos.line X.env = pure false := by rfl) : XS D X W C (.Expr e pos) (.ex ie) :=
  PS_imp (ps_expr he hs) fun En σ H ⟨rho, env, h, A, q⟩ => ⟨rho, env, h, A.e, A.r, sRv A q fun t H' r' h' v A' s' p' q' => nx_ok A' q'⟩
theorem asg_ok {g : TG} {x : V} {t : T} (A : At D sx σ H rho env h) (p : Rp D sx H rho x t) (q : outS D sx W En H rho (match g.asg t env with
    | some e1 => RS.next e1 h
    | none => .stuck)) : rdG D sx g x σ H En.nx := by
  cases ha : g.asg t env with
  | none => rw [ha] at q; exact q.elim
  | some e1 => rw [ha] at q; exact ⟨rho, env, h, t, e1, A, p, ha, fun σ' r _ => q σ' H rho Step.rfl ⟨r, A.r⟩⟩
theorem s_asg {tg : Expr} {g : TG} (he : XP D X W C e ie) (hg : XG D X tg g) (hs : swapsWithSole [tg] e pos.line X.env = pure false := by rfl) (hw : swappedStores [tg] e X.env = pure none := by rfl)
    (h1 : (assignEach [tg] X.env).map (·.2) = [assign tg X.env] := by rfl) : XS D X W C (.Assign [tg] e pos) (.asg g ie) :=
  PS_imp (ps_asg he hg hs hw h1) fun En σ H ⟨rho, env, h, A, q⟩ => ⟨rho, env, h, A.e, A.r, sRv A q fun t H' r' h' v A' s' p' q' => asg_ok A' p' q'⟩
theorem s_if (hc : XB D X W C c ic) (ha : XSs D X W C sts is) (hb : XSs D X W C stb isb) : XS D X W C (.If c sts stb pos) (.ife ic is isb) :=
  PS_imp (ps_if hc ha hb) fun En σ H ⟨rho, env, h, A, q⟩ => ⟨rho, env, h, A.e, A.r, sRb A q fun k H' r' h' A' s' q' => by
    cases k with
    | true => rw [if_pos rfl]; exact ⟨r', env, h', A', q'⟩
    | false => rw [if_neg (by decide)]; exact ⟨r', env, h', A', q'⟩⟩
theorem s_retN : XS D X W C (.Return none pos) .retN := PS_imp ps_retN fun En σ H ⟨rho, env, h, A, q⟩ => q H rho .non Step.rfl A.r .non
theorem s_ret (he : XP D X W C e ie) : XS D X W C (.Return (some e) pos) (.ret false ie) :=
  PS_imp (ps_ret he) fun En σ H ⟨rho, env, h, A, q⟩ => ⟨rho, env, h, A.e, A.r, sRv A q fun t H' r' h' v A' s' p' q' => by
    have q2 : outS D none W En H' r' (.ret none t h') := q'
    exact q2 H' r' v Step.rfl A'.r p'⟩
theorem frz_plain {n0 : Nat} : ∀ (d : Nat) {t t' : T} {v : V}, frzV n0 h d t = some t' → Rp D sx H rho v t → Rp D none H rho v t := by
  have und : ∀ {t t' : T} {v : V}, (if t.und n0 = true then some t else none) = some t' → Rp D sx H rho v t → Rp D none H rho v t := fun {t t' v} e p => by
    split at e
    · rename_i c
      exact (p.cutR c).stepK ⟨fun _ _ e _ => e, rho.drop n0, by rw [List.take_append_drop]⟩
    · cases e
  intro d
  induction d with
  | zero => intro t t' v e p; exact und e p
  | succ d ih =>
    intro t t' v e p
    cases t with
    | ref n =>
      cases p with
      | ref r => exact .ref r
    | tup xs =>
      have e' : (xs.mapM (frzV n0 h d)).map .tup = some t' := e
      cases p with
      | tup q l =>
        refine .tup q ?_
        cases e1 : xs.mapM (frzV n0 h d) with
        | none => rw [e1] at e'; cases e'
        | some ys =>
          clear e e' q
          rename_i a vs
          induction xs generalizing vs ys with
          | nil => cases l; exact .nil
          | cons x xs ihx =>
            rw [List.mapM_cons] at e1
            cases l with
            | cons p0 l =>
              cases ex : frzV n0 h d x with
              | none => rw [ex] at e1; cases e1
              | some y =>
                rw [ex] at e1
                cases ey : xs.mapM (frzV n0 h d) with
                | none => rw [ey] at e1; cases e1
                | some zs => exact .cons (ih ex p0) (ihx l zs ey)
    | _ => exact und e p
theorem s_retF (he : PE X e (rdE D sx W (evE C ie))) : PS X (.Return (some e) pos) (rdS D sx W (evS C (.ret true ie))) := by
  refine ⟨fun pins s σ H En I ⟨rho, env, h, A, q⟩ => ?_⟩
  have hw := he.run pins s σ H (fun v H1 => ∃ rho1 h1 t, RelH D H1 rho1 h1 ∧ Rp D sx H1 rho1 v t ∧ outS D sx W En H1 rho1 (match frzV C.n0 h1 4 t with
      | some t' => RS.ret (some C.n0) t' h1
      | none => .stuck)) I ⟨rho, env, h, A.e, A.r, sRv A q fun t H' r' h' v A' s' p' q' => ⟨r', h', t, A'.r, p', q'⟩⟩
  refine wpAny_Return_some (thn hw fun u s1 ⟨v, H1, I1, rv, rho1, h1, t, R1, p1, q1⟩ => ?_)
  cases hf : frzV C.n0 h1 4 t with
  | none => rw [hf] at q1; exact q1.elim
  | some t' =>
    rw [hf] at q1
    obtain ⟨H2, I2, f2, p2, u2⟩ := frz_ok 4 hf (R1.f C.n0) (frz_plain 4 hf p1) I1
    exact ⟨v, σ, H2, I2, rv, q1 H2 rho1 v f2.step (RelF.frz (R1.f C.n0) f2).k p2⟩
theorem s_aug {i : Nat} {o : Bo} {x : Str} {pos' : Pos} (hN : X.N.Nodup) (hi : X.N[i]? = some x) (hx : Loc X.env.scope x) (he : XP D X W C e ie) (ho : PIp X (opS o) (fun x y H Q => ∃ (W : WX) (σ : L2.St) (rho : Rho) (h : AH) (t t' : T), RelH D H rho h ∧ Rp D none H rho x t ∧ Rp D none H rho y t' ∧ outE D none W σ H rho Q (binT false o t t' h)))
    (hf : X.fn x = true ∨ X.env.scope.names.lookup x = some .local) : XS D X W C (.AugAssign (.Name x pos') (opS o) e pos) (.aug i o ie) :=
  PS_imp (ps_aug hN hi hx he ho hf) fun En σ H ⟨rho, env, h, A, q⟩ => by
    have q' : outS D none W En H rho (match env[i]? with
      | some (some x) => ((evE C ie env h).bind fun y h1 => binT false o x y h1).toS (fun c v h1 => .exc c v env h1) .stuck fun z h1 => RS.next (env.set i (some z)) h1
      | _ => .stuck) := q
    cases he : env[i]? with
    | none => rw [he] at q'; exact q'.elim
    | some ov =>
      cases ov with
      | none => rw [he] at q'; exact q'.elim
      | some t =>
        rw [he] at q'
        obtain ⟨v, ev, pv⟩ := A.e.2 i t he
        refine ⟨v, ev, rho, env, h, A.e, A.r, rd_bind A (sR A q') fun t2 H' r' h' v2 A' s' p' q2 => ⟨W, σ, r', h', t, t2, A'.r, pv.step s', p', ?_⟩⟩
        show outR D W σ H' r' (fun z H2 r2 _ => ∀ w, Rp D none H2 r2 w z → En.nx (σ.set i (some w)) H2) _
        exact outR.mono (fun z H2 r2 h2 s2 R2 q3 (w : V) (pw : Rp D none H2 r2 w z) => q3 _ H2 r2 Step.rfl ⟨(A'.e.step s2).set i pw, R2⟩) q2
end
end PS
end
section
set_option maxRecDepth 100000
set_option maxHeartbeats 2000000
namespace PS
open PySem PySem.Spec PyProof.Rows L2
variable {D : Wd} {X : Cx} {C : Ctx} {W : WX} {sx : Sx} {σ σ2 : L2.St} {H H' : Hp} {rho rho' : Rho} {env : Env} {h h' : AH} {pins : List (Addr × Obj)} {s : Shared} {En : Ends}

theorem isB_bind_not (r : R T) : ((r.isB).bind fun b h1 => R.ok (T.bl (!b)) h1).isB = (r.isB).bind fun b h1 => R.ok (!b) h1 := by
  cases r with
  | ok t h1 =>
    show ((R.of (truT h1 t) h1).bind fun b h1 => R.ok (T.bl (!b)) h1).isB = (R.of (truT h1 t) h1).bind fun b h1 => R.ok (!b) h1
    cases truT h1 t <;> rfl
  | exc _ _ _ => rfl
  | stuck => rfl
theorem evB_eq (C : Ctx) : ∀ (c : IE) (env : Env) (h : AH), evB C c env h = (evE C c env h).isB
  | .not a, env, h => by
    show (evB C a env h).bind (fun b h1 => R.ok (!b) h1) = (((evE C a env h).isB).bind fun b h1 => R.ok (T.bl (!b)) h1).isB
    rw [isB_bind_not, evB_eq C a]
  | .and a b, env, h => by
    show (evB C a env h).bind (fun k h1 => match k with | true => evB C b env h1 | false => R.ok false h1) = ((evE C a env h).bind fun x h1 => (R.of (truT h1 x) h1).bind fun k h2 => match k with | true => evE C b env h2 | false => R.ok x h2).isB
    rw [evB_eq C a]
    cases evE C a env h with
    | ok t h1 =>
      show (R.of (truT h1 t) h1).bind (fun k h1 => match k with | true => evB C b env h1 | false => R.ok false h1) = ((R.of (truT h1 t) h1).bind fun k h2 => match k with | true => evE C b env h2 | false => R.ok t h2).isB
      cases ht : truT h1 t with
      | none => rfl
      | some k =>
        cases k with
        | true => exact evB_eq C b env h1
        | false =>
          show R.ok false h1 = (R.ok t h1).isB
          show R.ok false h1 = R.of (truT h1 t) h1
          rw [ht]; rfl
    | exc _ _ _ => rfl
    | stuck => rfl
  | .or a b, env, h => by
    show (evB C a env h).bind (fun k h1 => match k with | true => R.ok true h1 | false => evB C b env h1) = ((evE C a env h).bind fun x h1 => (R.of (truT h1 x) h1).bind fun k h2 => match k with | true => R.ok x h2 | false => evE C b env h2).isB
    rw [evB_eq C a]
    cases evE C a env h with
    | ok t h1 =>
      show (R.of (truT h1 t) h1).bind (fun k h1 => match k with | true => R.ok true h1 | false => evB C b env h1) = ((R.of (truT h1 t) h1).bind fun k h2 => match k with | true => R.ok t h2 | false => evE C b env h2).isB
      cases ht : truT h1 t with
      | none => rfl
      | some k =>
        cases k with
        | false => exact evB_eq C b env h1
        | true =>
          show R.ok true h1 = R.of (truT h1 t) h1
          rw [ht]; rfl
    | exc _ _ _ => rfl
    | stuck => rfl
  | .cst _, _, _ => rfl
  | .var _, _, _ => rfl
  | .glb _ _, _, _ => rfl
  | .bin _ _ _ _, _, _ => rfl
  | .neg _, _, _ => rfl
  | .cmp _ _ _, _, _ => rfl
  | .chain _ _ _ _ _, _, _ => rfl
  | .ite _ _ _, _, _ => rfl
  | .tup _, _, _ => rfl
  | .lst _ _, _, _ => rfl
  | .dic _ _, _, _ => rfl
  | .kin _ _ _ _, _, _ => rfl
  | .kget _ _ _, _, _ => rfl
  | .idx _ _, _, _ => rfl
  | .slc _ _ _ _, _, _ => rfl
  | .rev _ _, _, _ => rfl
  | .fld _ _ _, _, _ => rfl
  | .fle _ _, _, _ => rfl
  | .call _ _, _, _ => rfl
  | .mk _ _ _, _, _ => rfl
  | .met _ _ _ _ _, _, _ => rfl
  | .bf _ _ _, _, _ => rfl
  | .bm _ _ _ _, _, _ => rfl
  | .isi _ _, _, _ => rfl
  | .eqo _ _ _ _ _, _, _ => rfl
  | .comp _ _ _ _ _ _, _, _ => rfl
  | .bad, _, _ => rfl

def noW : WX := fun _ _ _ _ => False
theorem RelH.aside (R : RelH D H rho h) {p : Addr} {o u : HO} (np : p ∉ rho) (e : H p = some u) (su : stays u = false) : RelH D (upd H p o) rho h :=
  ⟨R.len, R.nd, fun n a c e1 e2 => (R.cell n a c e1 e2).stepK (Keep.set e su) (upd_ne fun z => np (by rw [← z]; exact List.mem_of_getElem? e1))⟩
theorem RelH.enter (R : RelH D H rho h) {p : Addr} {c : Cell} (np : p ∉ rho) (hc : CellR D H (rho ++ [p]) p c) : RelH D H (rho ++ [p]) (h ++ [c]) := by
  have kp : Keep H rho H (rho ++ [p]) := ⟨fun _ _ e _ => e, [p], rfl⟩
  refine ⟨by simp [R.len], ?_, fun m a c' e1 e2 => ?_⟩
  · rw [List.nodup_append]
    refine ⟨R.nd, by simp, fun x hx y hy z => ?_⟩
    simp at hy
    subst hy
    subst z
    exact np hx
  · by_cases hm : m < rho.length
    · rw [List.getElem?_append_left hm] at e1
      rw [List.getElem?_append_left (by rw [← R.len]; exact hm)] at e2
      exact (R.cell m a c' e1 e2).stepK kp rfl
    · have hm2 : m = rho.length := by
        have := (List.getElem?_eq_some_iff.mp e1).1
        simp at this; omega
      subst hm2
      rw [List.getElem?_append_right (Nat.le_refl _)] at e1
      rw [R.len, List.getElem?_append_right (Nat.le_refl _)] at e2
      simp at e1 e2
      subst e1; subst e2
      exact hc
theorem comp_end {H0 : Hp} {rho0 : Rho} {Q : VK} {m : Bool} {ts : List T} {acc : List V} {p : Addr} (s0 : Step H0 rho0 H rho) (np : p ∉ rho) (n0 : H0 p = none) (e : H p = some (.lst acc)) (R : RelH D H rho h) (l : RpL D none H rho acc ts)
    (q : outE D none W σ H0 rho0 Q (fresh m ts h)) : FrzQ Q (.ref p) H := by
  unfold fresh at q
  by_cases hz : ts.length ≤ sizeLine
  · rw [if_pos hz] at q
    cases m with
    | true =>
      rw [if_pos rfl] at q
      have kp : Keep H rho H (rho ++ [p]) := ⟨fun _ _ e _ => e, [p], rfl⟩
      refine .inl (q H (rho ++ [p]) ⟨⟨s0.k.1, ?_⟩, s0.out, s0.there, fun a ma na => ?_⟩ (R.enter np ⟨acc, e, l.stepK kp⟩) _ (.ref ?_))
      · obtain ⟨t, ht⟩ := s0.k.2
        exact ⟨t ++ [p], by rw [ht]; simp⟩
      · simp only [List.mem_append, List.mem_singleton] at ma
        rcases ma with ma | ma
        · exact s0.new_ a ma na
        · subst ma; exact n0
      · rw [← R.len]; simp
    | false =>
      rw [if_neg (by decide)] at q
      refine .inr ⟨p, _, rfl, e, rfl, fun ob => ?_⟩
      exact q _ rho (s0.beside n0) (R.aside np e rfl) _ (.lst upd_same (l.stepK (Keep.set e rfl)))
  · rw [if_neg hz] at q; exact q.elim
theorem nox_ok {α : Type} {r : R α} {x : α} {h : AH} (e : r.nox = .ok x h) : r = .ok x h := by
  cases r <;> first | exact e | cases e
def okP {α : Type} (P : α → AH → Prop) : R α → Prop
  | .ok x h => P x h
  | _ => False
theorem okP.mono {α : Type} {P P' : α → AH → Prop} (i : ∀ x h, P x h → P' x h) : ∀ {r : R α}, okP P r → okP P' r
  | .ok _ _, q => i _ _ q
  | .exc _ _ _, q => q
  | .stuck, q => q
theorem okP.bind {α β : Type} {P : β → AH → Prop} {k : α → AH → R β} : ∀ {r : R α}, okP P (r.bind k) → okP (fun x h => okP P (k x h)) r
  | .ok _ _, q => q
  | .exc _ _ _, q => q
  | .stuck, q => q
theorem okP.ex {α : Type} {P : α → AH → Prop} : ∀ {r : R α}, okP P r → ∃ x h, r = .ok x h ∧ P x h
  | .ok _ _, q => ⟨_, _, rfl, q⟩
  | .exc _ _ _, q => q.elim
  | .stuck, q => q.elim
theorem fresh_len {Q : VK} {m : Bool} {ts : List T} {H0 : Hp} {rho0 : Rho} (q : outE D none W σ H0 rho0 Q (fresh m ts h)) : ts.length ≤ sizeLine := by
  unfold fresh at q
  by_cases hz : ts.length ≤ sizeLine
  · exact hz
  · rw [if_neg hz] at q; exact q.elim
open Classical in
theorem comp_loop {Q2 : VK} {g : TG} {cond : Env → AH → R Bool} {elt : Env → AH → R T} {own : List Nat} {Is : Items} {m : Bool} {tt : TT} {te : TE} {Q : VK} {J : It} {H0 : Hp} {rho0 : Rho} {h0 : AH} (hs : ∀ i ∈ g.slots, i ∈ own) (A0 : At D none σ H0 rho0 env h0) (wk : Walk D J H0 rho0 Is) (hchk : Is.chk h0)
    (ht : ∀ σ H Q, rdB D none noW cond σ H Q → tt σ H Q) (he : ∀ σ H Q, rdE D none noW elt σ H Q → te σ H Q)
    (q : okP (fun us h' => outE D none W σ H0 rho0 Q (fresh m us h')) (compL g (fun e h => (cond e h).nox) (fun e h => (elt e h).nox) Is.chk Is.xs (wipeE env own) h0)) (hq : ∀ v H, FrzQ Q v H → Q2 v H) (p : Addr) (np : H0 p = none) :
    ∃ W : Nat → Nat → Hp → Prop, (∃ m, W 0 m (upd H0 p (.lst []))) ∧ ∀ i m H, W i m H → (J.stop i H ∧ Q2 (.ref p) H) ∨ (J.go i H ∧ ∃ Nx : Hp → Prop, (∀ H', Nx H' → ∃ m', m' < m ∧ W (i + 1) m' H') ∧ ∀ x H', J.yld i H x H' → rdG D none g x (L2.wipe σ own) H' fun σ2 H2 => L2.wipe σ2 own = L2.wipe σ own ∧ tt σ2 H2 fun b H3 =>
      if b = true then te σ2 H3 fun y H4 => ∃ acc, H4 p = some (.lst acc) ∧ acc.length < sizeLine ∧ Nx (upd H4 p (.lst (acc ++ [y]))) else Nx H3) := by
  have nr0 : p ∉ rho0 := fun z => by
    obtain ⟨o, e, _⟩ := A0.r.mem z
    rw [np] at e; cases e
  let Iv : Nat → Hp → Prop := fun i H => ∃ rho1 h1 acc ts, Step H0 rho0 H rho1 ∧ p ∉ rho1 ∧ H p = some (.lst acc) ∧ RelH D H rho1 h1 ∧ Is.chk h1 ∧ RpL D none H rho1 acc ts ∧
    okP (fun us h' => outE D none W σ H0 rho0 Q (fresh m (ts ++ us) h')) (compL g (fun e h => (cond e h).nox) (fun e h => (elt e h).nox) Is.chk (Is.xs.drop i) (wipeE env own) h1)
  refine ⟨fun i m H => i ≤ Is.xs.length ∧ m = Is.xs.length - i ∧ Iv i H, ⟨Is.xs.length, Nat.zero_le _, by simp, rho0, h0, [], [], Step.rfl.beside np, nr0, upd_same, A0.r.beside np, hchk, .nil, q⟩, ?_⟩
  rintro i m' H ⟨hi, rfl, rho1, h1, acc, ts, s1, np1, ep, R1, hc1, l1, q1⟩
  by_cases hl : i < Is.xs.length
  · have e1 : Is.xs[i]? = some Is.xs[i] := List.getElem?_eq_getElem hl
    obtain ⟨hgo, hy⟩ := wk.go i H rho1 h1 _ s1 R1 hc1 e1
    refine .inr ⟨hgo, Iv (i + 1), fun H' iv => ⟨Is.xs.length - (i + 1), by omega, hl, rfl, iv⟩, fun x H' hx => ?_⟩
    obtain ⟨sy, Ry, px⟩ := hy x H' hx
    rw [List.drop_eq_getElem_cons hl] at q1
    have q2 : okP (fun us h' => outE D none W σ H0 rho0 Q (fresh m (ts ++ us) h')) (match g.asg Is.xs[i] (wipeE env own) with
      | none => .stuck
      | some e1 => ((cond e1 h1).nox).bind fun b h1 => match b with
        | true => ((elt e1 h1).nox).bind fun t h2 => if Is.chk h2 then (compL g (fun e h => (cond e h).nox) (fun e h => (elt e h).nox) Is.chk (Is.xs.drop (i + 1)) (wipeE env own) h2).bind fun ts h3 => .ok (t :: ts) h3 else .stuck
        | false => if Is.chk h1 then compL g (fun e h => (cond e h).nox) (fun e h => (elt e h).nox) Is.chk (Is.xs.drop (i + 1)) (wipeE env own) h1 else .stuck) := q1
    cases ha : g.asg Is.xs[i] (wipeE env own) with
    | none => rw [ha] at q2; exact q2.elim
    | some e1 =>
      rw [ha] at q2
      dsimp only at q2
      have Aw : At D none (L2.wipe σ own) H' rho1 (wipeE env own) h1 := ⟨((A0.e.step s1).step sy).wipe own, Ry⟩
      refine ⟨rho1, wipeE env own, h1, _, e1, Aw, px, ha, fun σ' r b => ⟨?_, ?_⟩⟩
      · rw [b.wipe hs]
        refine List.ext_getElem? fun j => ?_
        rw [wipe_get, wipe_get, L2.wipe_length]
        by_cases hj : j ∈ own
        · rw [if_pos hj, if_pos hj]
        · rw [if_neg hj, if_neg hj]
      · refine ht _ _ _ ⟨rho1, e1, h1, r, Ry, ?_⟩
        have keepP : ∀ {H2 : Hp} {rho2 : Rho}, Step H' rho1 H2 rho2 → p ∉ rho2 ∧ H2 p = some (.lst acc) := fun {H2 rho2} s2 => by
          have ep' : H' p = some (.lst acc) := sy.out p _ ep np1
          refine ⟨fun z => ?_, s2.out p _ ep' np1⟩
          have := s2.new_ p z np1
          rw [ep'] at this; cases this
        obtain ⟨b, h2, ec, q3⟩ := okP.ex (okP.bind q2)
        have ec := nox_ok ec
        rw [ec]
        intro H2 rho2 s2 R2
        cases b with
        | false =>
          rw [if_neg (by decide)]
          by_cases hk : Is.chk h2
          · have q3 : okP _ (if Is.chk h2 then compL g (fun e h => (cond e h).nox) (fun e h => (elt e h).nox) Is.chk (Is.xs.drop (i + 1)) (wipeE env own) h2 else .stuck) := q3
            rw [if_pos hk] at q3
            obtain ⟨a1, a2⟩ := keepP s2
            exact ⟨rho2, h2, acc, ts, (s1.trans sy).trans s2, a1, a2, R2, hk, (l1.step sy).step s2, q3⟩
          · have q3 : okP _ (if Is.chk h2 then compL g (fun e h => (cond e h).nox) (fun e h => (elt e h).nox) Is.chk (Is.xs.drop (i + 1)) (wipeE env own) h2 else .stuck) := q3
            rw [if_neg hk] at q3; exact q3.elim
        | true =>
          rw [if_pos rfl]
          obtain ⟨t, h3, ee, q4⟩ := okP.ex (okP.bind q3)
          have ee := nox_ok ee
          refine he _ _ _ ⟨rho2, e1, h2, r.step s2, R2, ?_⟩
          rw [ee]
          intro H3 rho3 s3 R3 y py
          by_cases hk : Is.chk h3
          · rw [if_pos hk] at q4
            obtain ⟨a1, a2⟩ := keepP (s2.trans s3)
            have l3 : RpL D none H3 rho3 acc ts := ((l1.step sy).step s2).step s3
            have q5 := okP.bind q4
            refine ⟨acc, a2, ?_, rho3, h3, acc ++ [y], ts ++ [t], (((s1.trans sy).trans s2).trans s3).beside np, a1, upd_same, R3.aside a1 a2 rfl, hk, (l3.append (.cons py .nil)).stepK (Keep.set a2 rfl), ?_⟩
            · obtain ⟨us, h4, _, q6⟩ := okP.ex q5
              have := fresh_len q6
              rw [l3.length]
              simp at this
              omega
            · refine okP.mono (fun us h4 q6 => ?_) q5
              rw [List.append_assoc]
              exact q6
          · rw [if_neg hk] at q4; exact q4.elim
  · have e : i = Is.xs.length := by omega
    subst e
    rw [List.drop_length] at q1
    refine .inl ⟨wk.stop _ H rho1 h1 s1 R1 hc1 (Nat.le_refl _), ?_⟩
    have q3 : outE D none W σ H0 rho0 Q (fresh m (ts ++ []) h1) := q1
    rw [List.append_nil] at q3
    exact hq _ _ (comp_end s1 np1 np ep R1 l1 q3)
section
variable {elt tg iter c : Expr} {ifs : List Expr} {scope : Scope} {own : List (Str × Nat)} {pos : Pos} {ii : II} {g : TG} {io : IO} {ie ic : IE} {m : Bool}
inductive XTs (D : Wd) (X : Cx) (C : Ctx) : List Expr → IO → Prop
  | nil : XTs D X C [] .none
  | one {c : Expr} {ic : IE} (h : XB D X noW C c ic) : XTs D X C [c] (.some ic)
noncomputable def condOf (C : Ctx) : IO → Env → AH → R Bool
  | .none => fun _ h => .ok true h
  | .some c => fun env h => (evE C c env h).isB
theorem xts_pts (h : XTs D X C ifs io) : PTs X ifs (rdB D none noW (condOf C io)) := by
  cases h with
  | nil => exact ⟨fun pins s σ H Q I ⟨rho, env, h, e, r, q⟩ => pts_nil.run pins s σ H Q I (q H rho Step.rfl r)⟩
  | one hc =>
    rename_i c ic
    refine ⟨fun pins s σ H Q I ⟨rho, env, h, e, r, q⟩ => (pts_one hc).run pins s σ H Q I ⟨rho, env, h, e, r, ?_⟩⟩
    rw [evB_eq]
    exact q
theorem comp_rd0 {Q Q2 : VK} {cd : Env → AH → R Bool} (hs : ∀ i ∈ g.slots, i ∈ own.map (·.2)) (hq : ∀ v H, FrzQ Q v H → Q2 v H) (e : RelE D none H rho σ env) (r : RelH D H rho h)
    (q : outE D none W σ H rho Q ((evI C ii env h).bind fun I h1 => ((compL g (fun e h => (cd e h).nox) (fun env h => (evE C ie env h).nox) I.chk I.xs (wipeE env (own.map (·.2))) h1).nox.bind fun ts h2 => fresh m ts h2))) :
    tLc (rdI D W (evI C ii)) (rdG D none g) (rdB D none noW cd) (rdE D none noW (evE C ie)) (own.map (·.2)) σ H Q2 := by
  refine ⟨rho, env, h, e, r, rdI_of (fun Is h' e => evI_chk e) ?_⟩
  refine outR.mono (fun Is H0 rho0 h0 s0 R0 q0 hchk J wk p np => ?_) (outR.bind q)
  refine comp_loop (m := m) (W := W) hs ⟨e.step s0, R0⟩ wk hchk (fun _ _ _ q => q) (fun _ _ _ q => q) ?_ hq p np
  generalize compL g (fun e h => (cd e h).nox) (fun env h => (evE C ie env h).nox) Is.chk Is.xs (wipeE env (own.map (·.2))) h0 = r at q0 ⊢
  cases r with
  | ok us h1 => exact q0
  | exc _ _ _ => exact q0.elim
  | stuck => exact q0.elim
theorem comp_rd {Q2 : VK} (hs : ∀ i ∈ g.slots, i ∈ own.map (·.2)) : ∀ σ H Q, (∀ v H, FrzQ Q v H → Q2 v H) → rdE D none W (evE C (.comp m (own.map (·.2)) g ii io ie)) σ H Q → tLc (rdI D W (evI C ii)) (rdG D none g) (rdB D none noW (condOf C io)) (rdE D none noW (evE C ie)) (own.map (·.2)) σ H Q2 := by
  intro σ H Q hq hw
  obtain ⟨rho, env, h, e, r, q⟩ := hw
  cases io with
  | none => exact comp_rd0 (cd := condOf C .none) hs hq e r q
  | some c => exact comp_rd0 (cd := condOf C (.some c)) hs hq e r q
theorem x_comp (hc : X.calm = true) (hN : X.N.Nodup) (hi : XI D X W C tg iter ii) (ok : BlkOk X.N X.env.scope scope own) (hs : ∀ i ∈ g.slots, i ∈ own.map (·.2))
    (hg : ∀ (s : Shared) (H : Hp) (A : Addr) (cl : List (Str × Addr)) (fp : List Addr), XG D (X.blk s H scope (compEnvC scope cl A X.env) fp) tg g) (ht : ∀ (s : Shared) (H : Hp) (A : Addr) (cl : List (Str × Addr)) (fp : List Addr), XTs D (X.blk s H scope (compEnvC scope cl A X.env) fp) C ifs io)
    (he : ∀ (s : Shared) (H : Hp) (A : Addr) (cl : List (Str × Addr)) (fp : List Addr), XP D (X.blk s H scope (compEnvC scope cl A X.env) fp) noW C elt ie) (hf : ∀ x, foldedSetIterable iter X.env x = pure x := by intro _; rfl) :
    XP D X W C (.ListComp elt [⟨tg, iter, ifs, 0⟩] scope pos) (.comp m (own.map (·.2)) g ii io ie) :=
  PE_imp (PE_frz (pe_lc hc hN hi ok hg (fun s H A cl fp => xts_pts (ht s H A cl fp)) he hf)) (fun σ H Q q => comp_rd hs σ H Q (fun _ _ q => q) q)
theorem s_comp {i : Nat} {y : Str} {py spos : Pos} (hc : X.calm = true) (hN : X.N.Nodup) (hy : X.N[i]? = some y) (hyl : X.env.scope.names.lookup y = some .local)
    (hsw : swapsWith (.ListComp elt [⟨tg, iter, ifs, 0⟩] scope pos) (some (.Name y py)) spos.line X.env = pure true) (hi : XI D X W C tg iter ii) (ok : BlkOk X.N X.env.scope scope own) (hs : ∀ i ∈ g.slots, i ∈ own.map (·.2))
    (hg : ∀ (s : Shared) (H : Hp) (A : Addr) (cl : List (Str × Addr)) (fp : List Addr), XG D (X.blk s H scope (compEnvC scope cl A X.env) fp) tg g) (ht : ∀ (s : Shared) (H : Hp) (A : Addr) (cl : List (Str × Addr)) (fp : List Addr), XTs D (X.blk s H scope (compEnvC scope cl A X.env) fp) C ifs io)
    (he : ∀ (s : Shared) (H : Hp) (A : Addr) (cl : List (Str × Addr)) (fp : List Addr), XP D (X.blk s H scope (compEnvC scope cl A X.env) fp) noW C elt ie) (hf : ∀ x, foldedSetIterable iter X.env x = pure x := by intro _; rfl) :
    XS D X W C (.Assign [.Name y py] (.ListComp elt [⟨tg, iter, ifs, 0⟩] scope pos) spos) (.asg (.nm i) (.comp m (own.map (·.2)) g ii io ie)) := by
  refine ⟨fun pins s σ H En I ⟨rho, env, h, A, q⟩ => ?_⟩
  have q1 : rdE D none W (evE C (.comp m (own.map (·.2)) g ii io ie)) σ H (fun x H1 => En.nx (σ.set i (some x)) H1) := ⟨rho, env, h, A.e, A.r, sRv A q fun t H' r' h' v A' s' p' q' => q' _ H' r' Step.rfl ⟨A'.e.set i p', A'.r⟩⟩
  have q2 := comp_rd (D := D) (own := own) (Q2 := fun x H1 => ∃ v, σ.set i (some x) = σ.set i (some v) ∧ FrzQ (fun x H1 => En.nx (σ.set i (some x)) H1) v H1) hs σ H _ (fun v H q => ⟨v, rfl, q⟩) q1
  have hp := (ps_setLc hc hN hy hyl hsw hi ok hg (fun s H A cl fp => xts_pts (ht s H A cl fp)) he hf).run pins s σ H { En with nx := fun σ' H' => ∃ v, σ' = σ.set i (some v) ∧ FrzQ (fun x H1 => En.nx (σ.set i (some x)) H1) v H' } I q2
  refine thn hp fun f s1 sp => ?_
  cases f with
  | next =>
    obtain ⟨σ', H', I', v, rfl, q3⟩ := sp
    rcases q3 with q3 | ⟨p, u, rfl, e, f, q3⟩
    · exact ⟨_, H', I', q3⟩
    · obtain ⟨o, J⟩ := Inv.freeze I' e f
      exact ⟨_, _, J, q3 o⟩
  | brk => exact sp
  | cont => exact sp
  | ret u => exact sp
end
end PS
end
section
set_option maxRecDepth 100000
set_option maxHeartbeats 2000000
namespace PS
open PySem PySem.Spec PyProof.Rows L2
variable {D : Wd} {X : Cx} {C : Ctx} {W : WX} {sx : Sx} {σ σ2 : L2.St} {H H' : Hp} {rho rho' : Rho} {env : Env} {h h' : AH} {pins : List (Addr × Obj)} {s : Shared} {En : Ends}

def spX (D : Wd) (c : Nat) : Sp := fun vs H Q _ => ∃ a v, vs = [.ref a, v] ∧ H a = some (exo a (D.xa c) none) ∧ ∀ dx, H dx = none → dx ≠ a → Q .non (upd (upd H dx (exd dx [(D.xf c, v)])) a (exo a (D.xa c) (some dx)))
structure ErrOk (D : Wd) (X : Cx) (c : Nat) : Prop where
  lt : c < D.nx
  oc : OexC X.K (D.xa c)
  ini : ∃ fI, PySem.W.findIn X.K (.ref (D.xa c)) "__init__" = some (some (.ref fI)) ∧ PySem.W.typeIn X.K (.ref fI) = some (.type "function") ∧ ∃ k fd ps, FnOk X.prog X.w X.K X.mg X.base (L2.CX X.prog X.w) k fI fd ps (spX D c) ∧ Room (k + 1) X.A ∧ Binds X.K fd ps []
theorem s_raise {c : Nat} {e : Expr} {ie : IE} {x : Str} {p pos pos2 : Pos} (hc : X.calm = true) (tk : Takes X W) (T : ErrOk D X c) (he : XP D X W C e ie) (hg : Gl X x) (hm : X.mg x = some (.ref (D.xa c)))
    (hdb : (x == ("__debug__" : Str)) = false := by decide) (hs : starEach (e :: []) X.env = (false, eval e X.env) :: starEach [] X.env := by rfl) (hpl : (backTo pos (starEach [] X.env)).any (·.1) = false := by rfl) :
    XS D X W C (.Raise (some (.Call (.Name x p) [e] [] pos)) none pos2) (.rais c ie) := by
  obtain ⟨fI, i1, i2, k, fd, ps, F, hr, hb⟩ := T.ini
  have ha : XL D X W C [e] (.cons ie .nil) := x_cons he x_nil hs
  refine PS_imp (ps_raise hc tk (pmk_oex (CX := L2.CX X.prog X.w) (ds := []) (dvs := []) T.oc i1 i2 F hr hb .nil (fun pins σ H s e s' I c => passAt takes_none5 σ pins H s e s' I c) hg hm ha hdb hs hpl)) fun En σ H ⟨rho, env, h, A, q⟩ => ?_
  refine ⟨rho, env, h, A.e, A.r, ?_⟩
  show outR D W σ H rho _ ((evE C ie env h).bind fun x h1 => R.ok [x] h1)
  have q' : outS D none W En H rho ((evE C ie env h).toS (fun c v h1 => .exc c v env h1) .stuck fun t h1 => RS.exc c t env h1) := q
  generalize evE C ie env h = r at q' ⊢
  cases r with
  | exc c v h1 => exact fun H' r' cls d s R x => q' σ H' r' cls d s (A.step s R) x
  | stuck => exact q'
  | ok t h1 =>
    intro H1 rho1 s1 R1 vs l
    obtain ⟨v, rfl, pv⟩ := rpl1 l
    refine ⟨by show 1 ≤ 1000; decide, fun a na => ⟨a, v, rfl, upd_same, fun dx ndx dne => ⟨rfl, dx, [(D.xf c, v)], upd_same, ?_, ?_, ?_⟩⟩⟩
    · rw [upd_ne dne, upd_same]
    · rwa [upd_ne dne] at ndx
    · have n1 : H1 dx = none := by rwa [upd_ne dne] at ndx
      have eqH : upd (del (upd (upd (upd H1 a (exo a (D.xa c) none)) dx (exd dx [(D.xf c, v)])) a (exo a (D.xa c) (some dx))) a) dx (.xd [(D.xf c, v)]) = upd H1 dx (.xd [(D.xf c, v)]) := by
        funext b
        by_cases hb : b = dx
        · subst hb; rw [upd_same, upd_same]
        · rw [upd_ne hb, upd_ne hb]
          by_cases ha : b = a
          · subst ha; rw [del_same, na]
          · rw [del_ne ha, upd_ne ha, upd_ne hb, upd_ne ha]
      rw [eqH]
      have st := Step.new (H := H1) (r := rho1) (o := HO.xd [(D.xf c, v)]) n1
      exact q' σ _ rho1 _ _ (s1.trans st) ((A.step s1 R1).step st (R1.beside n1)) ⟨dx, v, T.lt, rfl, rfl, upd_same, pv.step st⟩

abbrev HdS := Value × Nat × (Addr → Value → Option Addr → TS)
def gone (i : Nat) (E : Ends) : Ends := { nx := fun σ' H' => E.nx (σ'.set i none) H', rt := E.rt, bk := fun σ' H' => E.bk (σ'.set i none) H', ct := fun σ' H' => E.ct (σ'.set i none) H' }
def wAsM (K : PySem.W.Frag) (Wout : WX) (E : Ends) : List HdS → WX
  | [] => Wout
  | (c, i, ts) :: r => fun cls d σ H => ∃ b, PySem.W.exmOne K cls c = some b ∧ (b = true → ∀ a, H a = none → ts a cls d (gone i E) (σ.set i (some (.ref a))) H) ∧ (b = false → wAsM K Wout E r cls d σ H)
inductive HdsA (X : Cx) : List ExceptHandler → List HdS → Prop
  | nil : HdsA X [] []
  | cons {x n : Str} {c : Value} {i : Nat} {ts : Addr → Value → Option Addr → TS} {b₀ : Stmt} {suite : List Stmt} {np pos' : Pos} {hds : List ExceptHandler} {l : List HdS} (hi : X.N[i]? = some n) (hln : X.env.kindOf n = some .local) (hc : Names X x c)
      (hsu : ∀ (a : Addr) (oe : Obj) (cls : Value) (d : Option Addr) (pn : List (Addr × Obj)), Zc cls d oe → (∃ vs, oe.data = .fields vs) → PSs (X.suite a ((a, oe) :: pn)) (b₀ :: suite) (ts a cls d)) (r : HdsA X hds l) :
      HdsA X (.ExceptHandler (some (.Name x np)) (some n) (b₀ :: suite) pos' :: hds) ((c, i, ts) :: l)
section
variable {body : List Stmt} {h₀ : ExceptHandler} {hds : List ExceptHandler} {l : List HdS} {pos : Pos} {tb : WX → TS} {Wout : WX}
theorem ps_try_asM (hs : X.stack = X.env :: X.outer) (hf : X.env.frame = some X.env.locals) (hN : X.N.Nodup) (tk : Takes X Wout)
    (hb : ∀ (W : WX) (pn : List (Addr × Obj)) (xe : Value → Shared → Prop), Takes (X.tr pn xe) W → PassesOwn (model X.prog X.w) X.A X.env xe → PSs (X.tr pn xe) body (tb W))
    (hh : HdsA X (h₀ :: hds) l) : PS X (.Try body (h₀ :: hds) [] [] pos) (fun E σ H => tb (wAsM X.K Wout E l) E σ H) := by
  refine ⟨fun pins s σ H E I h => ?_⟩
  have ok := I.ok
  have hfr : X.A.frames = some (X.env :: X.outer) := by rw [ok.frames, hs]
  refine wpAny_Try_except ?_
  refine wpAny_mono ((hb (wAsM X.K Wout E l) (X.pn ++ pins) (fun e s₁ => wpAny (model X.prog X.w) X.A (noteFrame e X.env) (fun _ s₂ => wpAny (model X.prog X.w) X.A (setFlight e none) (fun _ s₃ =>
    wpAny (model X.prog X.w) X.A (handleBy e X.env (h₀ :: hds)) (SP X pins E) X.xe s₃) X.xe s₂) X.xe s₁) (fun u s' xx => ?_) PassesOwn.looking).run [] s σ H E (I.toTry _) h) (fun f s1 hsp => ?_) (fun e s1 he => he)
  · obtain ⟨a, B, sI, pins', σ', H', cls, d, rfl, J', nb, up, sky, na, os, ag, w⟩ := xx
    have J : Inv X pins σ' H' sI := J'.ofTry ok
    have sky' : Sky B (X.env :: X.outer) a (Zc cls d) X.env.locals s'.heap := by rw [← hs]; exact sky
    show wpAny (model X.prog X.w) X.A (noteFrame (.ref a) X.env) _ _ _
    refine Sky.land Zc.steady hfr hf sky' fun h3 fl3 up3 => ?_
    have J3 : Inv X pins σ' H' { s' with heap := h3 } := J.landed nb fl3.1 (up.trans up3) os ag
    obtain ⟨oe3, vs3, he3, hz3, hd3⟩ := fl3.there
    have nfr : a ∉ frs (X.env :: X.outer) := fun hm => by
      obtain ⟨_, o', e', hnf⟩ := fl3.2.2.1.mem hm
      rw [he3] at e'; cases e'
      exact hnf _ hd3
    have nL : a ≠ X.env.locals := fun z => nfr (List.mem_filterMap.mpr ⟨X.env, List.mem_cons_self, by rw [hf, z]⟩)
    have nF : a ∉ X.fs := fun hm => by
      obtain ⟨e, he, q⟩ := List.mem_filterMap.mp hm
      exact nfr (List.mem_filterMap.mpr ⟨e, List.mem_cons_of_mem _ he, q⟩)
    have S3 := J3.suite he3 hd3 na nL nF
    have go : ∀ {hds' : List ExceptHandler} {l' : List HdS}, HdsA X hds' l' → wAsM X.K Wout E l' cls d σ' H' → wpAny (model X.prog X.w) X.A (handleBy (.ref a) X.env hds') (SP X pins E) X.xe { s' with heap := h3 } := by
      intro hds' l' hk
      induction hk with
      | nil =>
        intro w
        refine wpAny_handleBy_nil ?_
        obtain ⟨k1, k2, k3, oe, vs, T, oT, ts', he, hz, hd, h1, hr⟩ := id fl3
        unfold PySem.passOn
        refine wpAny_bind (wpAny_field he hd h1 ?_)
        rw [if_neg (show ¬ ((Value.ref T == Value.none) = true) from by simp)]
        have fin : wpAny (model X.prog X.w) X.A (setFlight (.ref a) X.env.frame) (fun _ s4 => wpAny (model X.prog X.w) X.A (throw (.ref a) : Sem Flow) (SP X pins E) X.xe s4) X.xe { s' with heap := h3 } := by
          rw [hf]
          refine HandSPX.setFlight_upZ fl3 fun h4 hh4 up4 => wpAny_throw (tk _ _ ?_)
          exact ⟨a, B, sI, pins, σ', H', cls, d, rfl, J, nb, (up.trans up3).trans up4, .inr (.inr (by rw [hs]; exact hh4)), na, os, ag, w⟩
        first
          | exact wpAny_bind (wpAny_pure (wpAny_bind fin))
          | exact wpAny_bind fin
      | @cons x n c i ts b₀ suite np pos' hds2 l2 hi hln hc hsu r ih =>
        intro w
        obtain ⟨b, hb1, hyes, hno⟩ := w
        have hloc : Loc X.env.scope n := .inl hln
        refine wpAny_handleBy_cons (codeAny_handlers_test ?_) (by intro q; cases q)
        have LT : PySem.W.Looks (model X.prog X.w) h3 (typeOf (.ref a)) cls := fun A Q E s k q => wpAny_typeOf_ref (k _ _ he3) (by rw [hz3.1]; exact q)
        have LM := PySem.W.exm_one (M := model X.prog X.w) (J3.kIn) LT hb1
        have test : ∀ {Q : Value → Shared → Prop} {E : Value → Shared → Prop}, Q c { s' with heap := h3 } → wpAny (model X.prog X.w) (X.A.mark (some (.ref a))) (eval (.Name x np) X.env) Q E { s' with heap := h3 } := fun {Q E} q => by
          obtain ⟨hg, hdbg, hm | ⟨hm, hv, hnn⟩⟩ := hc
          · exact ld_glob (X := X.suite a ((a, oe3) :: (X.pn ++ pins))) S3 hg hm q hdbg
          · exact ld_blt (X := X.suite a ((a, oe3) :: (X.pn ++ pins))) S3 hg hm hv q hnn hdbg
        refine test (LM.here ?_)
        cases b with
        | true =>
          refine codeAny_handlers_suite_as ?_
          refine HandSPX.lands_againZ fl3 fun h4 fl4 up4 => ?_
          have J4 : Inv X pins σ' H' { s' with heap := h4 } := J.landed nb fl4.1 ((up.trans up3).trans up4) os ag
          obtain ⟨oe4, vs4, he4, hz4, hd4⟩ := fl4.there
          have S4 := J4.suite he4 hd4 na nL nF
          refine store_ok (X := X.suite a ((a, oe4) :: (X.pn ++ pins))) (v := .ref a) S4 hN hi hloc rfl (fun s5 S5 => ?_) (.inr hln)
          refine wpAny_mono ((hsu a oe4 cls d (X.pn ++ pins) hz4 ⟨_, hd4⟩).run [] s5 _ H' _ S5 (hyes rfl a na)) (fun f s6 hsp => ?_) (fun _ _ z => False.elim z)
          have end_ : ∀ {σ6 : L2.St} {H6 : Hp} {Q : Shared → Prop}, Inv (X.suite a ((a, oe4) :: (X.pn ++ pins))) [] σ6 H6 s6 → (∀ s7, Inv X pins (σ6.set i none) H6 s7 → Q s7) →
              wpAny (model X.prog X.w) X.A (do bindName X.env n .none; unbindBehindTheSuite X.env n pos') (fun _ s7 => Q s7) X.xe s6 := fun {σ6 H6 Q} S6 hq => gone_ok (S6.unsuite ok) hN hi hln hq
          cases f with
          | next =>
            obtain ⟨σ6, H6, S6, q6⟩ := hsp
            exact end_ S6 fun s7 J7 => ⟨_, _, J7, q6⟩
          | brk =>
            obtain ⟨σ6, H6, S6, q6⟩ := hsp
            exact end_ S6 fun s7 J7 => ⟨_, _, J7, q6⟩
          | cont =>
            obtain ⟨σ6, H6, S6, q6⟩ := hsp
            exact end_ S6 fun s7 J7 => ⟨_, _, J7, q6⟩
          | ret u =>
            obtain ⟨v6, σ6, H6, S6, r6, q6⟩ := hsp
            exact end_ S6 fun s7 J7 => ⟨_, _, _, J7, r6, q6⟩
        | false =>
          show wpAny _ X.A (handleBy (.ref a) X.env hds2) _ _ _
          exact ih (hno rfl)
    exact go hh w
  · cases f with
    | next =>
      obtain ⟨σ', H', J', q⟩ := hsp
      exact wpAny_execs_nil ⟨σ', H', J'.ofTry ok, q⟩
    | brk =>
      obtain ⟨σ', H', J', q⟩ := hsp
      exact ⟨σ', H', J'.ofTry ok, q⟩
    | cont =>
      obtain ⟨σ', H', J', q⟩ := hsp
      exact ⟨σ', H', J'.ofTry ok, q⟩
    | ret u =>
      obtain ⟨v, σ', H', J', r, q⟩ := hsp
      exact ⟨v, σ', H', J'.ofTry ok, r, q⟩
end
end PS
end
section
set_option maxRecDepth 100000
set_option maxHeartbeats 2000000
namespace PS
open PySem PySem.Spec PyProof.Rows L2
variable {D : Wd} {X : Cx} {C : Ctx} {W : WX} {sx : Sx} {σ σ2 : L2.St} {H H' : Hp} {rho rho' : Rho} {env : Env} {h h' : AH} {pins : List (Addr × Obj)} {s : Shared} {En : Ends}
mutual
theorem Rp.any : ∀ {v : V} {t : T}, Rp D none H rho v t → Rp D sx H rho v t
  | _, _, .non => .non
  | _, _, .bl b => .bl b
  | _, _, .int i => .int i
  | _, _, .str x => .str x
  | _, _, .tup q l => .tup q (RpL.any l)
  | _, _, .lst q l => .lst q (RpL.any l)
  | _, _, .dK q k l => .dK q k (RpL.any l)
  | _, _, .dT q k l => .dT q k (RpL.any l)
  | _, _, .ref q => .ref q
  | _, _, .exn _ q _ _ => nomatch q
theorem RpL.any : ∀ {vs : List V} {ts : List T}, RpL D none H rho vs ts → RpL D sx H rho vs ts
  | _, _, .nil => .nil
  | _, _, .cons p l => .cons (Rp.any p) (RpL.any l)
end
theorem RelE.any (e : RelE D none H rho σ env) : RelE D sx H rho σ env := ⟨e.1, fun i t q => let ⟨v, a, b⟩ := e.2 i t q; ⟨v, a, b.any⟩⟩
theorem RelE.plain {n : Nat} (e : RelE D sx H rho σ env) (hn : rho.length = n) (pl : plainE n env = true) : RelE D none H rho σ env := ⟨e.1, fun i t q => by
  obtain ⟨v, a, b⟩ := e.2 i t q
  refine ⟨v, a, b.plain ?_⟩
  have hm := List.mem_of_getElem? q
  have := List.all_eq_true.mp pl _ hm
  rw [hn]
  exact this⟩
theorem RelE.unset (e : RelE D sx H rho σ env) (i : Nat) : RelE D sx H rho (σ.set i none) (env.set i none) := by
  refine ⟨by simp [e.1], fun j u q => ?_⟩
  by_cases hj : i = j
  · subst hj
    by_cases hi : i < env.length
    · rw [List.getElem?_set_self hi] at q; cases q
    · rw [List.getElem?_eq_none (by simpa using hi)] at q; cases q
  · rw [List.getElem?_set_ne hj] at q ⊢
    exact e.2 j u q
inductive HdsP (D : Wd) (X : Cx) (C : Ctx) : List ExceptHandler → IHs → List HdS → Prop
  | nil : HdsP D X C [] .nil []
  | cons {x n : Str} {k i : Nat} {b₀ : Stmt} {suite : List Stmt} {ib : ISs} {np pos' : Pos} {hds : List ExceptHandler} {ih : IHs} {l : List HdS} (hi : X.N[i]? = some n) (hln : X.env.kindOf n = some .local) (hc : Names X x (.ref (D.xa k))) (hx : ∀ c, c < D.nx → PySem.W.exmOne X.K (.ref (D.xa c)) (.ref (D.xa k)) = some (C.sub c k))
      (hsu : ∀ (a : Addr) (oe : Obj) (cls : Value) (d : Option Addr) (pn : List (Addr × Obj)), Zc cls d oe → (∃ vs, oe.data = .fields vs) → PSs (X.suite a ((a, oe) :: pn)) (b₀ :: suite) (rdS D (some (a, cls, d)) noW (evSs C ib))) (r : HdsP D X C hds ih l) :
      HdsP D X C (.ExceptHandler (some (.Name x np)) (some n) (b₀ :: suite) pos' :: hds) (.cons k i ib ih) ((.ref (D.xa k), i, fun a cls d => rdS D (some (a, cls, d)) noW (evSs C ib)) :: l)
theorem HdsP.a {hds : List ExceptHandler} {ih : IHs} {l : List HdS} (h : HdsP D X C hds ih l) : HdsA X hds l := by
  induction h with
  | nil => exact .nil
  | cons hi hln hc hx hsu r ih => exact .cons hi hln hc hsu ih
theorem hds_ok {Wout : WX} {hds : List ExceptHandler} {ih : IHs} {l : List HdS} (hp : HdsP D X C hds ih l) {c : Nat} {t : T} {cls : Value} {d : Option Addr} (s1 : Step H rho H' rho') (A : At D none σ H' rho' env h) (x : ExR D H' rho' cls d c t) (q : outS D none Wout En H rho (evHs C ih c t env h)) : wAsM X.K Wout En l cls d σ H' := by
  induction hp with
  | nil => exact q σ H' rho' cls d s1 A x
  | @cons nx n k i b₀ suite ib np pos' hds ih l hi hln hc hx hsu r ihr =>
    obtain ⟨dd, v, lt, rfl, rfl, ed, pv⟩ := x
    refine ⟨C.sub c k, hx c lt, fun hb a na => ?_, fun hb => ?_⟩
    · have q1 : outS D none Wout En H rho (match evSs C ib (env.set i (some (.exn c t))) h with
        | .next e1 h1 => if plainE h1.length (e1.set i none) = true then .next (e1.set i none) h1 else .stuck
        | .cont e1 h1 => if plainE h1.length (e1.set i none) = true then .cont (e1.set i none) h1 else .stuck
        | .brk e1 h1 => if plainE h1.length (e1.set i none) = true then .brk (e1.set i none) h1 else .stuck
        | .ret m t h1 => .ret m t h1
        | _ => .stuck) := by
        have q0 : outS D none Wout En H rho (if C.sub c k = true then _ else _) := q
        rw [if_pos hb] at q0
        exact q0
      refine ⟨rho', _, h, ⟨(A.e.any (sx := some (a, .ref (D.xa c), some dd))).set i (.exn lt rfl ed pv.any), A.r⟩, ?_⟩
      cases hs : evSs C ib (env.set i (some (.exn c t))) h with
      | next e1 h1 =>
        rw [hs] at q1
        dsimp only at q1
        by_cases hp : plainE h1.length (e1.set i none) = true
        · rw [if_pos hp] at q1
          exact fun σ2 H2 r2 s2 A2 => q1 _ H2 r2 (s1.trans s2) ⟨(A2.e.unset i).plain A2.r.len hp, A2.r⟩
        · rw [if_neg hp] at q1; exact q1.elim
      | cont e1 h1 =>
        rw [hs] at q1
        dsimp only at q1
        by_cases hp : plainE h1.length (e1.set i none) = true
        · rw [if_pos hp] at q1
          exact fun σ2 H2 r2 s2 A2 => q1 _ H2 r2 (s1.trans s2) ⟨(A2.e.unset i).plain A2.r.len hp, A2.r⟩
        · rw [if_neg hp] at q1; exact q1.elim
      | brk e1 h1 =>
        rw [hs] at q1
        dsimp only at q1
        by_cases hp : plainE h1.length (e1.set i none) = true
        · rw [if_pos hp] at q1
          exact fun σ2 H2 r2 s2 A2 => q1 _ H2 r2 (s1.trans s2) ⟨(A2.e.unset i).plain A2.r.len hp, A2.r⟩
        · rw [if_neg hp] at q1; exact q1.elim
      | ret m t h1 =>
        rw [hs] at q1
        exact fun H2 r2 v s2 R2 p2 => q1 H2 r2 v (s1.trans s2) R2 p2
      | exc _ _ _ _ => rw [hs] at q1; exact q1.elim
      | stuck => rw [hs] at q1; exact q1.elim
    · refine ihr ?_
      have q0 : outS D none Wout En H rho (if C.sub c k = true then _ else evHs C ih c t env h) := q
      rw [if_neg (by rw [hb]; decide)] at q0
      exact q0
section
variable {body : List Stmt} {h₀ : ExceptHandler} {hds : List ExceptHandler} {l : List HdS} {pos : Pos} {ib : ISs} {ih : IHs}
theorem s_try (hs : X.stack = X.env :: X.outer) (hf : X.env.frame = some X.env.locals) (hN : X.N.Nodup) (tk : Takes X W)
    (hb : ∀ (W : WX) (pn : List (Addr × Obj)) (xe : Value → Shared → Prop), Takes (X.tr pn xe) W → PassesOwn (model X.prog X.w) X.A X.env xe → PSs (X.tr pn xe) body (rdS D none W (evSs C ib)))
    (hh : HdsP D X C (h₀ :: hds) ih l) : XS D X W C (.Try body (h₀ :: hds) [] [] pos) (.tr ib ih) :=
  PS_imp (ps_try_asM hs hf hN tk (tb := fun W => rdS D none W (evSs C ib)) hb hh.a) fun En σ H ⟨rho, env, h, A, q⟩ => by
    refine ⟨rho, env, h, A, ?_⟩
    have q' : outS D none W En H rho (match evSs C ib env h with
      | .exc c v e1 h1 => evHs C ih c v e1 h1
      | r => r) := q
    cases hr : evSs C ib env h with
    | exc c v e1 h1 =>
      rw [hr] at q'
      exact fun σ' H' r' cls d s' A' x => hds_ok hh s' A' x q'
    | next e1 h1 => rw [hr] at q'; exact q'
    | brk e1 h1 => rw [hr] at q'; exact q'
    | cont e1 h1 => rw [hr] at q'; exact q'
    | ret m t h1 => rw [hr] at q'; exact q'
    | stuck => rw [hr] at q'; exact q'
end
theorem x_fle {a : Addr} {oe : Obj} {cls : Value} {d : Option Addr} {pn : List (Addr × Obj)} {e : Expr} {ie : IE} {pos : Pos} {f : Nat} {n : Str} (T : ∀ c, c < D.nx → C.xi c = f → D.xf c = n ∧ XfC X.K (D.xa c) ∧ PySem.W.findIn X.K (.ref (D.xa c)) n = some none)
    (hz : Zc cls d oe) (hf : ∃ vs, oe.data = .fields vs) (he : PE (X.suite a ((a, oe) :: pn)) e (rdE D (some (a, cls, d)) noW (evE C ie))) (hb : attributeBase e n X.env (eval e X.env) = eval e X.env := by rfl) :
    PE (X.suite a ((a, oe) :: pn)) (.Attribute e n pos) (rdE D (some (a, cls, d)) noW (evE C (.fle ie f))) := by
  refine ⟨fun pins s σ H Q I ⟨rho, env, h, e1, r1, q⟩ => ?_⟩
  have hw := he.run pins s σ H (fun v H1 => ∃ c t rho1 h1, RelH D H1 rho1 h1 ∧ Rp D (some (a, cls, d)) H1 rho1 v (.exn c t) ∧ C.xi c = f ∧ ∀ w, Rp D (some (a, cls, d)) H1 rho1 w t → Q w H1) I ⟨rho, env, h, e1, r1, rd_bind ⟨e1, r1⟩ q fun t H' rho' h' v A s p q => by
    cases t with
    | exn c u =>
      have q' : outE D (some (a, cls, d)) noW σ H' rho' Q (if C.xi c = f then .ok u h' else .stuck) := q
      by_cases hc : C.xi c = f
      · rw [if_pos hc] at q'
        exact ⟨c, u, rho', h', A.r, p, hc, of_ok A q'⟩
      · rw [if_neg hc] at q'; exact q'.elim
    | _ => exact q.elim⟩
  refine attr_of hb (thn hw fun u s1 ⟨x, H1, I1, rx, c, t, rho1, h1, R1, p, hc, q1⟩ => ?_)
  cases p with
  | @exn _ dd _ v _ lt es ed pv =>
    cases es
    obtain ⟨en, T1, T2⟩ := T c lt hc
    obtain rfl : u = Value.ref a := rx
    obtain ⟨ha, _⟩ := I1.pin (a, oe) (List.mem_append_left _ List.mem_cons_self)
    obtain ⟨vs, hd⟩ := hf
    have hx : ObjOk X.prog X.w H1 s1.heap _ (.xd _) := I1.hok _ _ ed
    obtain ⟨mA, hns, hr⟩ := hx
    obtain ⟨od, ho, hl⟩ := lookIn_ns hns
    have l : List.lookup n [(D.xf c, v)] = some v := by rw [en]; simp [List.lookup]
    obtain ⟨w, hu, ru⟩ := RelO.some_of (v := v) (o := mA n) (by rw [← l]; exact hr n)
    have J : PySem.W.InstAt s1.heap a oe (D.xa c) (some od) := ⟨ha, hz.1, by unfold PySem.W.notCls; rw [hd] <;> rfl, by rw [hz.2]; exact ho⟩
    exact HandSPX.exc_get I1.kIn J T1.ga T1.gg T1.exC (PySem.W.findObj_own T1.hdC T2 rfl (by rw [hl, hu])) (handed_of ru) ⟨v, H1, I1.tok _, ru, q1 v pv⟩
def spR (D : Wd) (F : List T → AH → R T) : Sp := fun vs H Q E => ∃ rho h ts, RelH D H rho h ∧ RpL D none H rho vs ts ∧ outE D none (fun cls d _ H' => E cls d H') [] H rho Q (F ts h)
theorem outR_W {α : Type} {W' : WX} {Q : α → Hp → Rho → AH → Prop} (hw : ∀ cls d H', W cls d σ H' → W' cls d σ2 H') : ∀ {r : R α}, outR D W σ H rho Q r → outR D W' σ2 H rho Q r
  | .ok _ _, q => q
  | .exc _ _ _, q => fun H' r' cls d s R x => hw _ _ _ (q H' r' cls d s R x)
  | .stuck, q => q
theorem run_len {P : Prg} {k f : Nat} {fn : Fn} {ts : List T} {Q : VK} (hf : P.fns[f]? = some fn) (q : outE D none W σ H rho Q (runFn P k f ts h)) : ts.length = fn.np := by
  cases k with
  | zero => exact q.elim
  | succ k =>
    have q' : outE D none W σ H rho Q (match P.fns[f]? with
      | none => .stuck
      | some fn => if ts.length = fn.np then endR fn.gc h (endS fn.gc h.length (evSs ⟨runFn P k, h.length, P.sub, P.xi⟩ fn.body (ts.map some ++ List.replicate (fn.ns - fn.np) none) h)) else .stuck) := q
    rw [hf] at q'
    dsimp only at q'
    by_cases c : ts.length = fn.np
    · exact c
    · rw [if_neg c] at q'; exact q'.elim
theorem start_rel {N : List Str} {vs : List V} {ts : List T} (l : RpL D none H rho vs ts) : RelE D none H rho (L2.start N vs) (ts.map some ++ List.replicate (N.length - ts.length) none) := by
  refine ⟨by simp [L2.start, l.length], fun i t e => ?_⟩
  unfold L2.start
  by_cases hi : i < ts.length
  · rw [List.getElem?_append_left (by simpa using hi), List.getElem?_map] at e
    cases ht : ts[i]? with
    | none => rw [ht] at e; cases e
    | some u =>
      rw [ht] at e
      cases e
      obtain ⟨v, hv, p⟩ := l.get ht
      exact ⟨v, by rw [List.getElem?_append_left (by rw [List.length_map, l.length]; exact hi), List.getElem?_map, hv]; rfl, p⟩
  · rw [List.getElem?_append_right (by simpa using hi)] at e
    rw [List.getElem?_replicate] at e
    split at e <;> cases e
open Classical in
theorem end_ok {E : XK} {Q : VK} {gc : Bool} {r : RS} (R0 : RelH D H rho h) (q : outE D none (fun cls d _ H' => E cls d H') [] H rho Q (endR gc h (endS gc h.length r))) : outS D none (fun cls d _ H' => E cls d H') { nx := fun _ H' => Q .non H', rt := Q } H rho r := by
  have okk : ∀ {t : T} {h1 : AH} {H' : Hp} {rho' : Rho} {v : V}, outE D none (fun cls d _ H' => E cls d H') [] H rho Q (endR gc h (.ok t h1)) → Step H rho H' rho' → (gc = true → RelK D h.length H' rho' h1) → (gc = false → RelH D H' rho' h1) → Rp D none H' rho' v t → Q v H' := fun {t h1 H' rho' v} q s k1 k2 p => by
    cases gc with
    | true =>
      have q' : outE D none (fun cls d _ H' => E cls d H') [] H rho Q (if t.und h.length = true ∧ GcOk h h1 then .ok t (h1.take h.length) else .stuck) := q
      by_cases c : t.und h.length = true ∧ GcOk h h1
      · rw [if_pos c] at q'
        obtain ⟨R1, e1⟩ := gc_ok R0 s (k1 rfl) c.2
        have p' := p.cutR c.1
        rw [e1] at p'
        refine q' H' rho ⟨⟨s.k.1, [], by simp⟩, s.out, s.there, fun _ a b => absurd a b⟩ R1 v p'
      · rw [if_neg c] at q'; exact q'.elim
    | false => exact q H' rho' s (k2 rfl) v p
  cases r with
  | next e h1 => exact fun σ' H' r' s A => okk (v := .non) q s (fun _ => A.r.k _) (fun _ => A.r) .non
  | brk e h1 => cases gc <;> exact q.elim
  | cont e h1 => cases gc <;> exact q.elim
  | stuck => cases gc <;> exact q.elim
  | ret m t h1 =>
    intro H' r' v s RM p
    have q' : outE D none (fun cls d _ H' => E cls d H') [] H rho Q (endR gc h (if m = none ∨ (gc = true ∧ m = some h.length) then .ok t h1 else .stuck)) := q
    by_cases c : m = none ∨ (gc = true ∧ m = some h.length)
    · rw [if_pos c] at q'
      refine okk q' s (fun _ => ?_) (fun hg => ?_) p
      · cases m with
        | none => exact RelH.k RM _
        | some n =>
          rcases c with c | c
          · cases c
          · cases c.2; exact RM
      · rcases c with c | c
        · subst c; exact RM
        · rw [hg] at c; cases c.1
    · rw [if_neg c] at q'
      cases gc <;> exact q'.elim
  | exc c t e h1 =>
    intro σ' H' r' cls d s A x
    cases gc with
    | true =>
      have q' : outE D none (fun cls d _ H' => E cls d H') [] H rho Q (if t.und h.length = true ∧ GcOk h h1 then .exc c t (h1.take h.length) else .stuck) := q
      by_cases c0 : t.und h.length = true ∧ GcOk h h1
      · rw [if_pos c0] at q'
        obtain ⟨R1, e1⟩ := gc_ok R0 s (A.r.k _) c0.2
        obtain ⟨dd, v, lt, a, b, ed, pv⟩ := x
        have p' := pv.cutR c0.1
        rw [e1] at p'
        exact q' H' rho cls d ⟨⟨s.k.1, [], by simp⟩, s.out, s.there, fun _ a b => absurd a b⟩ R1 ⟨dd, v, lt, a, b, ed, p'⟩
      · rw [if_neg c0] at q'; exact q'.elim
    | false => exact q H' r' cls d s A.r x
end PS
end
section
set_option maxRecDepth 100000
set_option maxHeartbeats 2000000
namespace PS
open PySem PySem.Spec PyProof.Rows L2
variable {D : Wd} {X : Cx} {C : Ctx} {W : WX} {sx : Sx} {σ σ2 : L2.St} {H H' : Hp} {rho rho' : Rho} {env : Env} {h h' : AH} {pins : List (Addr × Obj)} {s : Shared} {En : Ends}

structure FnE (D : Wd) (P : Program) (w : World) (K : PySem.W.Frag) (mg : Str → Option Value) (base : Heap) (A : Around) (F : List T → AH → R T) (a : Addr) : Prop where
  ex : ∃ k fd ps, FnOk P w K mg base (L2.CX P w) k a fd ps (spR D F) ∧ Room k A ∧ Binds K fd ps []
structure FnM (D : Wd) (P : Program) (w : World) (K : PySem.W.Frag) (mg : Str → Option Value) (base : Heap) (A : Around) (F : List T → AH → R T) (a : Addr) : Prop where
  ex : ∃ k fd ps, FnOk P w K mg base (L2.CX P w) k a fd ps (spR D F) ∧ Room (k + 1) A ∧ Binds K fd ps []
section
variable {a e : Expr} {es : List Expr} {ia ie : IE} {l : IL} {x : Str} {p pos : Pos} {f c : Nat} {fa : Addr}
theorem x_call (F : FnE D X.prog X.w X.K X.mg X.base X.A (C.F f) fa) (tk : Takes X W) (hg : Gl X x) (hm : X.mg x = some (.ref fa)) (hk : PySem.W.keepIn X.K (.ref fa) = true) (ha : XL D X W C (e :: es) l)
    (hdb : (x == ("__debug__" : Str)) = false := by decide) (he : starEach (e :: es) X.env = (false, eval e X.env) :: starEach es X.env := by rfl) (hpl : (backTo pos (starEach es X.env)).any (·.1) = false := by rfl) :
    XP D X W C (.Call (.Name x p) (e :: es) [] pos) (.call f l) := by
  obtain ⟨k, fd, ps, F, hr, hb⟩ := F.ex
  exact PE_imp (pe_callS F hr hg hm hk hb (fun σ => passAt tk σ) ha hdb he hpl) fun σ H Q ⟨rho, env, h, e, r, q⟩ => ⟨rho, env, h, e, r, rd_bindL ⟨e, r⟩ q fun ts H' rho' h' vs A s p q => ⟨rho', h', ts, A.r, p, outR_W (fun _ _ _ w => w) q⟩⟩
theorem run_makeS {CX : CXT} {k : Nat} {f C : Addr} {fd : FuncData} {ps : List Str} {sp : Sp} {E : XK} {H : Hp} {Q : VK} {us : List Value} {vs : List V} (M : Mk X.K C f) (F : FnOk X.prog X.w X.K X.mg X.base CX k f fd ps sp) (hr : Room (k + 1) X.A) (hb : Binds X.K fd ps [])
    (hx : PassesAt CX X σ E) (I : Inv X pins σ H s) (r : Vals vs us)
    (h : ∀ x dx, H x = none → H dx = none → dx ≠ x → sp (.ref x :: vs) (upd (upd H dx (.own x)) x (.ins C dx [])) (fun v H2 => v = .non ∧ Q (.ref x) H2) E) :
    wpAny (model X.prog X.w) X.A (call (.ref C) us) (EP X pins σ Q) X.xe s := by
  have hq := h (s.heap.objs.size + 1) s.heap.objs.size (I.hok.fresh (Nat.le_succ _)) (I.hok.fresh (Nat.le_refl _)) (Nat.ne_of_lt (Nat.lt_succ_self _))
  have I2 := Inv.made (C := C) I
  have r2 : Vals (V.ref (s.heap.objs.size + 1) :: vs) (Value.ref (s.heap.objs.size + 1) :: us) := .cons rfl r
  have hl : (Value.ref (s.heap.objs.size + 1) :: us).length = ps.length := by
    have e := r2.length
    rw [F.len _ _ _ _ hq] at e
    exact e.symm
  have hbd := hb _ (Value.ref (s.heap.objs.size + 1) :: us) I2.kIn (by rw [List.append_nil]; exact hl)
  rw [List.append_nil] at hbd
  refine wpAny_call (make_map (f := f) I.kIn M.makes M.init (beq_iff_eq.mp M.fn) (codeAny_mono (F.run _ X.stack _ _ ⟨Value.ref (s.heap.objs.size + 1) :: us, []⟩ (Value.ref (s.heap.objs.size + 1) :: us) _ _ E (hr.make C us [])
    (I2.env0.make C us []) hbd r2 hq) fun r s' hq' => ?_))
  cases r with
  | error e => exact hx pins _ _ e s' I2 hq'
  | ok fl =>
    cases fl with
    | ret u =>
      obtain ⟨v, H', I3, rv, ev, q3⟩ := I2.after hq'
      subst ev
      exact ⟨rv, ⟨V.ref (s.heap.objs.size + 1), H', I3, rfl, q3⟩⟩
    | next => exact False.elim hq'
    | brk => exact False.elim hq'
    | cont => exact False.elim hq'
theorem x_mk (hc : c < D.nc) (M : Mk X.K (D.ca c) fa) (F : FnM D X.prog X.w X.K X.mg X.base X.A (C.F f) fa) (tk : Takes X W) (hg : Gl X x) (hm : X.mg x = some (.ref (D.ca c))) (ha : XL D X W C (e :: es) l)
    (hdb : (x == ("__debug__" : Str)) = false := by decide) (he : starEach (e :: es) X.env = (false, eval e X.env) :: starEach es X.env := by rfl) (hpl : (backTo pos (starEach es X.env)).any (·.1) = false := by rfl) :
    XP D X W C (.Call (.Name x p) (e :: es) [] pos) (.mk c f l) := by
  obtain ⟨k, fd, ps, F, hr, hb⟩ := F.ex
  refine ⟨fun pins s σ H Q I ⟨rho, env, h, e1, r, q⟩ => ?_⟩
  refine wpAny_Call_Name_kw (ld_glob I hg hm ?_ hdb)
  have hA := ha.run pos pins s σ H (fun vs H1 => ∃ rho1 h1 ts, RelH D H1 rho1 h1 ∧ RpL D none H1 rho1 vs ts ∧ outE D none W σ H1 rho1 Q ((C.F f (.ref h1.length :: ts) (h1 ++ [.obj c []])).bind fun r h2 => match r with
      | .non => .ok (.ref h1.length) h2
      | _ => .stuck)) I ⟨rho, env, h, e1, r, rd_bindL ⟨e1, r⟩ q fun ts H' rho' h' vs A s p q => ⟨rho', h', ts, A.r, p, q⟩⟩
  refine PySem.W.callWith_K (h₀ := X.base) I.ok.mod.kin M.kp (thn hA fun us s1 ⟨vs, H1, I1, rv, rho1, h1, ts, R1, l1, q1⟩ => ⟨I1.kIn, ?_⟩) he hpl
  refine run_makeS M F hr hb (passAt tk σ) I1 rv fun y dx ny ndx dne => ?_
  have ny2 : (upd H1 dx (.own y)) y = none := by rw [upd_ne (Ne.symm dne)]; exact ny
  have st1 : Step H1 rho1 (upd H1 dx (.own y)) rho1 := Step.new ndx
  have st2 : Step (upd H1 dx (.own y)) rho1 (upd (upd H1 dx (.own y)) y (.ins (D.ca c) dx [])) (rho1 ++ [y]) := Step.new' ny2
  have R2 : RelH D (upd (upd H1 dx (.own y)) y (.ins (D.ca c) dx [])) (rho1 ++ [y]) (h1 ++ [.obj c []]) := (R1.beside ndx).push ny2 ⟨dx, [], upd_same, hc, rfl, .nil⟩
  have py : (rho1 ++ [y])[h1.length]? = some y := by rw [← R1.len]; simp
  refine ⟨_, _, .ref h1.length :: ts, R2, .cons (.ref py) (l1.step (st1.trans st2)), ?_⟩
  generalize C.F f (.ref h1.length :: ts) (h1 ++ [.obj c []]) = rr at q1 ⊢
  cases rr with
  | stuck => exact q1
  | exc c2 t h2 => exact fun H2 rho2 cls d s2 R3 x3 => q1 H2 rho2 cls d ((st1.trans st2).trans s2) R3 x3
  | ok t h2 =>
    cases t with
    | non =>
      intro H2 rho2 s2 R3 v pv
      cases pv
      exact ⟨rfl, q1 H2 rho2 ((st1.trans st2).trans s2) R3 _ (.ref (s2.get py))⟩
    | _ => exact q1.elim
end

def tyV2 (D : Wd) : Ty → V
  | .int => .ty "int"
  | .bool => .ty "bool"
  | .str => .ty "str"
  | .tuple => .ty "tuple"
  | .list => .ty "list"
  | .cls c => .ref (D.ca c)
def tyU (D : Wd) : Ty → Value
  | .int => .type "int"
  | .bool => .type "bool"
  | .str => .type "str"
  | .tuple => .type "tuple"
  | .list => .type "list"
  | .cls c => .ref (D.ca c)
def tyLt (D : Wd) : Ty → Prop
  | .cls c => c < D.nc
  | _ => True
theorem clsV_ty : ∀ y : Ty, ClsV (tyV2 D y) (tyU D y)
  | .int => .ty _
  | .bool => .ty _
  | .str => .ty _
  | .tuple => .ty _
  | .list => .ty _
  | .cls _ => .own _
theorem isi_ok (O : Okx D X) {v : V} {t : T} {y : Ty} {b : Bool} (hy : tyLt D y) (R : RelH D H rho h) (p : Rp D none H rho v t) (e : isTy h t y = some b) : ∃ tt, TyX D.K H v tt ∧ PySem.W.kitOne D.K tt (tyU D y) = some b := by
  unfold isTy at e
  have hcls : ∀ c, y = .cls c → ∀ T ∈ ["NoneType", "bool", "int", "str", "tuple", "list"], PySem.W.kitOne D.K (.type T) (.ref (D.ca c)) = some false := fun c hc => by
    subst hc
    exact (O.cls c hy).kb
  cases p with
  | non =>
    cases e
    refine ⟨_, .base .non, ?_⟩
    cases y with
    | cls c => exact hcls c rfl _ (by simp)
    | _ => exact kit_ty (by decide +kernel)
  | bl x =>
    refine ⟨_, .base (.bl x), ?_⟩
    cases y with
    | cls c => cases e; exact hcls c rfl _ (by simp)
    | _ => cases e; exact kit_ty (by decide +kernel)
  | int x =>
    refine ⟨_, .base (.int x), ?_⟩
    cases y with
    | cls c => cases e; exact hcls c rfl _ (by simp)
    | _ => cases e; exact kit_ty (by decide +kernel)
  | str x =>
    refine ⟨_, .base (.str x), ?_⟩
    cases y with
    | cls c => cases e; exact hcls c rfl _ (by simp)
    | _ => cases e; exact kit_ty (by decide +kernel)
  | tup q l =>
    refine ⟨_, .base (.tup q), ?_⟩
    cases y with
    | cls c => cases e; exact hcls c rfl _ (by simp)
    | _ => cases e; exact kit_ty (by decide +kernel)
  | lst q l =>
    refine ⟨_, .base (.frz q), ?_⟩
    cases y with
    | cls c => cases e; exact hcls c rfl _ (by simp)
    | _ => cases e; exact kit_ty (by decide +kernel)
  | dK => cases e
  | dT => cases e
  | exn _ es _ _ => cases es
  | @ref a n r =>
    rw [snap_ref] at e
    cases hn : h[n]? with
    | none =>
      rw [hn] at e
      dsimp only at e
      rw [hn] at e
      cases e
    | some cl =>
      rw [hn] at e
      cases cl with
      | lst xs =>
        obtain ⟨vs, q, l⟩ := R.cell n _ _ r hn
        refine ⟨_, .base (.lst q), ?_⟩
        cases y with
        | cls c => cases e; exact hcls c rfl _ (by simp)
        | _ => cases e; exact kit_ty (by decide +kernel)
      | dct tk ks vs => cases e
      | obj c fs =>
        dsimp only at e
        rw [hn] at e
        obtain ⟨dx, gs, q, hb, f⟩ := R.cell n _ _ r hn
        have K := O.cls c hb
        refine ⟨_, .base (.ins q K.cl K.ha K.hn K.htk K.hm), ?_⟩
        cases y with
        | cls d => cases e; exact K.kk d hy
        | _ => cases e; exact K.kc _ (by simp)
section
variable {a e c : Expr} {es : List Expr} {ia ie : IE} {l : IL} {x : Str} {p pos : Pos}
theorem x_isi (O : Okx D X) {y : Ty} (hy : tyLt D y) (hg : Gl X "isinstance") (hm : X.mg "isinstance" = none) (ha : XP D X W C a ia) (hc : PE X c (tC (tyV2 D y)))
    (he : starEach [a, c] X.env = (false, eval a X.env) :: starEach [c] X.env := by rfl) (he2 : starEach [c] X.env = (false, eval c X.env) :: starEach [] X.env := by rfl) (hpl : (backTo pos (starEach [c] X.env)).any (·.1) = false := by rfl) :
    XP D X W C (.Call (.Name "isinstance" p) [a, c] [] pos) (.isi ia [y]) :=
  PE_imp (pe_callB call_isi hg hm (by rfl) (pa_cons ha (pa_cons hc pa_nil he2) he) (by decide) (by decide) he hpl) fun σ H Q ⟨rho, env, h, e, r, q⟩ => ⟨rho, env, h, e, r, rd_bind ⟨e, r⟩ q fun t H' rho' h' v A s p q => by
    obtain ⟨b, eb, q2⟩ := of_of q
    have eb' : isTy h' t y = some b := by
      have e2 : (match isTy h' t y with | some true => some true | some false => some false | none => none) = some b := eb
      cases hh : isTy h' t y with
      | none => rw [hh] at e2; cases e2
      | some k => rw [hh] at e2; cases k <;> exact e2
    obtain ⟨tt, t1, t2⟩ := isi_ok O hy A.r p eb'
    exact ⟨v, _, tt, _, b, rfl, clsV_ty y, O.K ▸ t1, O.K ▸ t2, val_ok A.r (.bl b) q2⟩⟩
theorem c_ty {x : Str} {T : String} {pos : Pos} (hg : Gl X x) (hm : X.mg x = none) (hv : bootBuiltins x = some (.type T)) (hn : x ≠ "__name__" := by decide) (hd : (x == ("__debug__" : Str)) = false := by decide) : PE X (.Name x pos) (tC (.ty T)) := pe_bltn hg hm hv rfl hn hd
theorem c_cls {x : Str} {c : Nat} {pos : Pos} (hg : Gl X x) (hm : X.mg x = some (.ref (D.ca c))) (hd : (x == ("__debug__" : Str)) = false := by decide) : PE X (.Name x pos) (tC (.ref (D.ca c))) := pe_glob hg hm rfl hd

theorem s_setf (O : Okx D X) {c f : Nat} {p' : Pos} (hj : ∀ i j, D.fl i = D.fl j → i = j) (hno : NoAttr D.K (D.ca c) (D.fl f)) (ha : XP D X W C a ia) (he : XP D X W C e ie) (hs : swapsWith e (some (.Attribute a (D.fl f) p')) pos.line X.env = pure false := by rfl) : XS D X W C (.Assign [.Attribute a (D.fl f) p'] e pos) (.setf ia c f ie) :=
  PS_imp (ps_fld ha he hs) fun En σ H ⟨rho, env, h, A, q⟩ => ⟨rho, env, h, A.e, A.r, rd_bind A (sR A q) fun t H' rho' h' v A' s p q => ⟨rho', env, h', A'.e, A'.r, rd_bind A' q fun o H2 rho2 h2 w A2 s2 p2 q2 => by
    cases o with
    | ref n =>
      have q3 : outR D W σ H2 rho2 (fun _ H' rho' h' => outS D none W En H' rho' (RS.next env h')) (match h2[n]? with
        | some (.obj c' fs) => if c' = c ∧ fs.length < 100 then .ok () (h2.set n (.obj c (putF f t fs))) else .stuck
        | _ => .stuck) := q2
      cases hn : h2[n]? with
      | none => rw [hn] at q3; exact q3.elim
      | some cl =>
        rw [hn] at q3
        cases cl with
        | obj c' fs =>
          dsimp only at q3
          by_cases hc : c' = c ∧ fs.length < 100
          · rw [if_pos hc] at q3
            obtain ⟨rfl, hl⟩ := hc
            obtain ⟨a, dx, gs, rfl, r2, hH, hb, fr⟩ := cell_obj A2.r p2 hn
            have hgl : gs.length = fs.length := by
              have := congrArg List.length fr.1
              simpa using this
            refine ⟨a, _, dx, gs, rfl, hH, O.K ▸ (O.cls _ hb).cl, O.K ▸ hno, by omega, ?_⟩
            have st : Step H2 rho2 (upd H2 a (.ins (D.ca c') dx (L2.putF (D.fl f) v gs))) rho2 := Step.set r2 hH rfl
            have fr2 := fr_put hj (p.step s2) (f := f) fr
            exact q3 _ rho2 st (A2.r.put r2 hH rfl ⟨dx, _, upd_same, hb, fr2.stepK st.k⟩) σ _ rho2 Step.rfl ⟨A2.e.step st, A2.r.put r2 hH rfl ⟨dx, _, upd_same, hb, fr2.stepK st.k⟩⟩
          · rw [if_neg hc] at q3; exact q3.elim
        | lst _ => exact q3.elim
        | dct _ _ _ => exact q3.elim
    | _ => exact q2.elim⟩⟩
end
end PS
end
section
set_option maxRecDepth 100000
set_option maxHeartbeats 2000000
namespace PS
open PySem PySem.Spec PyProof.Rows L2
variable {D : Wd} {X : Cx} {C : Ctx} {W : WX} {sx : Sx} {σ σ2 : L2.St} {H H' : Hp} {rho rho' : Rho} {env : Env} {h h' : AH} {pins : List (Addr × Obj)} {s : Shared} {En : Ends}
section
variable {a e o i : Expr} {es : List Expr} {ia ie io ii : IE} {l : IL} {x : Str} {p pos p' : Pos}

theorem fresh_dic {Q : VK} {m tk : Bool} {u : HO} (hu : u = if tk then .dT [] else .dK []) (R : RelH D H rho h) (q : outE D none W σ H rho Q (if m = true then .ok (.ref h.length) (h ++ [.dct tk [] []]) else .ok (.dct tk [] []) h)) {p : Addr} (n : H p = none) : FrzQ Q (.ref p) (upd H p u) := by
  cases m with
  | true =>
    rw [if_pos rfl] at q
    refine .inl (q _ (rho ++ [p]) (Step.new' n) (R.push n ?_) _ (.ref ?_))
    · cases tk with
      | false => subst hu; exact ⟨[], upd_same, rfl, .nil⟩
      | true => subst hu; exact ⟨[], upd_same, rfl, .nil⟩
    · rw [← R.len]; simp
  | false =>
    rw [if_neg (by decide)] at q
    refine .inr ⟨p, _, rfl, upd_same, ?_, fun ob => ?_⟩
    · cases tk <;> subst hu <;> rfl
    · rw [upd_upd]
      refine q _ rho (Step.new n) (R.beside n) _ ?_
      cases tk with
      | false => subst hu; exact .dK (kvs := []) upd_same rfl .nil
      | true => subst hu; exact .dT (kvs := []) upd_same rfl .nil
theorem x_dicK {m : Bool} : XP D X W C (.Dict [] [] pos) (.dic m false) :=
  PE_imp (PE_frz pe_dnewK) fun σ H Q ⟨rho, env, h, e, r, q⟩ p n => fresh_dic (tk := false) (m := m) rfl r q n
theorem x_dicT {m : Bool} : XP D X W C (.Dict [] [] pos) (.dic m true) :=
  PE_imp (PE_frz pe_dnewT) fun σ H Q ⟨rho, env, h, e, r, q⟩ p n => fresh_dic (tk := true) (m := m) rfl r q n

theorem put_gen {κ : Type} [DecidableEq κ] (f : κ → T) (g : κ → NestedKey) (hf : ∀ a, (f a).key = some (g a)) (hg : ∀ a b, g a = g b → a = b) (k : κ) {x : V} {t : T} (px : Rp D none H rho x t) (kvs : List (κ × V)) {ts : List T} (l : RpL D none H rho (kvs.map (·.2)) ts) :
    (∃ j, findK (g k) (kvs.map fun p => f p.1) = some j ∧ (putK kvs k x).map (fun p => f p.1) = kvs.map (fun p => f p.1) ∧ RpL D none H rho ((putK kvs k x).map (·.2)) (setK (g k) t (kvs.map fun p => f p.1) ts)) ∨
    (findK (g k) (kvs.map fun p => f p.1) = none ∧ (putK kvs k x).map (fun p => f p.1) = kvs.map (fun p => f p.1) ++ [f k] ∧ RpL D none H rho ((putK kvs k x).map (·.2)) (ts ++ [t])) := by
  rcases find_gen f g hf hg k kvs with ⟨j, v, h1, h2, h3⟩ | ⟨h1, h2⟩
  · obtain ⟨a1, a2⟩ := set_gen f g hf hg k px kvs l
    refine .inl ⟨j, h1, ?_⟩
    unfold putK
    rw [if_pos (any_some h3)]
    exact ⟨a1, a2⟩
  · refine .inr ⟨h1, ?_⟩
    unfold putK
    rw [if_neg (by rw [any_none h2]; decide)]
    refine ⟨by simp, ?_⟩
    rw [List.map_append]
    exact l.append (.cons px .nil)
def rSetT (D : Wd) : TSet := fun o i v H Q => ∃ (W : WX) (σ : L2.St) (rho : Rho) (h : AH) (t1 t2 t3 : T), RelH D H rho h ∧ Rp D none H rho o t1 ∧ Rp D none H rho i t2 ∧ Rp D none H rho v t3 ∧ outR D W σ H rho (fun _ H' _ _ => Q H') (setT t1 t2 t3 h)
theorem set_ok (O : Okx D X) : PSet X (rSetT D) := by
  intro pins s σ H o i v ov iv u Q I ro ri rv ⟨W, σ2, rho, h, t1, t2, t3, R, p1, p2, p3, q⟩
  cases t1 with
  | ref n =>
    have q' : outR D W σ2 H rho (fun _ H' _ _ => Q H') (match h[n]? with
      | some (.lst xs) => match t2 with
        | .int i => match L2.ixN xs.length i with
          | some j => .ok () (h.set n (.lst (xs.set j t3)))
          | none => .stuck
        | _ => .stuck
      | some (.dct tk ks vs) => match keyOk tk t2 with
        | some key => match findK key ks with
          | some _ => if ks.length < sizeLine then .ok () (h.set n (.dct tk ks (setK key t3 ks vs))) else .stuck
          | none => if ks.length < sizeLine then .ok () (h.set n (.dct tk (ks ++ [t2]) (vs ++ [t3]))) else .stuck
        | none => .stuck
      | _ => .stuck) := q
    cases hn : h[n]? with
    | none => rw [hn] at q'; exact q'.elim
    | some c =>
      rw [hn] at q'
      cases c with
      | obj c fs => exact q'.elim
      | lst xs =>
        cases t2 with
        | int k =>
          dsimp only at q'
          cases hj : L2.ixN xs.length k with
          | none => rw [hj] at q'; exact q'.elim
          | some j =>
            rw [hj] at q'
            obtain ⟨a, vs, rfl, r, hH, lv⟩ := cell_lst (t := .non) R p1 hn
            cases p2
            have st : Step H rho (upd H a (.lst (vs.set j v))) rho := Step.set r hH rfl
            exact set_list pins s σ H _ _ v ov iv u Q I ro ri rv ⟨a, vs, k, j, rfl, rfl, hH, by rw [lv.length]; exact hj, q' _ rho st (R.put r hH rfl ⟨_, upd_same, (lv.set p3 j).stepK st.k⟩)⟩
        | _ => exact q'.elim
      | dct tk ks vs =>
        dsimp only at q'
        cases hk : keyOk tk t2 with
        | none => rw [hk] at q'; exact q'.elim
        | some key =>
          rw [hk] at q'
          dsimp only at q'
          cases p1 with
          | @ref a _ r =>
          obtain rfl : ov = Value.ref a := ro
          cases tk with
          | false =>
            obtain ⟨ky, rfl, rfl⟩ := keyOk_false hk
            have ex := rp_keyT p2
            subst ex
            obtain ⟨kvs, hH, hks, l⟩ := R.cell n a _ r hn
            subst hks
            have st : ∀ u, Step H rho (upd H a u) rho := fun u => Step.set r hH rfl
            rcases put_gen keyT nk key_keyT (fun _ _ e => nk_inj e) ky p3 kvs l with ⟨j, h1, h2, h3⟩ | ⟨h1, h2, h3⟩
            · rw [h1] at q'
              dsimp only at q'
              by_cases hlt : (kvs.map fun p => keyT p.1).length < sizeLine
              · rw [if_pos hlt] at q'
                rw [List.length_map] at hlt
                exact d_setItem (by have := O.u; omega) I (.inl ⟨kvs, ky, hH, rfl, hlt, rfl⟩) ri rv fun s' I' => ⟨_, I', q' _ rho (st _) (R.put r hH rfl ⟨_, upd_same, h2.symm, h3.stepK (st _).k⟩)⟩
              · rw [if_neg hlt] at q'; exact q'.elim
            · rw [h1] at q'
              dsimp only at q'
              by_cases hlt : (kvs.map fun p => keyT p.1).length < sizeLine
              · rw [if_pos hlt] at q'
                rw [List.length_map] at hlt
                exact d_setItem (by have := O.u; omega) I (.inl ⟨kvs, ky, hH, rfl, hlt, rfl⟩) ri rv fun s' I' => ⟨_, I', q' _ rho (st _) (R.put r hH rfl ⟨_, upd_same, h2.symm, h3.stepK (st _).k⟩)⟩
              · rw [if_neg hlt] at q'; exact q'.elim
          | true =>
            obtain ⟨ky, rfl, rfl⟩ := keyOk_true hk
            cases p2 with
            | tup hq lk =>
              have ex := rpL_keyT lk
              subst ex
              obtain ⟨kvs, hH, hks, l⟩ := R.cell n a _ r hn
              subst hks
              have st : ∀ u, Step H rho (upd H a u) rho := fun u => Step.set r hH rfl
              rcases put_gen (fun k : List Key => T.tup (k.map keyT)) (fun k => .tup (k.map nk)) key_tup (fun _ _ e => nks_inj (by injection e)) ky p3 kvs l with ⟨j, h1, h2, h3⟩ | ⟨h1, h2, h3⟩
              · rw [h1] at q'
                dsimp only at q'
                by_cases hlt : (kvs.map fun p => T.tup (p.1.map keyT)).length < sizeLine
                · rw [if_pos hlt] at q'
                  rw [List.length_map] at hlt
                  exact d_setItem (by have := O.u; omega) I (.inr ⟨kvs, ky, _, hH, rfl, hq, hlt, rfl⟩) ri rv fun s' I' => ⟨_, I', q' _ rho (st _) (R.put r hH rfl ⟨_, upd_same, h2.symm, h3.stepK (st _).k⟩)⟩
                · rw [if_neg hlt] at q'; exact q'.elim
              · rw [h1] at q'
                dsimp only at q'
                by_cases hlt : (kvs.map fun p => T.tup (p.1.map keyT)).length < sizeLine
                · rw [if_pos hlt] at q'
                  rw [List.length_map] at hlt
                  exact d_setItem (by have := O.u; omega) I (.inr ⟨kvs, ky, _, hH, rfl, hq, hlt, rfl⟩) ri rv fun s' I' => ⟨_, I', q' _ rho (st _) (R.put r hH rfl ⟨_, upd_same, h2.symm, h3.stepK (st _).k⟩)⟩
                · rw [if_neg hlt] at q'; exact q'.elim
  | _ => exact q.elim
theorem s_seti (O : Okx D X) (ho : XP D X W C o io) (hi : XP D X W C i ii) (he : XP D X W C e ie) (ha : ∀ v, assign (.Subscript o i p') X.env v = (do
      let ov ← holding [v] (eval o X.env)
      let iv ← holding [v, ov] (eval i X.env)
      standAt p'
      holding [v, ov, iv] (setItem ov iv v)
      release [v, ov, iv] []) := by intro _; rfl) (hs : swapsWithSole [.Subscript o i p'] e pos.line X.env = pure false := by rfl) (hw : swappedStores [.Subscript o i p'] e X.env = pure none := by rfl)
    (h1 : (assignEach [.Subscript o i p'] X.env).map (·.2) = [assign (.Subscript o i p') X.env] := by rfl) : XS D X W C (.Assign [.Subscript o i p'] e pos) (.seti io ii ie) :=
  PS_imp (ps_asg he (pg_sub ho hi (set_ok O) ha) hs hw h1) fun En σ H ⟨rho, env, h, A, q⟩ => ⟨rho, env, h, A.e, A.r, rd_bind A (sR A q) fun t H1 rho1 h1 v A1 s1 p1 q1 => ⟨rho1, env, h1, A1.e, A1.r, rd_bind A1 q1 fun t2 H2 rho2 h2 v2 A2 s2 p2 q2 => ⟨rho2, env, h2, A2.e, A2.r, rd_bind A2 q2 fun t3 H3 rho3 h3 v3 A3 s3 p3 q3 =>
    ⟨W, σ, rho3, h3, t2, t3, t, A3.r, p2.step s3, p3, (p1.step s2).step s3, outR.mono (fun _ H4 r4 h4 s4 R4 q4 => q4 σ H4 r4 Step.rfl (A3.step s4 R4)) q3⟩⟩⟩⟩
theorem s_par {j k kt k2 : Nat} {x y : Str} {a b : Expr} {ia ib : IE} {px py pt pt2 : Pos} (hc : X.calm = true) (hN : X.N.Nodup) (hj : X.N[j]? = some x) (hk : X.N[k]? = some y) (hjk : j ≠ k)
    (hx : X.env.scope.names.lookup x = some .local) (hy : X.env.scope.names.lookup y = some .local) (ha : XL D X W C [a, b] (.cons ia (.cons ib .nil)))
    (hw : swappedStores [.Tuple [.Name x px, .Name y py] kt pt] (.Tuple [a, b] k2 pt2) X.env = pure (some [x, y]))
    (hs : swapsWithSole [.Tuple [.Name x px, .Name y py] kt pt] (.Tuple [a, b] k2 pt2) pos.line X.env = pure false := by rfl) :
    XS D X W C (.Assign [.Tuple [.Name x px, .Name y py] kt pt] (.Tuple [a, b] k2 pt2) pos) (.asg (.tp (.cons (.nm j) (.cons (.nm k) .nil))) (.tup (.cons ia (.cons ib .nil)))) :=
  PS_imp (ps_par hc hN hj hk hjk hx hy ha hw hs) fun En σ H ⟨rho, env, h, A, q⟩ => by
    refine ⟨rho, env, h, A.e, A.r, ?_⟩
    have q' : outS D none W En H rho (((evL C (.cons ia (.cons ib .nil)) env h).bind fun xs h1 => if xs.length ≤ sizeLine then R.ok (T.tup xs) h1 else .stuck).toS (fun c v h1 => .exc c v env h1) .stuck fun x h1 => match (TG.tp (.cons (.nm j) (.cons (.nm k) .nil))).asg x env with
      | some e1 => .next e1 h1
      | none => .stuck) := q
    have hl : ∀ {ts h1}, evL C (.cons ia (.cons ib .nil)) env h = .ok ts h1 → ∃ t u, ts = [t, u] := fun {ts h1} e => by
      have e' : (evE C ia env h).bind (fun x h1 => ((evE C ib env h1).bind fun y h2 => R.ok [y] h2).bind fun xs h2 => R.ok (x :: xs) h2) = .ok ts h1 := e
      cases e1 : evE C ia env h with
      | ok t h2 =>
        rw [e1] at e'
        have e' : ((evE C ib env h2).bind fun y h2 => R.ok [y] h2).bind (fun xs h2 => R.ok (t :: xs) h2) = .ok ts h1 := e'
        cases e2 : evE C ib env h2 with
        | ok u h3 => rw [e2] at e'; cases e'; exact ⟨t, u, rfl⟩
        | exc _ _ _ => rw [e2] at e'; cases e'
        | stuck => rw [e2] at e'; cases e'
      | exc _ _ _ => rw [e1] at e'; cases e'
      | stuck => rw [e1] at e'; cases e'
    cases hr : evL C (.cons ia (.cons ib .nil)) env h with
    | exc c t h1 => rw [hr] at q'; exact fun H' r' cls d s R x => q' σ H' r' cls d s (A.step s R) x
    | stuck => rw [hr] at q'; exact q'
    | ok ts h1 =>
      rw [hr] at q'
      obtain ⟨t, u, rfl⟩ := hl hr
      have hz : ([t, u] : List T).length ≤ sizeLine := by rw [sizeLine_eq]; show 2 ≤ 16777216; decide
      have q2 : outS D none W En H rho ((if ([t, u] : List T).length ≤ sizeLine then R.ok (T.tup [t, u]) h1 else .stuck).toS (fun c v h1 => .exc c v env h1) .stuck fun x h1 => match (TG.tp (.cons (.nm j) (.cons (.nm k) .nil))).asg x env with
        | some e1 => .next e1 h1
        | none => .stuck) := q'
      rw [if_pos hz] at q2
      intro H1 rho1 s1 R1 vs l
      obtain ⟨v, w, rfl, pv, pw⟩ := rpl2 l
      exact ⟨v, w, rfl, q2 _ H1 rho1 s1 ⟨((A.e.step s1).set j pv).set k pw, R1⟩⟩

theorem x_kin {n : Bool} {k : Nat} {zs : List Str} {d : Addr} {es : Array DictEntry} {m : Nat} (hK : KDict X.K X.w d es m) (hz : ∀ z, ∃ r, PySem.W.nsIn X.K d z = some r ∧ r.isSome = zs.contains z) (ha : XP D X W C a ia) {b : Expr} (hb : PE X b (tC (.ref d)))
    (hm : behindInMarks (if n then .NotIn else .In) b = false) : XP D X W C (.Compare a [if n then .NotIn else .In] [b] pos) (.kin n k zs ia) := by
  cases n with
  | false =>
    refine PE_imp (pe_cmpR (op_in_kd hK) ha hb hm) fun σ H Q ⟨rho, env, h, e, r, q⟩ => ⟨rho, env, h, e, r, rd_bind ⟨e, r⟩ q fun t H' rho' h' v A s p q => ?_⟩
    cases t with
    | str z =>
      cases p
      obtain ⟨r, h1, h2⟩ := hz z
      have q2 := val_ok A.r (.bl _) q
      refine ⟨z, r, rfl, rfl, h1, ?_⟩
      rw [h2]
      simpa using q2
    | _ => exact q.elim
  | true =>
    refine PE_imp (pe_cmpR (op_notIn_kd hK) ha hb hm) fun σ H Q ⟨rho, env, h, e, r, q⟩ => ⟨rho, env, h, e, r, rd_bind ⟨e, r⟩ q fun t H' rho' h' v A s p q => ?_⟩
    cases t with
    | str z =>
      cases p
      obtain ⟨r, h1, h2⟩ := hz z
      have q2 := val_ok A.r (.bl _) q
      refine ⟨z, r, rfl, rfl, h1, ?_⟩
      rw [h2]
      simpa using q2
    | _ => exact q.elim
theorem b_kin {n : Bool} {k : Nat} {zs : List Str} {d : Addr} {es : Array DictEntry} {m : Nat} (hK : KDict X.K X.w d es m) (hz : ∀ z, ∃ r, PySem.W.nsIn X.K d z = some r ∧ r.isSome = zs.contains z) (ha : XP D X W C a ia) {b : Expr} (hb : PE X b (tC (.ref d)))
    (hm : behindInMarks (if n then .NotIn else .In) b = false) : XB D X W C (.Compare a [if n then .NotIn else .In] [b] pos) (.kin n k zs ia) := by
  have key : ∀ {σ H} {Q : Bool → Hp → Prop}, rdB D none W (evB C (.kin n k zs ia)) σ H Q → rdE D none W (evE C ia) σ H (fun x H1 => ∃ z, x = .str z ∧ Q (n != zs.contains z) H1) := fun {σ H Q} ⟨rho, env, h, e, r, q⟩ => by
    have q' : outR D W σ H rho (fun b H' _ _ => Q b H') (((evE C ia env h).bind fun x h1 => match x with
      | .str z => R.ok (.bl (n != zs.contains z)) h1
      | _ => .stuck).isB) := q
    have q2 : outR D W σ H rho (fun b H' _ _ => Q b H') ((evE C ia env h).bind fun x h1 => (match x with
      | .str z => R.ok (T.bl (n != zs.contains z)) h1
      | _ => .stuck).isB) := by
      generalize evE C ia env h = rr at q' ⊢
      cases rr <;> exact q'
    refine ⟨rho, env, h, e, r, rd_bind ⟨e, r⟩ q2 fun t H' rho' h' v A s p q => ?_⟩
    cases t with
    | str z => cases p; exact ⟨z, rfl, of_ok A q⟩
    | _ => exact q.elim
  cases n with
  | false =>
    refine PT_imp (pt_cmpR (op_in_kd hK) ha hb hm) fun σ H Q q => ?_
    obtain ⟨rho, env, h, e, r, q⟩ := key q
    refine ⟨rho, env, h, e, r, outR.mono (fun t H' r' h' s R q v p => ?_) q⟩
    obtain ⟨z, rfl, q⟩ := q v p
    obtain ⟨r, h1, h2⟩ := hz z
    refine ⟨z, r, rfl, rfl, h1, _, rfl, ?_⟩
    rw [h2]
    simpa using q
  | true =>
    refine PT_imp (pt_cmpR (op_notIn_kd hK) ha hb hm) fun σ H Q q => ?_
    obtain ⟨rho, env, h, e, r, q⟩ := key q
    refine ⟨rho, env, h, e, r, outR.mono (fun t H' r' h' s R q v p => ?_) q⟩
    obtain ⟨z, rfl, q⟩ := q v p
    obtain ⟨r, h1, h2⟩ := hz z
    refine ⟨z, r, rfl, rfl, h1, _, rfl, ?_⟩
    rw [h2]
    simpa using q
theorem x_kget {k : Nat} {zs : List (Str × T)} {d : Addr} {es : Array DictEntry} {m : Nat} (hK : KDict X.K X.w d es m) (hz : ∀ z t, zs.lookup z = some t → ∃ i u tk, t = .int i ∧ PySem.W.nsIn X.K d z = some (some u) ∧ u = .int i tk) (hb : PE X a (tC (.ref d))) (hi : XP D X W C i ii) (hs : PlainIx i := by intro _ _; rfl) :
    XP D X W C (.Subscript a i pos) (.kget k zs ii) :=
  PE_imp (pe_ix ix_kdict hb hi hs) fun σ H Q ⟨rho, env, h, e, r, q⟩ => ⟨rho, env, h, e, r, rd_bind ⟨e, r⟩ q fun t H' rho' h' v A s p q => by
    cases t with
    | str z =>
      cases p
      obtain ⟨u, eu, q2⟩ := of_of1 q
      obtain ⟨n, w, tk, rfl, h1, rfl⟩ := hz z u eu
      exact ⟨d, z, .int n, rfl, rfl, ⟨es, m, _, hK.at_, hK.lit, h1, ⟨tk, rfl⟩⟩, val_ok A.r (.int n) q2⟩
    | _ => exact q.elim⟩
end
end PS
end
section
set_option maxRecDepth 100000
set_option maxHeartbeats 2000000
namespace PS
open PySem PySem.Spec PyProof.Rows L2
variable {D : Wd} {X : Cx} {C : Ctx} {W : WX} {sx : Sx} {σ σ2 : L2.St} {H H' : Hp} {rho rho' : Rho} {env : Env} {h h' : AH} {pins : List (Addr × Obj)} {s : Shared} {En : Ends}

abbrev wB (E : XK) : WX := fun cls d _ H => E cls d H
theorem fn_ok {P : Prg} {prog : Program} {w : World} {K : PySem.W.Frag} {mg : Str → Option Value} {base : Heap} {f : Nat} {fn : Fn} (hf : P.fns[f]? = some fn) {x qual : Str} {params : Arguments} {body : List Stmt} {scope : Scope} {dvs : List V} {kws : List (Str × V)} {a : Addr} {fd : FuncData}
    (F : FunD K x qual params body scope dvs kws a fd) {N ps : List Str} (S : FnScope N ps scope) (hN : N.length = fn.ns) (hps : ps.length = fn.np) (k j : Nat)
    (walk : ∀ (cdv : Value) (A : Around) (outer : List PySem.Env) (s : Shared) (H : Hp) (E : XK) (n0 : Nat), Room j (A.deeper (envOfC qual scope s.heap.objs.size a cdv)) →
      XSs D (cxOf (L2.CX prog w) prog w K mg base N qual scope a cdv A outer s H E) (wB E) ⟨runFn P k, n0, P.sub, P.xi⟩ body fn.body) :
    FnOk prog w K mg base (L2.CX prog w) (j + 1) a fd ps (spR D (runFn P (k + 1) f)) := by
  refine FunD.ok F S (fun vs H Q E ⟨rho, h, ts, R, l, q⟩ => ?_) fun cdv A outer s H vs Q E hr ⟨rho, h, ts, R, l, q⟩ => ⟨_, walk cdv A outer s H E h.length hr, rho, _, h, ⟨start_rel l, R⟩, ?_⟩
  · rw [l.length, run_len hf q, hps]
  · have hl := run_len hf q
    have q' : outE D none (wB E) [] H rho Q (match P.fns[f]? with
      | none => .stuck
      | some fn => if ts.length = fn.np then endR fn.gc h (endS fn.gc h.length (evSs ⟨runFn P k, h.length, P.sub, P.xi⟩ fn.body (ts.map some ++ List.replicate (fn.ns - fn.np) none) h)) else .stuck) := q
    rw [hf] at q'
    dsimp only at q'
    rw [if_pos hl] at q'
    have e := end_ok R q'
    rw [hN, hl]
    exact e
theorem fn_ok0 {P : Prg} {prog : Program} {w : World} {K : PySem.W.Frag} {mg : Str → Option Value} {base : Heap} {f j : Nat} {a : Addr} {fd : FuncData} {ps : List Str} : FnOk prog w K mg base (L2.CX prog w) j a fd ps (spR D (runFn P 0 f)) :=
  ⟨fun vs H Q E ⟨rho, h, ts, R, l, q⟩ => q.elim, fun _ _ _ _ _ _ _ _ _ _ _ _ _ ⟨rho, h, ts, R, l, q⟩ => q.elim⟩
theorem err_ok {prog : Program} {w : World} {K : PySem.W.Frag} {mg : Str → Option Value} {base : Heap} {c : Nat} {x qual f vn : Str} {params : Arguments} {scope : Scope} {p1 p2 p3 pos : Pos} {kws : List (Str × V)} {dvs : List V} {a : Addr} {fd : FuncData}
    (F : FunD K x qual params [.Assign [.Attribute (.Name "self" p1) f p2] (.Name vn p3) pos] scope dvs kws a fd) (S : FnScope ["self", vn] ["self", vn] scope) (hf : D.xf c = f) (oc : OexC K (D.xa c)) (hno : PySem.W.findIn K (.ref (D.xa c)) f = some none)
    (v1 : Vis scope "self") (v2 : Vis scope vn) (hd : (vn == ("__debug__" : Str)) = false := by decide) (hcd : (vn == ("__classdict__" : Str)) = false := by decide) :
    FnOk prog w K mg base (L2.CX prog w) 1 a fd ["self", vn] (spX D c) := by
  refine FunD.ok F S (fun vs H Q E ⟨a, v, e, _⟩ => by rw [e]; rfl) fun cdv A outer s H vs Q E hr ⟨a, v, e, ea, q⟩ => ⟨_, pss_one (ps_ost (pe_var (i := 0) rfl v1) (pe_var (i := 1) rfl v2 hd hcd)), ?_⟩
  subst e
  refine ⟨v, rfl, .ref a, rfl, a, D.xa c, rfl, oc, hno, .inl ⟨ea, fun dx n1 n2 => ?_⟩⟩
  rw [← hf]
  exact q dx n1 n2

theorem view_rd (R : RelH D H rho h) {v : V} {t : T} {xs : List T} (x : Rp D none H rho v t) (e : isList h t = some xs) : ∃ a vs, v = .ref a ∧ Rd H a (.lst vs) ∧ RpL D none H rho vs xs := by
  unfold isList at e
  cases x with
  | lst q l =>
    simp only [snap] at e
    cases e
    exact ⟨_, _, rfl, .inr ⟨_, q⟩, l⟩
  | @ref a n q =>
    rw [snap_ref] at e
    cases hn : h[n]? with
    | none => rw [hn] at e; cases e
    | some c =>
      rw [hn] at e
      cases c with
      | lst ys =>
        cases e
        obtain ⟨vs, q1, l⟩ := R.cell n a _ q hn
        exact ⟨_, _, rfl, .inl q1, l⟩
      | dct tk ks vs => cases e
      | obj c fs => cases e
  | _ => cases e
theorem bm_extend (O : Okx D X) {m : Bool} : MtR X "list.extend" (rBm D m .extend) := by
  intro pins s σ H x xs v us Q I rx rs ⟨W, σ2, rho, h, t, ts, R, px, l, q⟩
  match ts, l, q with
  | [y], l, q =>
    obtain ⟨v1, rfl, p1⟩ := rpl1 l
    cases t with
    | ref n =>
      have q' : outE D none W σ2 H rho Q (match h[n]? with
        | some (.lst xs) => match isList h y with
          | some zs => if xs.length + zs.length ≤ sizeLine ∧ watchV y ≠ some n then .ok .non (h.set n (.lst (xs ++ zs))) else .stuck
          | none => .stuck
        | _ => .stuck) := q
      cases hn : h[n]? with
      | none => rw [hn] at q'; exact q'.elim
      | some c =>
        rw [hn] at q'
        cases c with
        | lst zs =>
          dsimp only at q'
          cases hs : isList h y with
          | none => rw [hs] at q'; exact q'.elim
          | some ys =>
            rw [hs] at q'
            dsimp only at q'
            by_cases c : zs.length + ys.length ≤ sizeLine ∧ watchV y ≠ some n
            · rw [if_pos c] at q'
              obtain ⟨a, vs, rfl, r, hH, lv⟩ := cell_lst (t := .non) R px hn
              obtain ⟨b, ws, rfl, hb, lw⟩ := view_rd R p1 hs
              cases rx
              obtain ⟨u, rfl, ru⟩ := L2.Vals.one rs
              cases ru
              have q2 := put_lst R r hH rfl (lv.append lw) .non q'
              obtain ⟨z, its, nn, rr, hl, e⟩ := I.lstM hH
              have c1 := c.1
              have l1 := lv.length
              have l2 := lw.length
              have fin : ∀ (its2 : List Value), Vals ws its2 → EP X pins σ Q .none { s with heap := s.heap.update a (Obj.mapSeq (· ++ its2.toArray)), toks := s.toks } := fun its2 r2 =>
                ⟨.non, _, I.lset (its' := its ++ its2) hH e (by simp) (rr.append r2) (by rw [List.length_append]; omega), rfl, q2⟩
              obtain ⟨z2, its2, n2, r2, e2⟩ := hb.ok I.hok
              have hl2 := r2.length
              have hsz : its.toArray.size + its2.toArray.size ≤ sizeLine := by rw [List.size_toArray, List.size_toArray]; omega
              have hlong : ¬ (!its.toArray.isEmpty && Builtin.List.listTooLong (its.toArray.size + its2.toArray.size)) = true := by
                rw [notLongL hsz, Bool.and_false]
                exact Bool.false_ne_true
              exact call_meets PySem.F.slot_list_extend ⟨_, e, rfl⟩ PySem.F.entry_list_extend (PySem.F.args_list_extend_2 _ _)
                (AutoSeq1.list_extend_list_list_0 a its.toArray nn b its2.toArray n2 hlong (by rw [List.size_toArray]; omega) (by omega)) ⟨e, e2, fin its2 r2⟩
            · rw [if_neg c] at q'; exact q'.elim
        | dct tk ks vs => exact q'.elim
        | obj c fs => exact q'.elim
    | _ => exact q.elim
  | [], _, q => exact q.elim
  | t :: _ :: _, _, q => exact q.elim
end PS
end
section
set_option maxRecDepth 100000
set_option maxHeartbeats 2000000
namespace PS
open PySem PySem.Spec PyProof.Rows L2
variable {D : Wd} {X : Cx} {C : Ctx} {W : WX} {sx : Sx} {σ σ2 : L2.St} {H H' : Hp} {rho rho' : Rho} {env : Env} {h h' : AH} {pins : List (Addr × Obj)} {s : Shared} {En : Ends}
theorem Okx.of {X' : Cx} (O : Okx D X) (h1 : X'.K = X.K) (h2 : X'.A = X.A) : Okx D X' := ⟨O.K.trans h1.symm, by rw [h2]; exact O.u, O.cls⟩
theorem x_bad {e : Expr} : PE X e (rdE D sx W (evE C .bad)) := ⟨fun pins s σ H Q I ⟨rho, env, h, e, r, q⟩ => q.elim⟩
theorem b_bad {e : Expr} : XB D X W C e .bad := ⟨fun pins s σ H Q I ⟨rho, env, h, e, r, q⟩ => q.elim⟩
theorem s_bad {e : Stmt} : PS X e (rdS D sx W (evS C .bad)) := ⟨fun pins s σ H Q I ⟨rho, env, h, A, q⟩ => q.elim⟩
theorem x_gi {x : Str} {k : Nat} {i : Int} {pos : Pos} (hg : Gl X x) (hm : ∃ t, X.mg x = some (.int i t)) (hd : (x == ("__debug__" : Str)) = false := by decide) : XP D X W C (.Name x pos) (.glb k (.int i)) := by
  obtain ⟨t, hm⟩ := hm
  exact x_gint hg hm ⟨t, rfl⟩ hd
theorem x_gs {x : Str} {k : Nat} {i : Str} {pos : Pos} (hg : Gl X x) (hm : ∃ t, X.mg x = some (.str i t)) (hd : (x == ("__debug__" : Str)) = false := by decide) : XP D X W C (.Name x pos) (.glb k (.str i)) := by
  obtain ⟨t, hm⟩ := hm
  exact x_gstr hg hm ⟨t, rfl⟩ hd
theorem c_cls2 {x : Str} {d : Addr} {pos : Pos} (hg : Gl X x) (hm : X.mg x = some (.ref d)) (hd : (x == ("__debug__" : Str)) = false := by decide) : PE X (.Name x pos) (tC (.ref d)) := pe_glob hg hm rfl hd
theorem x_kinE {a : Expr} {ia : IE} {pos : Pos} {n : Bool} {k : Nat} {zs : List Str} {d : Addr} (hK : ∃ es m, KDict X.K X.w d es m) (hz : ∀ z, ∃ r, PySem.W.nsIn X.K d z = some r ∧ r.isSome = zs.contains z) (ha : XP D X W C a ia) {b : Expr} (hb : PE X b (tC (.ref d)))
    (hm : behindInMarks (if n then .NotIn else .In) b = false) : XP D X W C (.Compare a [if n then .NotIn else .In] [b] pos) (.kin n k zs ia) := by
  obtain ⟨es, m, hK⟩ := hK
  exact x_kin hK hz ha hb hm
theorem b_kinE {a : Expr} {ia : IE} {pos : Pos} {n : Bool} {k : Nat} {zs : List Str} {d : Addr} (hK : ∃ es m, KDict X.K X.w d es m) (hz : ∀ z, ∃ r, PySem.W.nsIn X.K d z = some r ∧ r.isSome = zs.contains z) (ha : XP D X W C a ia) {b : Expr} (hb : PE X b (tC (.ref d)))
    (hm : behindInMarks (if n then .NotIn else .In) b = false) : XB D X W C (.Compare a [if n then .NotIn else .In] [b] pos) (.kin n k zs ia) := by
  obtain ⟨es, m, hK⟩ := hK
  exact b_kin hK hz ha hb hm
theorem x_kgetE {a i : Expr} {ii : IE} {pos : Pos} {k : Nat} {zs : List (Str × T)} {d : Addr} (hK : ∃ es m, KDict X.K X.w d es m) (hz : ∀ z t, zs.lookup z = some t → ∃ i u tk, t = .int i ∧ PySem.W.nsIn X.K d z = some (some u) ∧ u = .int i tk) (hb : PE X a (tC (.ref d))) (hi : XP D X W C i ii) (hs : PlainIx i := by intro _ _; rfl) :
    XP D X W C (.Subscript a i pos) (.kget k zs ii) := by
  obtain ⟨es, m, hK⟩ := hK
  exact x_kget hK hz hb hi hs
def eqoR (F : List T → AH → R T) (c n : Nat) (y : T) (h : AH) : R T := match h[n]? with
  | some (.obj c' _) => if c' = c ∧ eqOk h y = true then ((F [.ref n, y] h).nox).bind fun r h3 => match r with
    | .bl k => .ok (.bl (false != k)) h3
    | _ => .stuck else .stuck
  | _ => .stuck
theorem looks_rp (O : Okx D X) {c : Nat} (hc : c < D.nc) {y : V} {u : Value} {t : T} (I : Inv X pins σ H s) (R : RelH D H rho h) (ry : RelV y u) (p : Rp D none H rho y t) (e : eqOk h t = true) :
    ∃ tb, PySem.W.Looks (model X.prog X.w) s.heap (typeOf u) tb ∧ PySem.W.notFirst X.K (D.ca c) tb = true := by
  have nf := O.K ▸ (O.cls c hc).nf
  have ty : ∀ {T : String}, (∀ s' : Shared, (∀ b o, s.heap.get? b = some o → s'.heap.get? b = some o) → s'.TypeIs u T) → T ∈ ["NoneType", "bool", "int", "str", "tuple", "list"] → ∃ tb, PySem.W.Looks (model X.prog X.w) s.heap (typeOf u) tb ∧ PySem.W.notFirst X.K (D.ca c) tb = true := fun {T} hT hm =>
    ⟨.type T, fun A Q E s' k q => wpAny_typeOf (hT s' k) q, nf T hm⟩
  cases p with
  | non => cases ry; exact ty (T := "NoneType") (fun s' _ => rfl) (by simp)
  | bl b => cases ry; exact ty (T := "bool") (fun s' _ => rfl) (by simp)
  | int i => obtain ⟨t, rfl⟩ := ry; exact ty (T := "int") (fun s' _ => typeIs_int s' i t) (by simp)
  | str x => obtain ⟨t, rfl⟩ := ry; exact ty (T := "str") (fun s' _ => typeIs_str s' x t) (by simp)
  | tup q l =>
    cases ry
    obtain ⟨its, rv, ht, hz⟩ := I.tuple (SqT.of q)
    obtain ⟨o, ho, hcl, hd⟩ := ht
    exact ty (T := "tuple") (fun s' k => ⟨o, k _ _ ho, hcl⟩) (by simp)
  | lst q l =>
    cases ry
    obtain ⟨its, rv, pl, hz⟩ := I.list (.inl (.inr ⟨_, q⟩))
    obtain ⟨o, n, ho, hcl, hd⟩ := pl
    exact ty (T := "list") (fun s' k => ⟨o, k _ _ ho, hcl⟩) (by simp)
  | dK => cases e
  | dT => cases e
  | exn _ es _ _ => cases es
  | @ref a n r =>
    cases ry
    unfold eqOk at e
    rw [snap_ref] at e
    cases hn : h[n]? with
    | none => rw [hn] at e; dsimp only at e; rw [hn] at e; cases e
    | some cl =>
      rw [hn] at e
      cases cl with
      | lst xs =>
        obtain ⟨vs, q, l⟩ := R.cell n _ _ r hn
        obtain ⟨its, rv, pl, hz⟩ := I.list (SqL.of q)
        obtain ⟨o, n, ho, hcl, hd⟩ := pl
        exact ty (T := "list") (fun s' k => ⟨o, k _ _ ho, hcl⟩) (by simp)
      | dct tk ks vs => cases e
      | obj c2 fs =>
        obtain ⟨dx, gs, q, hb, f⟩ := R.cell n _ _ r hn
        obtain ⟨mA, J, _⟩ := ins_get I.hok q
        obtain ⟨od, J, _⟩ := J.look
        exact ⟨_, J.type, O.K ▸ (O.cls c hc).nfc c2 hb⟩
theorem op_eqo (O : Okx D X) {c : Nat} {fa : Addr} {F : List T → AH → R T} (hlt : c < D.nc) (FE : FnE D X.prog X.w X.K X.mg X.base X.A (fun ts h => (F ts h).nox) fa) (hs : PySem.W.findIn X.K (.ref (D.ca c)) "__eq__" = some (some (.ref fa))) (hf : PySem.W.isFn X.K (.ref fa) = true) :
    OpR X (compareOp .Eq) (fun x y H Q => ∃ (W : WX) (σ : L2.St) (rho : Rho) (h : AH) (n : Nat) (t : T), RelH D H rho h ∧ Rp D none H rho x (.ref n) ∧ Rp D none H rho y t ∧ outE D none W σ H rho Q (eqoR F c n t h)) := by
  intro pins s σ H x y v u Q I rx ry ⟨W, σ2, rho, h, n, t, R, px, py, q⟩
  show wpAny (model X.prog X.w) X.A (richCompare .Eq v u) (EP X pins σ Q) X.xe s
  unfold eqoR at q
  cases hn : h[n]? with
  | none => rw [hn] at q; exact q.elim
  | some cl =>
    rw [hn] at q
    cases cl with
    | lst _ => exact q.elim
    | dct _ _ _ => exact q.elim
    | obj c' fs =>
      dsimp only at q
      by_cases hc : c' = c ∧ eqOk h t = true
      · rw [if_pos hc] at q
        obtain ⟨rfl, he⟩ := hc
        obtain ⟨a, dx, gs, rfl, r2, hH, hb, fr⟩ := cell_obj R px hn
        obtain rfl : v = Value.ref a := rx
        obtain ⟨tb, lk, nf⟩ := looks_rp O hlt I R ry py he
        obtain ⟨mA, J, _⟩ := ins_get I.hok hH
        obtain ⟨od, J, _⟩ := J.look
        obtain ⟨m, hF⟩ := I.fr
        refine PySem.W.cmp_K (op := .Eq) (tb := tb) (by have := O.u; omega) hF I.ok.mod.kin J lk nf hs hf ?_
        obtain ⟨k, fd, ps, Fn, hr, hbd⟩ := FE.ex
        have run := run_fnS (E := WE noW) (Q := fun w H' => ∃ k, w = .bl k ∧ Q (.bl k) H') Fn hr hbd (passAt takes_none5 σ) I (.cons rfl (.cons ry .nil)) (vs := [.ref a, y]) ⟨rho, h, [.ref n, t], R, .cons px (.cons py .nil), by
          show outE D none _ [] H rho _ ((F [.ref n, t] h).nox)
          generalize F [.ref n, t] h = rr at q ⊢
          cases rr with
          | stuck => exact q
          | exc c v h1 => exact q
          | ok w h1 =>
            intro H' rho' s' R' v pv
            cases w with
            | bl k =>
              cases pv
              refine ⟨k, rfl, q H' rho' s' R' _ ?_⟩
              show Rp D none H' rho' (.bl k) (.bl (false != k))
              cases k <;> exact .bl _
            | _ => exact q.elim⟩
        refine thn run fun w s' ⟨vv, H', I', rv, k, ek, qq⟩ => ?_
        subst ek
        cases rv
        exact ⟨.bl k, H', I', rfl, qq⟩
      · rw [if_neg hc] at q; exact q.elim
section
variable {c f : Nat} {a b : Expr} {ia ib : IE} {pos : Pos} {fa : Addr}
theorem t_eqo : ∀ σ H Q, rdE D none W (evE C (.eqo false c f ia ib)) σ H Q → tOp (fun x y H Q => ∃ (W : WX) (σ : L2.St) (rho : Rho) (h : AH) (n : Nat) (t : T), RelH D H rho h ∧ Rp D none H rho x (.ref n) ∧ Rp D none H rho y t ∧ outE D none W σ H rho Q (eqoR (C.F f) c n t h)) (rdE D none W (evE C ia)) (rdE D none W (evE C ib)) σ H Q := fun σ H Q ⟨rho, env, h, e, r, q⟩ =>
  ⟨rho, env, h, e, r, rd_bind ⟨e, r⟩ q fun t H' rho' h' v A s p q => ⟨rho', env, h', A.e, A.r, rd_bind A q fun t2 H2 rho2 h2 v2 A2 s2 p2 q2 => by
    cases t with
    | ref n => exact ⟨W, σ, rho2, h2, n, t2, A2.r, p.step s2, p2, q2⟩
    | _ => exact q2.elim⟩⟩
theorem x_eqo (O : Okx D X) (hlt : c < D.nc) (FE : FnE D X.prog X.w X.K X.mg X.base X.A (fun ts h => (C.F f ts h).nox) fa) (hs : PySem.W.findIn X.K (.ref (D.ca c)) "__eq__" = some (some (.ref fa))) (hf : PySem.W.isFn X.K (.ref fa) = true)
    (ha : XP D X W C a ia) (hb : XP D X W C b ib) : XP D X W C (.Compare a [.Eq] [b] pos) (.eqo false c f ia ib) :=
  PE_imp (pe_cmpR (op_eqo O hlt FE hs hf) ha hb (nomark _)) t_eqo
theorem b_eqo (O : Okx D X) (hlt : c < D.nc) (FE : FnE D X.prog X.w X.K X.mg X.base X.A (fun ts h => (C.F f ts h).nox) fa) (hs : PySem.W.findIn X.K (.ref (D.ca c)) "__eq__" = some (some (.ref fa))) (hf : PySem.W.isFn X.K (.ref fa) = true)
    (ha : XP D X W C a ia) (hb : XP D X W C b ib) : XB D X W C (.Compare a [.Eq] [b] pos) (.eqo false c f ia ib) :=
  PT_imp (pt_cmpR (op_eqo O hlt FE hs hf) ha hb (nomark _)) fun σ H Q ⟨rho, env, h, e, r, q⟩ => by
    refine t_eqo σ H _ ⟨rho, env, h, e, r, ?_⟩
    have q' : outR D W σ H rho (fun b H' _ _ => Q b H') ((evE C (.eqo false c f ia ib) env h).isB) := by rw [← evB_eq]; exact q
    generalize hg : evE C (.eqo false c f ia ib) env h = rr at q' ⊢
    cases rr with
    | exc _ _ _ => exact q'
    | stuck => exact q'
    | ok t h1 =>
      have hb : ∃ k, t = .bl k := by
        have hg' : (evE C ia env h).bind (fun x h1 => (evE C ib env h1).bind fun y h2 => match x with
          | .ref m => eqoR (C.F f) c m y h2
          | _ => .stuck) = .ok t h1 := hg
        cases e1 : evE C ia env h with
        | ok x h2 =>
          rw [e1] at hg'
          have hg2 : (evE C ib env h2).bind (fun y h2 => match x with
            | .ref m => eqoR (C.F f) c m y h2
            | _ => .stuck) = .ok t h1 := hg'
          cases e2 : evE C ib env h2 with
          | ok y h3 =>
            rw [e2] at hg2
            cases x with
            | ref m =>
              have hg3 : eqoR (C.F f) c m y h3 = .ok t h1 := hg2
              unfold eqoR at hg3
              cases hn : h3[m]? with
              | none => rw [hn] at hg3; cases hg3
              | some cl =>
                rw [hn] at hg3
                cases cl with
                | lst _ => cases hg3
                | dct _ _ _ => cases hg3
                | obj c' fs =>
                  dsimp only at hg3
                  split at hg3
                  · generalize (C.F f [.ref m, y] h3).nox = r4 at hg3
                    cases r4 with
                    | ok w h4 =>
                      cases w with
                      | bl k => cases hg3; exact ⟨_, rfl⟩
                      | _ => cases hg3
                    | exc _ _ _ => cases hg3
                    | stuck => cases hg3
                  · cases hg3
            | _ => cases hg2
          | exc _ _ _ => rw [e2] at hg2; cases hg2
          | stuck => rw [e2] at hg2; cases hg2
        | exc _ _ _ => rw [e1] at hg'; cases hg'
        | stuck => rw [e1] at hg'; cases hg'
      obtain ⟨k, rfl⟩ := hb
      intro H' rho' s' R' v p
      cases p
      exact ⟨k, rfl, q' H' rho' s' R'⟩
end
theorem x_rev (O : Okx D X) {m : Bool} {a : Expr} {ia : IE} {k : Nat} {p1 p2 p3 pos : Pos} (he : XP D X W C a ia) : XP D X W C (.Subscript a (.Slice none none (some (.UnaryOp .USub (.Constant (.int 1) k p1) p2)) p3) pos) (.rev m ia) := by
  refine ⟨fun pins s σ H Q I ⟨rho, env, h, e, r, q⟩ => ?_⟩
  refine ep_frz (u := .none) (s := s) (Subscript_ (thn (he.run pins s σ H (fun v H1 => ∃ t rho1 h1, RelH D H1 rho1 h1 ∧ Rp D none H1 rho1 v t ∧ outE D none W σ H1 rho1 Q (revT m t h1)) I ⟨rho, env, h, e, r, rd_bind ⟨e, r⟩ q fun t H' rho' h' v A s p q => ⟨t, rho', h', A.r, p, q⟩⟩) fun v s1 ⟨x, H1, I1, r1, t, rho1, h1, R1, px, q1⟩ => ?_))
  have hst : PO X (some (.UnaryOp .USub (.Constant (.int 1) k p1) p2)) (tPart (tUn (rU fun i => .int (-i)) (tC (.int 1)))) := po_some (pe_un un_neg pe_int)
  refine wpAny_Slice (thn (po_none.run pins s1 σ H1 (fun o H2 => o = none ∧ H2 = H1) I1 ⟨rfl, rfl⟩) fun vl s2 ⟨l, H2, I2, pl, el, e2⟩ => ?_)
  subst el e2
  refine thn (po_none.run pins s2 σ H2 (fun o H3 => o = none ∧ H3 = H2) I2 ⟨rfl, rfl⟩) fun vu s3 ⟨u, H3, I3, pu, eu, e3⟩ => ?_
  subst eu e3
  refine thn (hst.run pins s3 σ H3 (fun o H4 => o = some (-1) ∧ H4 = H3) I3 ⟨1, rfl, -1, rfl, rfl, rfl⟩) fun vs s4 ⟨o, H4, I4, ps, eo, e4⟩ => ?_
  subst eo e4
  have I5 : Inv X pins σ H4 { s4 with heap := s4.heap.push { cls := .type "slice", data := .fields #[vl, vu, vs] } } := I4.kept (t' := s4.toks) fun b ob q => Heap.get?_push_of_some _ q
  show wpAny (model X.prog X.w) X.A (subscriptTail a (.Slice none none (some (.UnaryOp .USub (.Constant (.int 1) k p1) p2)) p3) v (.ref s4.heap.objs.size)) (EP X pins σ (FrzQ Q)) X.xe { s4 with heap := s4.heap.push { cls := .type "slice", data := .fields #[vl, vu, vs] } }
  unfold revT at q1
  cases es : snap h1 t with
  | tup xs =>
    rw [es] at q1
    have et := snap_of_tup es
    subst et
    cases px with
    | tup hq l =>
      cases r1
      obtain ⟨its, rv, ht, hz⟩ := I5.tuple (SqT.of hq)
      have hlen := rv.length
      refine tail_any (ops := [.ref _, .ref s4.heap.objs.size]) ht.typeIs (PyProof.Rows.slot_tuple_getitem.lookup) ?_ (by with_unfolding_all rfl)
      refine getItem_tuple_rev ht (Heap.IsSliceOf.new _ vl vu vs) pl pu ps ?_ (by rw [List.size_toArray]; omega)
      refine ⟨.ref _, _, I5.laid (t' := s4.toks) (o := .tup _) (fun b ob q => Heap.get?_push_of_some _ q) (Nat.le_refl _) ⟨?_, _, rv.reverse, IsTup.new _ _⟩, rfl, .inl (tup_ok R1 l.reverse q1 (I5.hok.fresh (Nat.le_refl _)))⟩
      rw [List.length_reverse]; exact hz
  | lst xs =>
    rw [es] at q1
    obtain ⟨a', ws, rfl, ha, l⟩ := view_list R1 px (list_of_snap es)
    cases r1
    obtain ⟨its, r, ht, hz⟩ := I5.list (O.K ▸ ha)
    have hlen := r.length
    refine tail_any (ops := [.ref a', .ref s4.heap.objs.size]) ht.isList.typeIs (PySem.slot_list_getitem.lookup) ?_ (by with_unfolding_all rfl)
    refine wpAny_getItem_list_slice ht.isList (Heap.IsSliceOf.new _ vl vu vs) pl pu ps (by decide) ?_ (by rw [List.size_toArray]; omega)
    rw [PySem.W.krv_pick]
    refine ⟨.ref _, _, I5.laid (t' := s4.toks) (o := .lst ws.reverse) (fun b ob q => Heap.get?_push_of_some _ q) (Nat.le_refl _) ?_, rfl, (fresh_ok R1 l.reverse q1).2 _ (I5.hok.fresh (Nat.le_refl _))⟩
    exact ⟨by rw [List.length_reverse]; exact hz, _, 0, r.reverse, Heap.get?_push_size _ rfl⟩
  | _ => rw [es] at q1; exact q1.elim
end PS
end
section
set_option maxRecDepth 100000
set_option maxHeartbeats 2000000
namespace PS
open PySem PySem.Spec PyProof.Rows L2
def oexB (K : PySem.W.Frag) (C : Addr) : Bool := (match K.lookup C with
  | some ⟨.type T, _, .cls cd, sl⟩ => (match cd.mro, sl.toList with
    | .ref C' :: bm, [_, _, _, _, some (.builtin n), _] => decide (T = "type") && (decide (C' = C) && (decide (n = "ValueError.__new__") && (!cd.hasDel && (cd.hasDict && PySem.HandSPX.refsVE bm))))
    | _, _ => false)
  | _ => false) && (decide (PySem.W.findIn K (.ref C) "__setattr__" = some (some (.builtin "object.__setattr__"))) && (decide (PySem.W.subIn K (.ref C) (.type "BaseException") = some true) && (decide (PySem.W.typeIn K (.ref C) = some (.type "type")) && PySem.W.keepIn K (.ref C))))
theorem oexB_ok {K : PySem.W.Frag} {C : Addr} (q : oexB K C = true) : OexC K C := by
  unfold oexB at q
  simp only [Bool.and_eq_true, decide_eq_true_eq] at q
  obtain ⟨q, sa, ex, ty, kp⟩ := q
  refine ⟨?_, sa, ex, ty, kp⟩
  split at q
  · rename_i T dd cd sl ho
    split at q
    · rename_i C' bm k0 k1 k2 k3 n k5 hm hs
      simp only [Bool.and_eq_true, decide_eq_true_eq, Bool.not_eq_true'] at q
      obtain ⟨rfl, rfl, rfl, hdel, hd, hr⟩ := q
      obtain ⟨nm, bs, mro, ns, qn, hdd, sn, sub, ab, col, del⟩ := cd
      dsimp only at hm hdel hd hr
      subst hm hdel hd
      have hsl : sl = #[k0, k1, k2, k3, some (.builtin "ValueError.__new__"), k5] := by
        obtain ⟨l⟩ := sl
        simp only at hs
        rw [hs]
      subst hsl
      exact ⟨nm, qn, ns, bs, bm, sn, sub, ab, col, dd, k0, k1, k2, k3, k5, ho, hr⟩
    · cases q
  · cases q
def clsOkB (D : Wd) (c : Nat) : Bool := decide (PySem.W.findIn D.K (.ref (D.ca c)) "__class__" = some (some (.builtin "object.__class__"))) && (decide (PySem.W.specialIn D.K (.builtin "object.__class__") "__get__" = some (some (.builtin "getset_descriptor.__get__"))) &&
  (decide (PySem.W.takesIn D.K (.builtin "object.__class__") = some true) && (decide (PySem.W.mroIn D.K (D.ca c) (.type "object") = some true) &&
  ((["NoneType", "bool", "int", "str", "tuple", "list"] : List String).all (fun T => decide (PySem.W.kitOne D.K (.type T) (.ref (D.ca c)) = some false) && PySem.W.notFirst D.K (D.ca c) (.type T)) &&
  ((["int", "bool", "str", "tuple", "list"] : List String).all (fun T => decide (PySem.W.kitOne D.K (.ref (D.ca c)) (.type T) = some false)) &&
  (List.range D.nc).all fun d => decide (PySem.W.kitOne D.K (.ref (D.ca c)) (.ref (D.ca d)) = some (c == d)) && PySem.W.notFirst D.K (D.ca c) (.ref (D.ca d)))))))
theorem clsOkB_ok {D : Wd} {c : Nat} (cl : Cls D.K (D.ca c)) (h : clsOkB D c = true) : ClsOk D c := by
  unfold clsOkB at h
  simp only [Bool.and_eq_true, decide_eq_true_eq, List.all_eq_true, List.mem_range] at h
  obtain ⟨h1, h2, h3, h4, h5, h6, h7⟩ := h
  exact ⟨cl, h1, h2, h3, h4, fun T hT => (h5 T hT).1, h6, fun T hT => (h5 T hT).2, fun d hd => (h7 d hd).2, fun d hd => (h7 d hd).1⟩
def keyStr (e : DictEntry) : Option Str := match e.key with
  | .str x _ => some x
  | _ => none
def keysB (K : PySem.W.Frag) (d : Addr) (ks : List Str) : Bool := match K.lookup d with
  | some ⟨_, _, .dict es _, _⟩ => decide (es.toList.map keyStr = ks.map some)
  | _ => false
theorem keys_find : ∀ {es : List DictEntry} {ks : List Str} (z : Str), es.map keyStr = ks.map some → (es.find? (·.key.isStr z)).isSome = ks.contains z ∧ es.any (·.refKey) = false
  | [], [], _, _ => ⟨rfl, rfl⟩
  | [], _ :: _, _, h => by cases h
  | _ :: _, [], _, h => by cases h
  | e :: es, k :: ks, z, h => by
    simp only [List.map_cons, List.cons.injEq] at h
    obtain ⟨h1, h2⟩ := h
    obtain ⟨i1, i2⟩ := keys_find z h2
    have hk : ∃ t, e.key = .str k t := by
      unfold keyStr at h1
      split at h1
      · rename_i x t hx
        cases h1
        exact ⟨t, hx⟩
      · cases h1
    obtain ⟨t, hk⟩ := hk
    have e1 : e.key.isStr z = (k == z) := by rw [hk]; rfl
    have e2 : e.refKey = false := by unfold DictEntry.refKey; rw [hk] <;> rfl
    rw [List.find?_cons, List.any_cons, e1, e2, i2, List.contains_cons]
    by_cases hz : k = z
    · subst hz
      simp
    · have b1 : (k == z) = false := by simpa using hz
      have b2 : (z == k) = false := by simpa using Ne.symm hz
      rw [b1, b2]
      exact ⟨by simpa using i1, rfl⟩
theorem keysB_ok {K : PySem.W.Frag} {d : Addr} {ks : List Str} (h : keysB K d ks = true) (z : Str) : ∃ r, PySem.W.nsIn K d z = some r ∧ r.isSome = ks.contains z := by
  unfold keysB at h
  unfold PySem.W.nsIn
  split at h
  · rename_i c dd es n sl ho
    rw [ho]
    obtain ⟨i1, i2⟩ := keys_find z (of_decide_eq_true h)
    dsimp only
    cases hf : es.toList.find? (·.key.isStr z) with
    | some e => rw [hf] at i1; exact ⟨_, rfl, i1⟩
    | none => rw [hf] at i1; exact ⟨none, by simp [i2], i1⟩
  · cases h
def valsB (K : PySem.W.Frag) (d : Addr) (zs : List (Str × Int)) : Bool := zs.all fun p => match PySem.W.nsIn K d p.1 with
  | some (some (.int j _)) => decide (j = p.2)
  | _ => false
theorem valsB_ok {K : PySem.W.Frag} {d : Addr} {zs : List (Str × Int)} (h : valsB K d zs = true) {z : Str} {t : T} (hl : (zs.map fun p => (p.1, T.int p.2)).lookup z = some t) : ∃ i u tk, t = .int i ∧ PySem.W.nsIn K d z = some (some u) ∧ u = .int i tk := by
  induction zs with
  | nil => cases hl
  | cons p zs ih =>
    unfold valsB at h
    simp only [List.all_cons, Bool.and_eq_true] at h
    by_cases hz : z = p.1
    · subst hz
      simp [List.lookup] at hl
      subst hl
      have h1 := h.1
      split at h1
      · rename_i j tk hj
        have := of_decide_eq_true h1
        subst this
        exact ⟨_, _, tk, rfl, hj, rfl⟩
      · cases h1
    · have hb : (z == p.1) = false := by simpa using hz
      simp only [List.map_cons, List.lookup, hb] at hl
      exact ih h.2 hl
def noList (K : PySem.W.Frag) : Bool := K.all fun p => !(p.2.cls == .type "list")
theorem lookup_mem' {a : Addr} {o : Obj} : ∀ {l : List (Addr × Obj)}, l.lookup a = some o → (a, o) ∈ l
  | [], h => by cases h
  | (b, u) :: r, h => by
    by_cases e : a = b
    · subst e
      simp [List.lookup] at h
      subst h
      simp
    · have hb : (a == b) = false := by simpa using e
      simp only [List.lookup, hb] at h
      exact List.mem_cons_of_mem _ (lookup_mem' h)
theorem script_rp {D : Wd} {H : Hp} {a : Addr} {ns : List Int} (nl : noList D.K = true) (hO : Only H) (h : SqL D.K H a (ns.map V.int)) : Rp D none H [] (.ref a) (.lst (ns.map T.int)) := by
  have l : RpL D none H [] (ns.map V.int) (ns.map T.int) := by
    clear h
    induction ns with
    | nil => exact .nil
    | cons n ns ih => exact .cons (.int n) ih
  rcases h with h | ⟨o, its, n, hk, hc, _⟩
  · rcases h with h | ⟨o, h⟩
    · rcases hO a with z | ⟨o, xs, z⟩
      · rw [h] at z; cases z
      · rw [h] at z; cases z
    · exact .lst h l
  · have := List.all_eq_true.mp nl _ (lookup_mem' hk)
    rw [hc] at this
    cases this
theorem law_sp {D : Wd} {F : List T → AH → R T} {H : Hp} {a : Addr} {ns : List Int} (nl : noList D.K = true) (hO : Only H) (h : SqL D.K H a (ns.map V.int)) (hF : ∃ h', F [.lst (ns.map T.int)] [] = .ok (.bl true) h') : spR D F [.ref a] H (fun v _ => v = .bl true) fun _ _ _ => False := by
  obtain ⟨h', e⟩ := hF
  refine ⟨[], [], [.lst (ns.map T.int)], ⟨rfl, .nil, fun n a c e _ => by simp at e⟩, .cons (script_rp nl hO h) .nil, ?_⟩
  rw [e]
  intro H' rho' s R v p
  cases p
  rfl
theorem fn_cx0 {P : Program} {w : World} {K : PySem.W.Frag} {mg : Str → Option Value} {base : Heap} {k : Nat} {f : Addr} {fd : FuncData} {ps : List Str} {sp : Sp} (F : FnOk P w K mg base (L2.CX P w) k f fd ps sp) :
    FnOk P w K mg base CX0 k f fd ps (fun vs H Q _ => sp vs H Q fun _ _ _ => False) := by
  refine ⟨fun vs H Q E h => F.len vs H Q _ h, fun A outer s H args us vs Q E hr e0 hb r h => codeAny_mono (F.run A outer s H args us vs Q _ hr e0 hb r h) fun r s' q => ?_⟩
  cases r with
  | error e =>
    obtain ⟨_, _, _, _, _, _, _, _, _, _, _, _, z⟩ := q
    exact z.elim
  | ok fl => cases fl <;> exact q
end PS
end
section
set_option maxRecDepth 100000
set_option maxHeartbeats 2000000
namespace PS
open PySem PySem.Spec PyProof.Rows L2
variable {D : Wd} {X : Cx} {C : Ctx} {W : WX} {σ : L2.St} {H : Hp} {rho : Rho} {env : Env} {h : AH} {pins : List (Addr × Obj)} {s : Shared}
theorem keys_pairs {prog : Program} {w : World} : ∀ {l : List DictEntry} {zs : List Str}, l.map keyStr = zs.map some → ∃ kvs : List (Str × Value), Pairs (strKind prog w) l kvs ∧ kvs.map (·.1) = zs
  | [], [], _ => ⟨[], Pairs.nil, rfl⟩
  | [], _ :: _, h => by cases h
  | _ :: _, [], h => by cases h
  | e :: r, z :: zs, h => by
    rw [List.map_cons, List.map_cons] at h
    injection h with h1 h2
    obtain ⟨kvs, p, e2⟩ := keys_pairs (prog := prog) (w := w) h2
    obtain ⟨hs, k, v⟩ := e
    cases k with
    | str x t =>
      have h1 : some x = some z := h1
      cases h1
      exact ⟨(z, v) :: kvs, Pairs.cons (strKind_is prog w z t) rfl p, by rw [List.map_cons, e2]⟩
    | _ => cases h1
theorem kd_at {d : Addr} {es : Array DictEntry} {n : Nat} {zs : List Str} (I : Inv X pins σ H s) (K : KDict X.K X.w d es n) (hz : es.toList.map keyStr = zs.map some) (hn : zs.Nodup) :
    ∃ kvs : List (Str × Value), s.heap.DictAt (strKind X.prog X.w) d kvs n ∧ kvs.map (·.1) = zs := by
  obtain ⟨o, es2, ep2, h1, h2, h3, h4, _⟩ := PySem.W.mapOf_K (prog := X.prog) (w := X.w) I.kIn K.at_ K.lit
  have ho : s.heap.get? d = some ⟨.type "dict", none, .dict es n, #[]⟩ := I.kIn d _ K.at_
  rw [ho] at h1
  cases h1
  cases h3
  obtain ⟨kvs, p, e⟩ := keys_pairs (prog := X.prog) (w := X.w) hz
  exact ⟨kvs, ⟨_, es, ho, h2, rfl, h4, p, by rw [e]; exact hn⟩, e⟩
theorem strs_at {zs : List Str} {prog : Program} {w : World} {kvs : List (Str × Value)} (e : kvs.map (·.1) = zs) : ∀ (us : List Value), us.length = kvs.length → (∀ (j : Nat) (v : Value), us[j]? = some v → ∃ k x, kvs[j]? = some (k, x) ∧ (strKind prog w).is k v = true) → Vals (zs.map V.str) us := by
  subst e
  induction kvs with
  | nil =>
    intro us hl _
    cases us with
    | nil => exact .nil
    | cons _ _ => simp at hl
  | cons p r ih =>
    intro us hl hq
    cases us with
    | nil => simp at hl
    | cons u us =>
      obtain ⟨k, x, e1, e2⟩ := hq 0 u rfl
      simp at e1
      subst e1
      obtain ⟨t, ev⟩ := Value.isStrOf_shape (x := k) (v := u) e2
      subst ev
      exact .cons ⟨t, rfl⟩ (ih us (by simpa using hl) fun j v hj => hq (j + 1) v (by simpa using hj))
theorem call_list_kd {d : Addr} {es : Array DictEntry} {n : Nat} {zs : List Str} (hc : X.calm = true) (K : KDict X.K X.w d es n) (hz : es.toList.map keyStr = zs.map some) (hn : zs.Nodup) (hl : zs.length ≤ sizeLine) :
    CallR X (.type "list") (fun xs H Q => xs = [V.ref d] ∧ ∀ p, H p = none → Q (.ref p) (upd H p (.lst (zs.map V.str)))) := by
  intro pins s σ H xs us Q I r q
  obtain ⟨ex, q⟩ := q
  subst ex
  obtain ⟨u, eu, rx⟩ := vals1 r
  subst eu
  cases rx
  obtain ⟨kvs, hat, ek⟩ := kd_at I K hz hn
  have el : kvs.length = zs.length := by rw [← ek, List.length_map]
  refine PySem.W.kdl_call (PySem.W.kdl_dict (knd := strKind X.prog X.w) (kvs := kvs) (ep := n) K.low) (I.ok.hd hc) hat (by rw [el]; exact hl) fun h' tk acc c' hk hD hacc => ?_
  have hv : Vals (zs.map V.str) acc.toList := strs_at ek acc.toList (by rw [Array.length_toList]; exact hacc.1) fun j v e => hacc.2 j v (by rw [← Array.getElem?_toList]; exact e)
  refine ⟨.ref s.heap.objs.size, upd H s.heap.objs.size (.lst (zs.map V.str)), I.laid (t' := tk) hk (Nat.le_refl _)
    (show ObjOk X.prog X.w _ _ _ (.lst (zs.map V.str)) from ⟨by rw [List.length_map]; exact hl, acc.toList, c', hv, by rw [Array.toArray_toList]; exact hD⟩), rfl, q _ (I.hok.fresh (Nat.le_refl _))⟩
def strIL : List Str → IL
  | [] => .nil
  | z :: zs => .cons (.cst (.str z)) (strIL zs)
theorem evL_strs (C : Ctx) (env : Env) (h : AH) : ∀ zs : List Str, evL C (strIL zs) env h = .ok (zs.map T.str) h
  | [] => rfl
  | z :: zs => by
    show evL C (.cons (.cst (.str z)) (strIL zs)) env h = _
    rw [evL, evE, R.bind_ok, evL_strs C env h zs, R.bind_ok]
    rfl
theorem rpl_strs {H : Hp} {rho : Rho} : ∀ zs : List Str, RpL D none H rho (zs.map V.str) (zs.map T.str)
  | [] => .nil
  | z :: zs => .cons (.str z) (rpl_strs zs)
theorem x_lkeys {m : Bool} {d : Addr} {zs : List Str} {x y : Str} {p p2 pos : Pos} (hcalm : X.calm = true) (K : ∃ es n, KDict X.K X.w d es n) (hz : ∀ es n, KDict X.K X.w d es n → es.toList.map keyStr = zs.map some) (hnd : zs.Nodup) (hlz : zs.length ≤ sizeLine)
    (hg : Gl X x) (hm : X.mg x = none) (hv : bootBuiltins x = some (.type "list")) (hb : PE X (.Name y p2) (tC (.ref d))) (hn : x ≠ "__name__" := by decide) (hdb : (x == ("__debug__" : Str)) = false := by decide) :
    XP D X W C (.Call (.Name x p) [.Name y p2] [] pos) (.lst m (strIL zs)) := by
  obtain ⟨es, n, K⟩ := K
  refine PE_imp (PE_frz (pe_callTy (call_list_kd hcalm K (hz es n K) hnd hlz) hg hm hv (pa_cons hb pa_nil) hn hdb)) fun σ H Q ⟨rho, env, h, e, r, q⟩ => ?_
  have q2 : outE D none W σ H rho Q (fresh m (zs.map T.str) h) := by
    have q' : outE D none W σ H rho Q ((evL C (strIL zs) env h).bind fun xs h1 => fresh m xs h1) := q
    rw [evL_strs, R.bind_ok] at q'
    exact q'
  exact ⟨rfl, (fresh_ok r (rpl_strs zs) q2).2⟩
theorem x_kgetS {a i : Expr} {ii : IE} {pos : Pos} {k : Nat} {zs : List (Str × T)} {d : Addr} (hK : ∃ es m, KDict X.K X.w d es m) (hz : ∀ z t, zs.lookup z = some t → ∃ x u tk, t = .str x ∧ PySem.W.nsIn X.K d z = some (some u) ∧ u = .str x tk) (hb : PE X a (tC (.ref d))) (hi : XP D X W C i ii) (hs : PlainIx i := by intro _ _; rfl) :
    XP D X W C (.Subscript a i pos) (.kget k zs ii) := by
  obtain ⟨es, m, hK⟩ := hK
  exact PE_imp (pe_ix ix_kdict hb hi hs) fun σ H Q ⟨rho, env, h, e, r, q⟩ => ⟨rho, env, h, e, r, rd_bind ⟨e, r⟩ q fun t H' rho' h' v A s p q => by
    cases t with
    | str z =>
      cases p
      obtain ⟨u, eu, q2⟩ := of_of1 q
      obtain ⟨n, w, tk, rfl, h1, rfl⟩ := hz z u eu
      exact ⟨d, z, .str n, rfl, rfl, ⟨es, m, _, hK.at_, hK.lit, h1, ⟨tk, rfl⟩⟩, val_ok A.r (.str n) q2⟩
    | _ => exact q.elim⟩
theorem keysB_ord {K : PySem.W.Frag} {w : World} {d : Addr} {ks : List Str} {es : Array DictEntry} {n : Nat} (kd : KDict K w d es n) (h : keysB K d ks = true) : es.toList.map keyStr = ks.map some := by
  unfold keysB at h
  rw [kd.at_] at h
  exact of_decide_eq_true h
def valsSB (K : PySem.W.Frag) (d : Addr) (zs : List (Str × Str)) : Bool := zs.all fun p => match PySem.W.nsIn K d p.1 with
  | some (some (.str j _)) => decide (j = p.2)
  | _ => false
theorem valsSB_ok {K : PySem.W.Frag} {d : Addr} {zs : List (Str × Str)} (h : valsSB K d zs = true) {z : Str} {t : T} (hl : (zs.map fun p => (p.1, T.str p.2)).lookup z = some t) : ∃ i u tk, t = .str i ∧ PySem.W.nsIn K d z = some (some u) ∧ u = .str i tk := by
  induction zs with
  | nil => cases hl
  | cons p zs ih =>
    unfold valsSB at h
    simp only [List.all_cons, Bool.and_eq_true] at h
    by_cases hz : z = p.1
    · subst hz
      simp [List.lookup] at hl
      subst hl
      have h1 := h.1
      split at h1
      · rename_i j tk hj
        have := of_decide_eq_true h1
        subst this
        exact ⟨_, _, tk, rfl, hj, rfl⟩
      · cases h1
    · have hb : (z == p.1) = false := by simpa using hz
      simp only [List.map_cons, List.lookup, hb] at hl
      exact ih h.2 hl
end PS
end
section
set_option maxRecDepth 100000
set_option maxHeartbeats 1000000
namespace PS
open PySem
open Classical
mutual
def T.pl : T → Bool
  | .non => true
  | .bl _ => true
  | .int _ => true
  | .str x => decide (x.length ≤ 1000)
  | .tup xs => decide (xs.length ≤ 1000) && T.plL xs
  | .lst xs => decide (xs.length ≤ 1000) && T.plL xs
  | .dct _ _ _ => false
  | .ref _ => false
  | .clo _ _ => false
  | .exn _ _ => false
def T.plL : List T → Bool
  | [] => true
  | x :: xs => T.pl x && T.plL xs
end
mutual
theorem pl_und (n : Nat) : ∀ t : T, t.pl = true → t.und n = true
  | .non, _ => rfl
  | .bl _, _ => rfl
  | .int _, _ => rfl
  | .str _, _ => rfl
  | .tup xs, h => by simp only [T.und]; exact pl_undL n xs (by simp only [T.pl, Bool.and_eq_true] at h; exact h.2)
  | .lst xs, h => by simp only [T.und]; exact pl_undL n xs (by simp only [T.pl, Bool.and_eq_true] at h; exact h.2)
  | .dct _ _ _, h => by simp [T.pl] at h
  | .ref _, h => by simp [T.pl] at h
  | .clo _ _, h => by simp [T.pl] at h
  | .exn _ _, h => by simp [T.pl] at h
theorem pl_undL (n : Nat) : ∀ ts : List T, T.plL ts = true → T.undL n ts = true
  | [], _ => rfl
  | x :: xs, h => by
    simp only [T.plL, Bool.and_eq_true] at h
    simp only [T.undL, Bool.and_eq_true]
    exact ⟨pl_und n x h.1, pl_undL n xs h.2⟩
end
theorem gcok_rfl (h : AH) : GcOk h h := ⟨Nat.le_refl _, fun _ _ => .inl rfl⟩
theorem gcok_app (h cs : AH) : GcOk h (h ++ cs) := ⟨by simp, fun i hi => .inl (by rw [List.getElem?_append_left hi])⟩
theorem run_eq {P : Prg} {k f : Nat} {fn : Fn} {xs : List T} {h : AH} (hf : P.fns[f]? = some fn) (hn : xs.length = fn.np) :
    runFn P (k + 1) f xs h = endR fn.gc h (endS fn.gc h.length (evSs ⟨runFn P k, h.length, P.sub, P.xi⟩ fn.body (xs.map some ++ List.replicate (fn.ns - fn.np) none) h)) := by
  show (match P.fns[f]? with
    | none => R.stuck
    | some fn => if xs.length = fn.np then endR fn.gc h (endS fn.gc h.length (evSs ⟨runFn P k, h.length, P.sub, P.xi⟩ fn.body (xs.map some ++ List.replicate (fn.ns - fn.np) none) h)) else .stuck) = _
  rw [hf]
  dsimp only
  rw [if_pos hn]
theorem end_ret {h cs : AH} {m : Option Nat} {t : T} (hm : m = none ∨ m = some h.length) (hu : t.und h.length = true) : endR true h (endS true h.length (.ret m t (h ++ cs))) = .ok t h := by
  show endR true h (if m = none ∨ (true = true ∧ m = some h.length) then .ok t (h ++ cs) else .stuck) = _
  rw [if_pos (by rcases hm with e | e; exact .inl e; exact .inr ⟨rfl, e⟩)]
  show (if true = true then (if t.und h.length = true ∧ GcOk h (h ++ cs) then R.ok t ((h ++ cs).take h.length) else .stuck) else .ok t (h ++ cs)) = _
  rw [if_pos rfl, if_pos ⟨hu, gcok_app h cs⟩]
  simp
theorem end_ret0 {h : AH} {m : Option Nat} {t : T} (hm : m = none ∨ m = some h.length) (hu : t.und h.length = true) : endR true h (endS true h.length (.ret m t h)) = .ok t h := by
  have := end_ret (cs := []) hm hu
  rwa [List.append_nil] at this
section
variable {h : AH} {b : Bool} {i j : Int} {x y : Str} {xs ys : List T} {α : Type}
@[simp] theorem snap_non : snap h .non = .non := rfl
@[simp] theorem snap_bl : snap h (.bl b) = .bl b := rfl
@[simp] theorem snap_int : snap h (.int i) = .int i := rfl
@[simp] theorem snap_str : snap h (.str x) = .str x := rfl
@[simp] theorem snap_tup : snap h (.tup xs) = .tup xs := rfl
@[simp] theorem snap_lst : snap h (.lst xs) = .lst xs := rfl
@[simp] theorem truT_bl : truT h (.bl b) = some b := rfl
@[simp] theorem truT_tup : truT h (.tup xs) = some (!xs.isEmpty) := rfl
@[simp] theorem truT_lst : truT h (.lst xs) = some (!xs.isEmpty) := rfl
@[simp] theorem truT_int : truT h (.int i) = some (i != 0) := rfl
@[simp] theorem lenT_tup : lenT h (.tup xs) = some xs.length := rfl
@[simp] theorem lenT_lst : lenT h (.lst xs) = some xs.length := rfl
@[simp] theorem lenT_str : lenT h (.str x) = if x.length ≤ sizeLine then some x.length else none := rfl
@[simp] theorem cmp_le : cmpT .le h (.int i) (.int j) = some (decide (i ≤ j)) := rfl
@[simp] theorem cmp_lt : cmpT .lt h (.int i) (.int j) = some (decide (i < j)) := rfl
@[simp] theorem cmp_ge : cmpT .ge h (.int i) (.int j) = some (decide (j ≤ i)) := rfl
@[simp] theorem cmp_gt : cmpT .gt h (.int i) (.int j) = some (decide (j < i)) := rfl
@[simp] theorem isList_lst : isList h (.lst xs) = some xs := rfl
@[simp] theorem isList_tup : isList h (.tup xs) = none := rfl
@[simp] theorem seqV_lst : seqV h (.lst xs) = some xs := rfl
@[simp] theorem seqV_tup : seqV h (.tup xs) = some xs := rfl
@[simp] theorem items_lst : itemsOf h (.lst xs) = some ⟨xs, none⟩ := rfl
@[simp] theorem items_tup : itemsOf h (.tup xs) = some ⟨xs, none⟩ := rfl
@[simp] theorem items_str : itemsOf h (.str x) = some ⟨chars x, none⟩ := rfl
theorem compL_pure {g : TG} {cond : Env → AH → R Bool} {elt : Env → AH → R T} {chk : AH → Prop} {c : T → Bool} {f : T → T} {env : Env} (hk : chk h) : ∀ {xs : List T}, (∀ x ∈ xs, ∃ e1, g.asg x env = some e1 ∧ cond e1 h = .ok (c x) h ∧ (c x = true → elt e1 h = .ok (f x) h)) → compL g cond elt chk xs env h = .ok ((xs.filter c).map f) h
  | [], _ => rfl
  | x :: xs, H => by
    obtain ⟨e1, a, b, d⟩ := H x (by simp)
    have ih := compL_pure hk (xs := xs) fun y hy => H y (by simp [hy])
    unfold compL
    rw [a]
    dsimp only
    rw [b]
    cases hc : c x with
    | true =>
      simp only [R.bind_ok, d hc, if_pos hk, ih, List.filter_cons, hc, if_true, List.map_cons]
    | false =>
      simp only [R.bind_ok, if_pos hk, ih, List.filter_cons, hc]
      simp
theorem forL_inv {g : TG} {body : Env → AH → RS} {chk : AH → Prop} (I : List T → Env → AH → Prop) : ∀ {done rest : List T} {env : Env} {h : AH}, I done env h → (∀ d x r e h, done ++ rest = d ++ x :: r → I d e h → ∃ e1, g.asg x e = some e1 ∧ ∃ e2 h2, body e1 h = .next e2 h2 ∧ chk h2 ∧ I (d ++ [x]) e2 h2) → ∃ e2 h2, forL g body chk rest env h = .next e2 h2 ∧ I (done ++ rest) e2 h2
  | done, [], env, h, i, _ => ⟨env, h, rfl, by simpa using i⟩
  | done, x :: rest, env, h, i, st => by
    obtain ⟨e1, a, e2, h2, b, k, i2⟩ := st done x rest env h rfl i
    obtain ⟨e3, h3, c, i3⟩ := forL_inv I (done := done ++ [x]) (rest := rest) i2 fun d y r e h eq i => st d y r e h (by simpa using eq) i
    refine ⟨e3, h3, ?_, by simpa using i3⟩
    unfold forL
    rw [a]
    dsimp only
    rw [b]
    dsimp only
    rw [if_pos k]
    exact c
theorem fresh_f (hz : xs.length ≤ sizeLine) : fresh false xs h = .ok (.lst xs) h := by
  unfold fresh
  rw [if_pos hz, if_neg (by decide)]
def isTyP : T → Ty → Bool
  | .bl _, .int => true
  | .bl _, .bool => true
  | .int _, .int => true
  | .str _, .str => true
  | .tup _, .tuple => true
  | .lst _, .list => true
  | _, _ => false
theorem isTy_pl {t : T} (y : Ty) (hp : t.pl = true) : isTys h t [y] = some (isTyP t y) := by
  cases t <;> first
    | (simp [T.pl] at hp; done)
    | (cases y <;> rfl)
variable {m : Bool} {n : Nat} {c : Cell} {t : T}
@[simp] theorem bin_add : binT m .add (.int i) (.int j) h = .ok (.int (i + j)) h := rfl
@[simp] theorem bin_sub : binT m .sub (.int i) (.int j) h = .ok (.int (i - j)) h := rfl
@[simp] theorem bin_mul : binT m .mul (.int i) (.int j) h = if (-(2 ^ 64) < i ∧ i < 2 ^ 64) ∨ (-(2 ^ 64) < j ∧ j < 2 ^ 64) then .ok (.int (i * j)) h else .stuck := rfl
@[simp] theorem bin_mod : binT m .mod (.int i) (.int j) h = if 0 < j then .ok (.int (i % j)) h else .stuck := rfl
@[simp] theorem bin_fdiv : binT m .fdiv (.int i) (.int j) h = if 0 < j ∧ j < 1073741824 then .ok (.int (i / j)) h else .stuck := rfl
@[simp] theorem bin_pow : binT m .pow (.int i) (.int j) h = if 0 ≤ j ∧ j ≤ 1000000 ∧ i.natAbs < 2 ^ 64 then .ok (.int (i ^ j.toNat)) h else .stuck := rfl
@[simp] theorem bin_tup : binT m .add (.tup xs) (.tup ys) h = if xs.length + ys.length ≤ sizeLine then .ok (.tup (xs ++ ys)) h else .stuck := rfl
@[simp] theorem bf_int1 : bfT m .int [.int i] h = .ok (.int i) h := rfl
@[simp] theorem bf_intb : bfT m .int [.bl b] h = .ok (.int (if b then 1 else 0)) h := rfl
@[simp] theorem bf_abs1 : bfT m .abs [.int i] h = .ok (.int (if i < 0 then -i else i)) h := rfl
@[simp] theorem bf_len1 : bfT m .len [t] h = match lenT h t with | some n => .ok (.int n) h | none => .stuck := rfl
theorem idx_lst : idxT h (.lst xs) (.int i) = L2.atI xs i := rfl
theorem idx_tup : idxT h (.tup xs) (.int i) = L2.atI xs i := rfl
theorem snap_cell (hb : h[n]? = some (.lst xs)) : snap h (.ref n) = .lst xs := by rw [snap_ref, hb]
theorem idx_cell (hb : h[n]? = some (.lst xs)) : idxT h (.ref n) (.int i) = L2.atI xs i := by unfold idxT; rw [snap_cell hb]
theorem set_cell (hb : h[n]? = some (.lst xs)) : setT (.ref n) (.int i) t h = match L2.ixN xs.length i with | some j => .ok () (h.set n (.lst (xs.set j t))) | none => .stuck := by
  show (match h[n]? with
    | some (.lst xs) => match L2.ixN xs.length i with
      | some j => R.ok () (h.set n (.lst (xs.set j t)))
      | none => .stuck
    | some (.dct tk ks vs) => match keyOk tk (T.int i) with
      | some key => match findK key ks with
        | some _ => if ks.length < sizeLine then .ok () (h.set n (.dct tk ks (setK key t ks vs))) else .stuck
        | none => if ks.length < sizeLine then .ok () (h.set n (.dct tk (ks ++ [T.int i]) (vs ++ [t]))) else .stuck
      | none => .stuck
    | _ => .stuck) = _
  rw [hb]
theorem gcok_set (hc : c.und h.length = true) : GcOk h (h.set n c) := ⟨by simp, fun i hi => by
  by_cases e : n = i
  · subst e; exact .inr ⟨c, by simp [hi], hc⟩
  · exact .inl (by rw [List.getElem?_set_ne e])⟩
theorem end_set {mm : Option Nat} (hm : mm = none ∨ mm = some h.length) (hu : t.und h.length = true) (hc : c.und h.length = true) : endR true h (endS true h.length (.ret mm t (h.set n c))) = .ok t (h.set n c) := by
  show endR true h (if mm = none ∨ (true = true ∧ mm = some h.length) then .ok t (h.set n c) else .stuck) = _
  rw [if_pos (by rcases hm with e | e; exact .inl e; exact .inr ⟨rfl, e⟩)]
  show (if true = true then (if t.und h.length = true ∧ GcOk h (h.set n c) then R.ok t ((h.set n c).take h.length) else .stuck) else .ok t (h.set n c)) = _
  rw [if_pos rfl, if_pos ⟨hu, gcok_set hc⟩, List.take_of_length_le (by simp)]
@[simp] theorem cmp_eq_int : cmpT .eq h (.int i) (.int j) = some (decide (i = j)) := by
  show eqD (.int i) (.int j) = _
  unfold eqD
  rw [if_pos (by simp [PyData.depth])]
  simp only [PyData.eqv]
  congr 1
@[simp] theorem cmp_ne_int : cmpT .ne h (.int i) (.int j) = some (!decide (i = j)) := by
  show (cmpT .eq h (.int i) (.int j)).map (!·) = _
  rw [cmp_eq_int]; rfl
@[simp] theorem cmp_eq_str : cmpT .eq h (.str x) (.str y) = some (decide (x = y)) := by
  show eqD (.str x) (.str y) = _
  unfold eqD
  rw [if_pos (by simp [PyData.depth])]
  simp only [PyData.eqv]
  congr 1
theorem ext_cell {zs : List T} (hb : h[n]? = some (.lst xs)) (hz : xs.length + zs.length ≤ sizeLine) : bmT m .extend (.ref n) [.lst zs] h = .ok .non (h.set n (.lst (xs ++ zs))) := by
  show (match h[n]? with
    | some (.lst xs) => match isList h (.lst zs) with
      | some zs => if xs.length + zs.length ≤ sizeLine ∧ watchV (.lst zs) ≠ some n then R.ok T.non (h.set n (.lst (xs ++ zs))) else .stuck
      | none => .stuck
    | _ => .stuck) = _
  rw [hb, isList_lst]
  dsimp only
  rw [if_pos ⟨hz, fun e => by cases e⟩]
theorem app_cell (hb : h[n]? = some (.lst xs)) (hz : xs.length < sizeLine) : bmT m .append (.ref n) [t] h = .ok .non (h.set n (.lst (xs ++ [t]))) := by
  show (match h[n]? with
    | some (.lst xs) => if xs.length < sizeLine then R.ok T.non (h.set n (.lst (xs ++ [t]))) else .stuck
    | _ => .stuck) = _
  rw [hb]
  dsimp only
  rw [if_pos hz]
theorem pop_cell (hb : h[n]? = some (.lst (xs ++ [t]))) : bmT m .pop (.ref n) [] h = .ok t (h.set n (.lst xs)) := by
  show (match h[n]? with
    | some (.lst xs) => match xs[xs.length - 1]? with
      | some y => R.ok y (h.set n (.lst xs.dropLast))
      | none => .stuck
    | _ => .stuck) = _
  rw [hb]
  have e : (xs ++ [t])[(xs ++ [t]).length - 1]? = some t := by simp
  dsimp only
  rw [e]
  simp
theorem ins_cell (hb : h[n]? = some (.lst xs)) (hz : xs.length < sizeLine) (h0 : 0 ≤ i) (h1 : i ≤ xs.length) : bmT m .insert (.ref n) [.int i, t] h = .ok .non (h.set n (.lst (insAt xs i.toNat t))) := by
  show (match h[n]? with
    | some (.lst xs) => if xs.length < sizeLine ∧ 0 ≤ i ∧ i ≤ xs.length then R.ok T.non (h.set n (.lst (insAt xs i.toNat t))) else .stuck
    | _ => .stuck) = _
  rw [hb]
  dsimp only
  rw [if_pos ⟨hz, h0, h1⟩]
theorem set_dct {ks vs : List T} (hb : h[n]? = some (.dct false ks vs)) (hk : findK (.num i) ks = none) (hz : ks.length < sizeLine) : setT (.ref n) (.int i) t h = .ok () (h.set n (.dct false (ks ++ [.int i]) (vs ++ [t]))) := by
  show (match h[n]? with
    | some (.lst xs) => match L2.ixN xs.length i with
      | some j => R.ok () (h.set n (.lst (xs.set j t)))
      | none => .stuck
    | some (.dct tk ks vs) => match keyOk tk (T.int i) with
      | some key => match findK key ks with
        | some _ => if ks.length < sizeLine then .ok () (h.set n (.dct tk ks (setK key t ks vs))) else .stuck
        | none => if ks.length < sizeLine then .ok () (h.set n (.dct tk (ks ++ [T.int i]) (vs ++ [t]))) else .stuck
      | none => .stuck
    | _ => .stuck) = _
  rw [hb]
  dsimp only [keyOk]
  rw [hk]
  dsimp only
  rw [if_pos hz]
theorem atI_map {β γ : Type} (f : β → γ) (l : List β) (i : Int) : L2.atI (l.map f) i = (L2.atI l i).map f := by
  unfold L2.atI
  rw [List.length_map]
  cases L2.ixN l.length i with
  | none => rfl
  | some j => simp
end
end PS
end
section
set_option autoImplicit false
namespace KG
inductive Rch (E : List (Int × Int)) : Int → Int → Prop
  | one {a b : Int} : (a, b) ∈ E → Rch E a b
  | more {a b c : Int} : Rch E a b → (b, c) ∈ E → Rch E a c
def rd (E : List (Int × Int)) (k : Int) (F : List Int) : List Int := F ++ (E.filter fun p => (p.1 == k || F.contains p.1) && !F.contains p.2).map (·.2)
def rds (E : List (Int × Int)) (k : Int) : Nat → List Int
  | 0 => []
  | t + 1 => rd E k (rds E k t)
def Clo (E : List (Int × Int)) (k : Int) (F : List Int) : Prop := ∀ p ∈ E, (p.1 = k ∨ p.1 ∈ F) → p.2 ∈ F
theorem rd_sub {E : List (Int × Int)} {k : Int} {F : List Int} : ∀ x ∈ F, x ∈ rd E k F := fun x h => by unfold rd; simp [h]
theorem rd_new {E : List (Int × Int)} {k : Int} {F : List Int} {p : Int × Int} (h : p ∈ E) (h1 : p.1 = k ∨ p.1 ∈ F) : p.2 ∈ rd E k F := by
  unfold rd
  by_cases h2 : p.2 ∈ F
  · simp [h2]
  · rw [List.mem_append]
    right
    rw [List.mem_map]
    refine ⟨p, ?_, rfl⟩
    rw [List.mem_filter]
    refine ⟨h, ?_⟩
    rcases h1 with h1 | h1 <;> simp [h1, h2]
theorem rd_rch {E : List (Int × Int)} {k : Int} {F : List Int} (hF : ∀ x ∈ F, Rch E k x) : ∀ x ∈ rd E k F, Rch E k x := by
  intro x hx
  unfold rd at hx
  rw [List.mem_append, List.mem_map] at hx
  rcases hx with hx | ⟨p, hp, rfl⟩
  · exact hF x hx
  · rw [List.mem_filter] at hp
    obtain ⟨h1, h2⟩ := hp
    simp at h2
    rcases h2.1 with e | e
    · exact .one (by rw [← e]; exact h1)
    · exact .more (hF _ e) h1
theorem rds_rch {E : List (Int × Int)} {k : Int} : ∀ t, ∀ x ∈ rds E k t, Rch E k x
  | 0 => by simp [rds]
  | t + 1 => rd_rch (rds_rch t)
theorem clo_rch {E : List (Int × Int)} {k : Int} {F : List Int} (h : Clo E k F) : ∀ x, Rch E k x → x ∈ F := by
  intro x r
  induction r with
  | one e => exact h _ e (.inl rfl)
  | more r e ih => exact h _ e (.inr ih)
theorem clo_rd {E : List (Int × Int)} {k : Int} {F : List Int} (h : Clo E k F) : rd E k F = F := by
  unfold rd
  have : (E.filter fun p => (p.1 == k || F.contains p.1) && !F.contains p.2) = [] := by
    rw [List.filter_eq_nil_iff]
    intro p hp
    simp
    intro h1
    exact h p hp h1
  rw [this]; simp
def miss (F : List Int) : Nat → Nat
  | 0 => 0
  | n + 1 => miss F n + if (n : Int) ∈ F then 0 else 1
theorem miss_le (F : List Int) : ∀ n, miss F n ≤ n
  | 0 => Nat.le_refl _
  | n + 1 => by unfold miss; have := miss_le F n; split <;> omega
theorem miss_mono {F G : List Int} (h : ∀ x ∈ F, x ∈ G) : ∀ n, miss G n ≤ miss F n
  | 0 => Nat.le_refl _
  | n + 1 => by
    unfold miss
    have := miss_mono h n
    by_cases h1 : (n : Int) ∈ F
    · rw [if_pos h1, if_pos (h _ h1)]; omega
    · rw [if_neg h1]; split <;> omega
theorem miss_lt {F G : List Int} (h : ∀ x ∈ F, x ∈ G) {x : Int} (h1 : x ∈ G) (h2 : x ∉ F) : ∀ n : Nat, 0 ≤ x → x < (n : Int) → miss G n < miss F n
  | 0, a, b => by omega
  | n + 1, a, b => by
    unfold miss
    have m := miss_mono h n
    by_cases e : x = n
    · subst e
      rw [if_pos h1, if_neg h2]; omega
    · have := miss_lt h h1 h2 n a (by omega)
      by_cases h3 : (n : Int) ∈ F
      · rw [if_pos h3, if_pos (h _ h3)]; omega
      · rw [if_neg h3]; split <;> omega
theorem rds_clo {E : List (Int × Int)} {k : Int} {n : Nat} (hE : ∀ p ∈ E, 0 ≤ p.2 ∧ p.2 < n) : ∀ t, Clo E k (rds E k t) ∨ miss (rds E k t) n + t ≤ n
  | 0 => .inr (by have := miss_le (rds E k 0) n; omega)
  | t + 1 => by
    rcases rds_clo hE t with h | h
    · left
      show Clo E k (rd E k (rds E k t))
      rw [clo_rd h]; exact h
    · by_cases c : Clo E k (rds E k t)
      · left
        show Clo E k (rd E k (rds E k t))
        rw [clo_rd c]; exact c
      · right
        unfold Clo at c
        have : ∃ p ∈ E, (p.1 = k ∨ p.1 ∈ rds E k t) ∧ p.2 ∉ rds E k t := by
          by_cases q : ∃ p ∈ E, (p.1 = k ∨ p.1 ∈ rds E k t) ∧ p.2 ∉ rds E k t
          · exact q
          · refine absurd (fun p hp h1 => ?_) c
            by_cases z : p.2 ∈ rds E k t
            · exact z
            · exact absurd ⟨p, hp, h1, z⟩ q
        obtain ⟨p, hp, h1, h2⟩ := this
        have := miss_lt (F := rds E k t) (G := rds E k (t + 1)) rd_sub (rd_new hp h1) h2 n (hE p hp).1 (hE p hp).2
        omega
theorem rds_all {E : List (Int × Int)} {k : Int} {n : Nat} (hE : ∀ p ∈ E, 0 ≤ p.2 ∧ p.2 < n) (x : Int) : x ∈ rds E k (n + 1) ↔ Rch E k x := by
  refine ⟨rds_rch _ x, fun r => ?_⟩
  rcases rds_clo (k := k) hE (n + 1) with h | h
  · exact clo_rch h x r
  · omega
def turn (L : Int → List Int) (F W : List Int) : Option (List Int × List Int) := match W.getLast? with
  | none => none
  | some x => if x ∈ F then some (F, W.dropLast) else some (F ++ [x], W.dropLast ++ L x)
structure Inv (L : Int → List Int) (s : Int) (F W : List Int) : Prop where
  st : ∀ y ∈ L s, y ∈ F ∨ y ∈ W
  cl : ∀ x ∈ F, ∀ y ∈ L x, y ∈ F ∨ y ∈ W
theorem inv_turn {L : Int → List Int} {s x : Int} {F W : List Int} (h : Inv L s F (W ++ [x])) : (x ∈ F → Inv L s F W) ∧ (x ∉ F → Inv L s (F ++ [x]) (W ++ L x)) := by
  refine ⟨fun hx => ⟨fun y hy => ?_, fun z hz y hy => ?_⟩, fun hx => ⟨fun y hy => ?_, fun z hz y hy => ?_⟩⟩
  · rcases h.st y hy with q | q
    · exact .inl q
    · simp at q
      rcases q with q | q
      · exact .inr q
      · subst q; exact .inl hx
  · rcases h.cl z hz y hy with q | q
    · exact .inl q
    · simp at q
      rcases q with q | q
      · exact .inr q
      · subst q; exact .inl hx
  · rcases h.st y hy with q | q
    · exact .inl (by simp [q])
    · simp at q
      rcases q with q | q
      · exact .inr (by simp [q])
      · exact .inl (by simp [q])
  · simp at hz
    rcases hz with hz | hz
    · rcases h.cl z hz y hy with q | q
      · exact .inl (by simp [q])
      · simp at q
        rcases q with q | q
        · exact .inr (by simp [q])
        · exact .inl (by simp [q])
    · subst hz
      exact .inr (by simp [hy])
end KG
end
section
set_option maxRecDepth 100000
set_option maxHeartbeats 4000000
namespace LW
open PySem PySem.Spec PyProof.Rows L2 PS
def top (i : Nat) : Stmt := PySem.Challenge.pw_treestacks_k40_questions_and_claims_by_f.main.body.getD i (.Pass ⟨0, 0, 0, 0⟩)
def clsBody : Stmt → List Stmt
  | .ClassDef _ _ _ b _ _ _ _ _ _ _ => b
  | _ => []
def mth (i j : Nat) : Stmt := (clsBody (top i)).getD j (.Pass ⟨0, 0, 0, 0⟩)
def cN : List Str := ["Pairs"]
def eN : List Str := ["GraftError", "InvalidNumber", "InvalidRules", "Endless", "InvalidText", "InvalidQuestion", "InvalidClaim", "Undefined"]
def fN : List Str := ["kinds", "rules", "value", "kind", "what"]
def flOf (n : Nat) : Str := (fN[n]?).getD ⟨Array.replicate (n + 100) 0⟩
def xiL : List Nat := [999, 2, 2, 3, 2, 2, 2, 4]
def xiOf (n : Nat) : Nat := (xiL[n]?).getD 999
def Dw (K : PySem.W.Frag) : Wd := { K := K, nc := 1, nx := 8, ca := fun n => He.ga K ((cN[n]?).getD ""), fl := flOf, xa := fun n => He.ga K ((eN[n]?).getD ""), xf := fun n => flOf (xiOf n) }
def subL : List (List Bool) := [[true, false, false, false, false, false, false, false], [true, true, false, false, false, false, false, false], [true, false, true, false, false, false, false, false], [true, false, false, true, false, false, false, false], [true, false, false, false, true, false, false, false], [true, false, false, false, false, true, false, false], [true, false, false, false, false, false, true, false], [true, false, false, false, false, false, false, true]]
def subOf (a b : Nat) : Bool := ((subL.getD a []).getD b false)
def ks_PARTS : List Str := ["left", "right", "same", "first", "last", "wrap", "ahead", "behind"]
def zs_PARTS : List (Str × T) := [("left", .int 0), ("right", .int 0), ("same", .int 1), ("first", .int 1), ("last", .int 1), ("wrap", .int 2), ("ahead", .int 2), ("behind", .int 2)]
def ks_WORDS : List Str := ["told", "not told", "readings", "longest", "any", "nothing"]
def zs_WORDS : List (Str × T) := [("told", .str "text"), ("not told", .str "text"), ("readings", .str "readings"), ("longest", .str "longest"), ("any", .str "longest"), ("nothing", .str "longest")]
abbrev ir_is_integer : ISs := (.cons (.ret false (.and (.isi (.var 0) [.int]) (.not (.isi (.var 0) [.bool]))))
  .nil)
abbrev ir_is_integer_in : ISs := (.cons (.ret false (.and (.call 0 (.cons (.var 0) .nil)) (.chain .le (.var 1) (.var 0) .le (.var 2))))
  .nil)
abbrev ir_is_word : ISs := (.cons (.ife (.or (.not (.isi (.var 0) [.str])) (.not (.chain .le (.cst (.int 1)) (.bf false .len (.cons (.var 0) .nil)) .le (.glb 0 (.int 3))))) (.cons (.ret false (.cst (.bl false)))
  .nil) .nil)
  (.cons (.ret false (.bf false .all (.cons (.comp false [1] (.nm 1) (.e (.var 0)) .none (.cmp .isin (.var 1) (.glb 0 (.str "abcdefghijklmnopqrstuvwxyz")))) .nil)))
  .nil))
abbrev ir_reached : ISs := (.cons (.asg (.nm 2) (.dic true false))
  (.cons (.asg (.nm 3) (.bf true .list (.cons (.idx (.var 0) (.var 1)) .nil)))
  (.cons (.whl (.var 3) (.cons (.asg (.nm 4) (.bm false .pop (.var 3) .nil))
  (.cons (.ife (.cmp .notin (.var 4) (.var 2)) (.cons (.seti (.var 2) (.var 4) (.cst (.bl true)))
  (.cons (.ex (.bm false .extend (.var 3) (.cons (.idx (.var 0) (.var 4)) .nil)))
  .nil)) .nil)
  .nil)))
  (.cons (.ret true (.var 2))
  .nil))))
abbrev ir_least_back : ISs := (.cons (.forr (.nm 1) (.rng (.bf false .len (.cons (.var 0) .nil))) (.cons (.ife (.cmp .isin (.var 1) (.call 3 (.cons (.var 0) (.cons (.var 1) .nil)))) (.cons (.ret false (.var 1))
  .nil) .nil)
  .nil))
  (.cons (.ret false (.cst .non))
  .nil))
abbrev ir_is_rule : ISs := (.cons (.ife (.or (.not (.isi (.var 0) [.tuple])) (.or (.cmp .lt (.bf false .len (.cons (.var 0) .nil)) (.cst (.int 3))) (.not (.call 1 (.cons (.idx (.var 0) (.cst (.int 0))) (.cons (.cst (.int 0)) (.cons (.bin false .sub (.var 1) (.cst (.int 1))) .nil))))))) (.cons (.ret false (.cst (.bl false)))
  .nil) .nil)
  (.cons (.ife (.or (.not (.isi (.idx (.var 0) (.cst (.int 1))) [.str])) (.kin true 0 ks_PARTS (.idx (.var 0) (.cst (.int 1))))) (.cons (.ret false (.cst (.bl false)))
  .nil) .nil)
  (.cons (.asg (.nm 2) (.kget 0 zs_PARTS (.idx (.var 0) (.cst (.int 1)))))
  (.cons (.ife (.cmp .eq (.var 2) (.cst (.int 0))) (.cons (.ret false (.and (.cmp .eq (.bf false .len (.cons (.var 0) .nil)) (.cst (.int 3))) (.call 2 (.cons (.idx (.var 0) (.cst (.int 2))) .nil))))
  .nil) .nil)
  (.cons (.ret false (.and (.cmp .eq (.bf false .len (.cons (.var 0) .nil)) (.bin false .add (.cst (.int 2)) (.var 2))) (.bf false .all (.cons (.comp false [3] (.nm 3) (.e (.slc false (.var 0) (.some (.cst (.int 2))) .none)) .none (.call 1 (.cons (.var 3) (.cons (.cst (.int 0)) (.cons (.bin false .sub (.var 1) (.cst (.int 1))) .nil))))) .nil))))
  .nil)))))
abbrev ir_single_steps : ISs := (.cons (.asg (.nm 2) (.comp true [4] (.nm 4) (.rng (.var 0)) .none (.lst true .nil)))
  (.cons (.forr (.nm 3) (.e (.var 1)) (.cons (.ife (.cmp .eq (.kget 0 zs_PARTS (.idx (.var 3) (.cst (.int 1)))) (.cst (.int 1))) (.cons (.ex (.bm false .append (.idx (.var 2) (.idx (.var 3) (.cst (.int 0)))) (.cons (.idx (.var 3) (.cst (.int 2))) .nil)))
  .nil) .nil)
  .nil))
  (.cons (.ret true (.var 2))
  .nil)))
abbrev ir_Pairsx_initx : ISs := (.cons (.ife (.not (.call 1 (.cons (.var 1) (.cons (.cst (.int 1)) (.cons (.glb 0 (.int 40)) .nil))))) (.cons (.rais 1 (.var 1))
  .nil) .nil)
  (.cons (.ife (.or (.not (.isi (.var 2) [.tuple])) (.not (.chain .le (.cst (.int 1)) (.bf false .len (.cons (.var 2) .nil)) .le (.glb 0 (.int 90))))) (.cons (.rais 2 (.var 2))
  .nil) .nil)
  (.cons (.ife (.not (.bf false .all (.cons (.comp false [4] (.nm 4) (.e (.var 2)) .none (.call 5 (.cons (.var 4) (.cons (.var 1) .nil)))) .nil))) (.cons (.rais 2 (.var 2))
  .nil) .nil)
  (.cons (.asg (.nm 3) (.call 4 (.cons (.call 6 (.cons (.var 1) (.cons (.var 2) .nil))) .nil)))
  (.cons (.ife (.cmp .isnot (.var 3) (.cst .non)) (.cons (.rais 3 (.var 3))
  .nil) .nil)
  (.cons (.setf (.var 0) 0 0 (.var 1))
  (.cons (.setf (.var 0) 0 1 (.var 2))
  .nil)))))))
abbrev ir_Pairsx_eqx : ISs := (.cons (.ret false (.and (.isi (.var 1) [(.cls 0)]) (.and (.cmp .eq (.fld (.var 0) 0 0) (.fld (.var 1) 0 0)) (.cmp .eq (.fld (.var 0) 0 1) (.fld (.var 1) 0 1)))))
  .nil)
abbrev ir__law_box : ISs := (.cons (.asg (.nm 2) (.bin false .add (.bin false .mul (.cst (.int 7919)) (.var 1)) (.cst (.int 101))))
  (.cons (.ife (.cmp .lt (.var 1) (.bf false .len (.cons (.var 0) .nil))) (.cons (.asg (.nm 2) (.bf false .abs (.cons (.idx (.var 0) (.var 1)) .nil)))
  .nil) (.cons (.ife (.cmp .gt (.bf false .len (.cons (.var 0) .nil)) (.cst (.int 0))) (.cons (.asg (.nm 2) (.bin false .add (.bin false .mul (.bin false .mod (.bf false .int (.cons (.bf false .abs (.cons (.idx (.var 0) (.bin false .mod (.bf false .int (.cons (.var 1) .nil)) (.bf false .len (.cons (.var 0) .nil)))) .nil)) .nil)) (.cst (.int 1000000007))) (.cst (.int 31))) (.bin false .mul (.cst (.int 7919)) (.var 1))))
  .nil) .nil)
  .nil))
  (.cons (.asg (.nm 3) (.idx (.lst false (.cons (.cst (.int 0)) (.cons (.var 2) .nil))) (.bf false .int (.cons (.cmp .ge (.var 2) (.bin false .pow (.cst (.int 10)) (.cst (.int 18)))) .nil))))
  (.cons (.ret false (.lst true (.cons (.var 3) (.cons (.bin false .add (.bin false .mod (.bf false .int (.cons (.bin false .add (.bin false .mul (.bin false .mod (.bf false .int (.cons (.var 2) .nil)) (.cst (.int 1000000007))) (.cst (.int 48271))) (.bin false .mul (.cst (.int 613)) (.var 1))) .nil)) (.cst (.int 2147483647))) (.cst (.int 1))) .nil))))
  .nil))))
abbrev ir__law_take : ISs := (.cons (.ife (.cmp .gt (.idx (.var 0) (.cst (.int 0))) (.cst (.int 0))) (.cons (.asg (.nm 2) (.bin false .mod (.bf false .int (.cons (.idx (.var 0) (.cst (.int 0))) .nil)) (.var 1)))
  (.cons (.seti (.var 0) (.cst (.int 0)) (.bin false .fdiv (.idx (.var 0) (.cst (.int 0))) (.var 1)))
  (.cons (.ret false (.var 2))
  .nil))) .nil)
  (.cons (.seti (.var 0) (.cst (.int 1)) (.bin false .mod (.bf false .int (.cons (.bin false .add (.bin false .mul (.idx (.var 0) (.cst (.int 1))) (.cst (.int 39373))) (.cst (.int 69621))) .nil)) (.cst (.int 2147483647))))
  (.cons (.ret false (.bin false .mod (.bf false .int (.cons (.bin false .fdiv (.idx (.var 0) (.cst (.int 1))) (.cst (.int 8191))) .nil)) (.var 1)))
  .nil)))
abbrev ir__law_pick : ISs := (.cons (.ret false (.idx (.var 1) (.call 10 (.cons (.var 0) (.cons (.bf false .len (.cons (.var 1) .nil)) .nil)))))
  .nil)
abbrev ir__law_whole : ISs := (.cons (.ret false (.and (.isi (.var 0) [.int]) (.not (.isi (.var 0) [.bool]))))
  .nil)
abbrev ir__law_is_due : ISs := (.cons (.ret false (.ite (.var 1) (.cmp .is (.var 0) (.cst (.bl true))) (.cmp .is (.var 0) (.cst (.bl false)))))
  .nil)
abbrev ir__law_spoilt : ISs := (.cons (.ife (.isi (.var 1) [.tuple]) (.cons (.asg (.nm 3) (.call 10 (.cons (.var 0) (.cons (.bin false .add (.bf false .len (.cons (.var 1) .nil)) (.cst (.int 1))) .nil))))
  (.cons (.ife (.and (.cmp .ne (.var 1) (.tup .nil)) (.and (.cmp .gt (.var 2) (.cst (.int 0))) (.cmp .gt (.call 10 (.cons (.var 0) (.cons (.cst (.int 5)) .nil))) (.cst (.int 0))))) (.cons (.asg (.nm 3) (.bin false .mod (.bf false .int (.cons (.var 3) .nil)) (.bf false .len (.cons (.var 1) .nil))))
  (.cons (.ret false (.bin false .add (.bin false .add (.slc false (.var 1) .none (.some (.var 3))) (.tup (.cons (.call 15 (.cons (.var 0) (.cons (.idx (.var 1) (.var 3)) (.cons (.bin false .sub (.var 2) (.cst (.int 1))) .nil)))) .nil))) (.slc false (.var 1) (.some (.bin false .add (.var 3) (.cst (.int 1)))) .none)))
  .nil)) .nil)
  (.cons (.asg (.nm 4) (.call 10 (.cons (.var 0) (.cons (.cst (.int 8)) .nil))))
  (.cons (.ife (.cmp .eq (.var 4) (.cst (.int 0))) (.cons (.ret false (.bf false .list (.cons (.var 1) .nil)))
  .nil) .nil)
  (.cons (.ife (.cmp .eq (.var 4) (.cst (.int 1))) (.cons (.ret false (.bin false .add (.slc false (.var 1) .none (.some (.var 3))) (.slc false (.var 1) (.some (.bin false .add (.var 3) (.cst (.int 1)))) .none)))
  .nil) .nil)
  (.cons (.ife (.cmp .eq (.var 4) (.cst (.int 2))) (.cons (.ret false (.bin false .add (.bin false .add (.slc false (.var 1) .none (.some (.var 3))) (.slc false (.var 1) (.some (.var 3)) (.some (.bin false .add (.var 3) (.cst (.int 1)))))) (.slc false (.var 1) (.some (.var 3)) .none)))
  .nil) .nil)
  (.cons (.ife (.cmp .eq (.var 4) (.cst (.int 3))) (.cons (.ret false (.bin false .add (.slc false (.var 1) (.some (.var 3)) .none) (.slc false (.var 1) .none (.some (.var 3)))))
  .nil) .nil)
  (.cons (.ife (.cmp .eq (.var 4) (.cst (.int 4))) (.cons (.ret false (.bin false .add (.var 1) (.tup (.cons (.tup .nil) .nil))))
  .nil) .nil)
  (.cons (.ife (.cmp .eq (.var 4) (.cst (.int 5))) (.cons (.ret false (.bin false .add (.bin false .add (.slc false (.var 1) .none (.some (.var 3))) (.tup (.cons (.cst (.int 0)) .nil))) (.slc false (.var 1) (.some (.var 3)) .none)))
  .nil) .nil)
  (.cons (.ife (.cmp .eq (.var 4) (.cst (.int 6))) (.cons (.ret false (.bin false .add (.slc false (.var 1) .none (.some (.neg (.cst (.int 1))))) (.slc false (.var 1) .none (.some (.cst (.int 1))))))
  .nil) .nil)
  (.cons (.ret false (.cst .non))
  .nil))))))))))) .nil)
  (.cons (.ife (.isi (.var 1) [.str]) (.cons (.ret false (.call 11 (.cons (.var 0) (.cons (.lst false (.cons (.bin false .add (.var 1) (.cst (.str "b"))) (.cons (.cst (.str "")) (.cons (.slc false (.var 1) (.some (.cst (.int 1))) .none) (.cons (.bin false .add (.cst (.str "a")) (.var 1)) (.cons (.cst (.int 0)) .nil)))))) .nil))))
  .nil) .nil)
  (.cons (.ife (.call 12 (.cons (.var 1) .nil)) (.cons (.ret false (.call 11 (.cons (.var 0) (.cons (.lst false (.cons (.bin false .add (.var 1) (.cst (.int 1))) (.cons (.bin false .sub (.var 1) (.cst (.int 1))) (.cons (.cmp .gt (.var 1) (.cst (.int 0))) (.cons (.bin false .sub (.neg (.cst (.int 1))) (.var 1)) (.cons (.tup (.cons (.var 1) .nil)) (.cons (.cst .non) (.cons (.bf false .str (.cons (.var 1) .nil)) (.cons (.bin false .add (.var 1) (.cst (.int 16))) .nil))))))))) .nil))))
  .nil) .nil)
  (.cons (.ret false (.call 11 (.cons (.var 0) (.cons (.lst false (.cons (.cst (.int 0)) (.cons (.tup .nil) (.cons (.cst (.str "none")) .nil)))) .nil))))
  .nil))))
abbrev ir__law_shuffled : ISs := (.cons (.asg (.nm 2) (.lst true .nil))
  (.cons (.forr (.nm 3) (.e (.var 1)) (.cons (.ex (.bm false .insert (.var 2) (.cons (.call 10 (.cons (.var 0) (.cons (.bin false .add (.bf false .len (.cons (.var 2) .nil)) (.cst (.int 1))) .nil))) (.cons (.var 3) .nil))))
  .nil))
  (.cons (.ret true (.var 2))
  .nil)))
abbrev ir__law_back_kind : ISs := (.cons (.forr (.nm 2) (.rng (.var 1)) (.cons (.asg (.nm 3) (.lst false .nil))
  (.cons (.forr (.nm 4) (.rng (.bin false .add (.var 1) (.cst (.int 1)))) (.cons (.asg (.nm 3) (.bin false .add (.var 3) (.comp false [5] (.nm 5) (.e (.var 0)) (.some (.and (.or (.cmp .eq (.idx (.var 5) (.cst (.int 0))) (.var 2)) (.cmp .isin (.idx (.var 5) (.cst (.int 0))) (.var 3))) (.cmp .notin (.idx (.var 5) (.cst (.int 1))) (.var 3)))) (.idx (.var 5) (.cst (.int 1))))))
  .nil))
  (.cons (.ife (.cmp .isin (.var 2) (.var 3)) (.cons (.ret false (.var 2))
  .nil) .nil)
  .nil))))
  (.cons (.ret false (.cst .non))
  .nil))
abbrev ir__law_unary : ISs := (.cons (.ret false (.comp false [1] (.nm 1) (.e (.var 0)) (.some (.cmp .isin (.idx (.var 1) (.cst (.int 1))) (.lst false (.cons (.cst (.str "same")) (.cons (.cst (.str "first")) (.cons (.cst (.str "last")) .nil)))))) (.tup (.cons (.idx (.var 1) (.cst (.int 0))) (.cons (.idx (.var 1) (.cst (.int 2))) .nil)))))
  .nil)
abbrev ir__law_grammar : ISs := (.cons (.asg (.nm 2) (.call 9 (.cons (.var 0) (.cons (.cst (.int 0)) .nil))))
  (.cons (.asg (.nm 3) (.call 11 (.cons (.var 2) (.cons (.lst false (.cons (.cst (.int 1)) (.cons (.cst (.int 2)) (.cons (.cst (.int 2)) (.cons (.cst (.int 3)) (.cons (.cst (.int 3)) (.cons (.cst (.int 4)) (.cons (.cst (.int 6)) (.cons (.cst (.int 8)) .nil))))))))) .nil))))
  (.cons (.asg (.nm 4) (.call 11 (.cons (.var 2) (.cons (.lst false (.cons (.lst false (.cons (.cst (.str "a")) .nil)) (.cons (.lst false (.cons (.cst (.str "a")) (.cons (.cst (.str "ab")) .nil))) (.cons (.lst false (.cons (.cst (.str "a")) (.cons (.cst (.str "ab")) (.cons (.cst (.str "b")) .nil)))) (.cons (.lst false (.cons (.cst (.str "b")) (.cons (.cst (.str "aab")) .nil))) .nil))))) .nil))))
  (.cons (.asg (.nm 5) (.lst true .nil))
  (.cons (.forr (.nm 6) (.rng (.bin false .add (.cst (.int 2)) (.call 10 (.cons (.var 2) (.cons (.bin false .sub (.var 1) (.cst (.int 1))) .nil))))) (.cons (.asg (.nm 7) (.call 10 (.cons (.var 2) (.cons (.var 3) .nil))))
  (.cons (.asg (.nm 8) (.call 11 (.cons (.var 2) (.cons (.lst false (.cons (.cst (.str "left")) (.cons (.cst (.str "right")) (.cons (.cst (.str "wrap")) (.cons (.cst (.str "wrap")) (.cons (.cst (.str "ahead")) (.cons (.cst (.str "behind")) (.cons (.cst (.str "left")) (.cons (.cst (.str "right")) (.cons (.cst (.str "same")) (.cons (.cst (.str "first")) (.cons (.cst (.str "last")) .nil)))))))))))) .nil))))
  (.cons (.asg (.nm 9) (.tup (.cons (.var 7) (.cons (.var 8) (.cons (.call 10 (.cons (.var 2) (.cons (.var 3) .nil))) .nil)))))
  (.cons (.ife (.cmp .isin (.var 8) (.lst false (.cons (.cst (.str "left")) (.cons (.cst (.str "right")) .nil)))) (.cons (.asg (.nm 9) (.tup (.cons (.var 7) (.cons (.var 8) (.cons (.call 11 (.cons (.var 2) (.cons (.var 4) .nil))) .nil)))))
  .nil) (.cons (.ife (.cmp .isin (.var 8) (.lst false (.cons (.cst (.str "wrap")) (.cons (.cst (.str "ahead")) (.cons (.cst (.str "behind")) .nil))))) (.cons (.asg (.nm 9) (.bin false .add (.var 9) (.tup (.cons (.call 10 (.cons (.var 2) (.cons (.var 3) .nil))) .nil))))
  .nil) .nil)
  .nil))
  (.cons (.ife (.cmp .is (.call 17 (.cons (.call 18 (.cons (.bin false .add (.var 5) (.lst false (.cons (.var 9) .nil))) .nil)) (.cons (.var 3) .nil))) (.cst .non)) (.cons (.ex (.bm false .append (.var 5) (.cons (.var 9) .nil)))
  .nil) .nil)
  .nil))))))
  (.cons (.ife (.cmp .gt (.call 10 (.cons (.var 2) (.cons (.cst (.int 6)) .nil))) (.cst (.int 0))) (.cons (.forr (.nm 7) (.rng (.var 3)) (.cons (.ife (.and (.cmp .lt (.bf false .len (.cons (.var 5) .nil)) (.var 1)) (.cmp .eq (.comp false [9] (.nm 9) (.e (.var 5)) (.some (.and (.cmp .eq (.idx (.var 9) (.cst (.int 0))) (.var 7)) (.cmp .isin (.idx (.var 9) (.cst (.int 1))) (.lst false (.cons (.cst (.str "left")) (.cons (.cst (.str "right")) .nil)))))) (.var 9)) (.lst false .nil))) (.cons (.ex (.bm false .append (.var 5) (.cons (.tup (.cons (.var 7) (.cons (.call 11 (.cons (.var 2) (.cons (.lst false (.cons (.cst (.str "left")) (.cons (.cst (.str "right")) .nil))) .nil))) (.cons (.call 11 (.cons (.var 2) (.cons (.var 4) .nil))) .nil)))) .nil)))
  .nil) .nil)
  .nil))
  .nil) .nil)
  (.cons (.ife (.cmp .eq (.var 5) (.lst false .nil)) (.cons (.asg (.nm 5) (.lst true (.cons (.tup (.cons (.cst (.int 0)) (.cons (.cst (.str "left")) (.cons (.cst (.str "a")) .nil)))) .nil)))
  .nil) .nil)
  (.cons (.ret true (.tup (.cons (.var 3) (.cons (.bf false .tuple (.cons (.call 16 (.cons (.var 2) (.cons (.var 5) .nil))) .nil)) .nil))))
  .nil))))))))
abbrev ir__law_made : ISs := (.cons (.ret false (.mk 0 7 (.cons (.idx (.var 0) (.cst (.int 0))) (.cons (.idx (.var 0) (.cst (.int 1))) .nil))))
  .nil)
abbrev ir__law_is_word : ISs := (.cons (.ret false (.and (.isi (.var 0) [.str]) (.and (.cmp .isin (.bf false .len (.cons (.var 0) .nil)) (.lst false (.cons (.cst (.int 1)) (.cons (.cst (.int 2)) (.cons (.cst (.int 3)) .nil))))) (.cmp .eq (.comp false [1] (.nm 1) (.e (.var 0)) (.some (.or (.cmp .lt (.var 1) (.cst (.str "a"))) (.cmp .gt (.var 1) (.cst (.str "z"))))) (.var 1)) (.lst false .nil)))))
  .nil)
abbrev ir_law : ISs := (.cons (.asg (.nm 1) (.call 19 (.cons (.var 0) (.cons (.cst (.int 9)) .nil))))
  (.cons (.asg (.nm 2) (.call 9 (.cons (.var 0) (.cons (.cst (.int 4)) .nil))))
  (.cons (.asg (.nm 3) (.call 20 (.cons (.var 1) .nil)))
  (.cons (.asg (.tp (.cons (.nm 4) (.cons (.nm 5) .nil))) (.tup (.cons (.call 35 (.cons (.var 2) (.cons (.var 1) (.cons (.cst (.int 8)) .nil)))) (.cons (.call 35 (.cons (.var 2) (.cons (.var 1) (.cons (.cst (.int 3)) .nil)))) .nil))))
  (.cons (.asg (.nm 6) (.lst true (.cons (.tup (.cons (.cst (.str "text")) (.cons (.var 4) .nil))) (.cons (.tup (.cons (.cst (.str "readings")) (.cons (.var 5) .nil))) (.cons (.tup (.cons (.cst (.str "longest")) .nil)) (.cons (.tup (.cons (.cst (.str "text")) (.cons (.tup .nil) .nil))) (.cons (.tup (.cons (.cst (.str "text")) (.cons (.bin false .mul (.tup (.cons (.cst (.str "abc")) .nil)) (.cst (.int 8))) .nil))) .nil)))))))
  (.cons (.asg (.nm 6) (.bin true .add (.var 6) (.lst false (.cons (.tup (.cons (.cst (.str "text")) (.cons (.bin false .mul (.tup (.cons (.cst (.str "a")) .nil)) (.cst (.int 9))) .nil))) (.cons (.tup (.cons (.cst (.str "text")) (.cons (.bf false .list (.cons (.var 4) .nil)) .nil))) (.cons (.tup (.cons (.cst (.str "text")) (.cons (.tup (.cons (.cst (.str "A")) .nil)) .nil))) (.cons (.tup (.cons (.cst (.str "text")) (.cons (.tup (.cons (.cst (.int 1)) .nil)) .nil))) (.cons (.tup (.cons (.cst (.str "text")) .nil)) (.cons (.tup (.cons (.cst (.str "text")) (.cons (.var 4) (.cons (.cst (.int 0)) .nil)))) (.cons (.tup (.cons (.cst (.str "readings")) .nil)) (.cons (.tup (.cons (.cst (.str "readings")) (.cons (.var 4) (.cons (.cst (.int 3)) .nil)))) .nil)))))))))))
  (.cons (.asg (.nm 6) (.bin true .add (.var 6) (.lst false (.cons (.tup (.cons (.cst (.str "longest")) (.cons (.cst (.int 3)) .nil))) (.cons (.tup (.cons (.cst (.str "told")) (.cons (.var 4) .nil))) (.cons (.tup (.cons (.cst (.str "any")) .nil)) (.cons (.cst .non) (.cons (.tup .nil) (.cons (.lst false (.cons (.cst (.str "longest")) .nil)) (.cons (.tup (.cons (.lst false .nil) .nil)) (.cons (.cst (.str "longest")) (.cons (.tup (.cons (.cst (.int 0)) .nil)) (.cons (.tup (.cons (.cst (.str "text")) (.cons (.cst (.str "a")) .nil))) (.cons (.tup (.cons (.cst (.str "text")) (.cons (.tup (.cons (.cst (.str "abcd")) .nil)) .nil))) (.cons (.tup (.cons (.cst (.str "text")) (.cons (.tup (.cons (.cst (.str "")) .nil)) .nil))) (.cons (.tup (.cons (.lst false (.cons (.cst (.str "text")) .nil)) (.cons (.var 4) .nil))) .nil))))))))))))))))
  (.cons (.asg (.nm 7) (.lst true (.cons (.tup (.cons (.cst (.str "told")) (.cons (.var 4) .nil))) (.cons (.tup (.cons (.cst (.str "not told")) (.cons (.var 5) .nil))) (.cons (.tup (.cons (.cst (.str "readings")) (.cons (.var 4) (.cons (.call 10 (.cons (.var 2) (.cons (.cst (.int 9)) .nil))) .nil)))) (.cons (.tup (.cons (.cst (.str "longest")) (.cons (.call 10 (.cons (.var 2) (.cons (.cst (.int 30)) .nil))) .nil))) (.cons (.tup (.cons (.cst (.str "any")) .nil)) (.cons (.tup (.cons (.cst (.str "nothing")) .nil)) (.cons (.tup (.cons (.cst (.str "readings")) (.cons (.var 5) (.cons (.bin false .pow (.cst (.int 10)) (.cst (.int 9))) .nil)))) (.cons (.tup (.cons (.cst (.str "longest")) (.cons (.bin false .pow (.cst (.int 10)) (.cst (.int 9))) .nil))) .nil))))))))))
  (.cons (.asg (.nm 7) (.bin true .add (.var 7) (.lst false (.cons (.tup (.cons (.cst (.str "readings")) (.cons (.var 4) (.cons (.neg (.cst (.int 1))) .nil)))) (.cons (.tup (.cons (.cst (.str "readings")) (.cons (.var 4) (.cons (.cst (.bl true)) .nil)))) (.cons (.tup (.cons (.cst (.str "readings")) (.cons (.var 4) .nil))) (.cons (.tup (.cons (.cst (.str "longest")) .nil)) (.cons (.tup (.cons (.cst (.str "longest")) (.cons (.neg (.cst (.int 1))) .nil))) (.cons (.tup (.cons (.cst (.str "longest")) (.cons (.cst (.bl true)) .nil))) (.cons (.tup (.cons (.cst (.str "any")) (.cons (.cst (.int 1)) .nil))) (.cons (.tup (.cons (.cst (.str "nothing")) (.cons (.cst (.int 0)) .nil))) (.cons (.tup (.cons (.cst (.str "told")) .nil)) .nil))))))))))))
  (.cons (.asg (.nm 7) (.bin true .add (.var 7) (.lst false (.cons (.tup (.cons (.cst (.str "told")) (.cons (.bin false .mul (.tup (.cons (.cst (.str "a")) .nil)) (.cst (.int 9))) .nil))) (.cons (.tup (.cons (.cst (.str "not told")) (.cons (.lst false (.cons (.cst (.str "a")) .nil)) .nil))) (.cons (.tup (.cons (.cst (.str "text")) (.cons (.var 4) .nil))) (.cons (.cst .non) (.cons (.tup .nil) (.cons (.lst false (.cons (.cst (.str "any")) .nil)) (.cons (.tup (.cons (.lst false .nil) .nil)) (.cons (.cst (.str "any")) (.cons (.tup (.cons (.lst false (.cons (.cst (.str "any")) .nil)) .nil)) (.cons (.tup (.cons (.cst (.str "told")) (.cons (.var 4) (.cons (.var 4) .nil)))) .nil)))))))))))))
  (.cons (.forr (.nm 8) (.rng (.cst (.int 6))) (.cons (.ex (.bm false .append (.var 6) (.cons (.call 15 (.cons (.var 2) (.cons (.call 11 (.cons (.var 2) (.cons (.slc false (.var 6) .none (.some (.cst (.int 5)))) .nil))) (.cons (.cst (.int 3)) .nil)))) .nil)))
  (.cons (.ex (.bm false .append (.var 7) (.cons (.call 15 (.cons (.var 2) (.cons (.call 11 (.cons (.var 2) (.cons (.slc false (.var 7) .none (.some (.cst (.int 8)))) .nil))) (.cons (.cst (.int 3)) .nil)))) .nil)))
  .nil)))
  (.cons (.forr (.nm 9) (.e (.var 6)) (.cons (.asg (.nm 10) (.call 38 (.cons (.var 9) .nil)))
  (.cons (.ife (.not (.call 14 (.cons (.call 29 (.cons (.var 3) (.cons (.var 9) .nil))) (.cons (.var 10) .nil)))) (.cons (.ret true (.cst (.bl false)))
  .nil) .nil)
  (.cons (.ife (.and (.not (.var 10)) (.or (.cmp .ne (.call 40 (.cons (.cst (.int 0)) (.cons (.var 3) (.cons (.var 9) .nil)))) (.tup (.cons (.cst (.str "question")) (.cons (.var 9) .nil)))) (.cmp .ne (.call 40 (.cons (.cst (.int 1)) (.cons (.var 3) (.cons (.var 9) .nil)))) (.tup (.cons (.cst (.str "question")) (.cons (.var 9) .nil)))))) (.cons (.ret true (.cst (.bl false)))
  .nil) .nil)
  .nil))))
  (.cons (.forr (.nm 9) (.e (.var 7)) (.cons (.asg (.nm 10) (.call 37 (.cons (.var 9) .nil)))
  (.cons (.ife (.not (.call 14 (.cons (.call 30 (.cons (.var 3) (.cons (.var 9) .nil))) (.cons (.var 10) .nil)))) (.cons (.ret true (.cst (.bl false)))
  .nil) .nil)
  (.cons (.ife (.or (.and (.var 10) (.cmp .ne (.call 31 (.cons (.var 3) (.cons (.var 9) .nil))) (.call 39 (.cons (.var 9) .nil)))) (.and (.not (.var 10)) (.cmp .ne (.call 40 (.cons (.cst (.int 2)) (.cons (.var 3) (.cons (.var 9) .nil)))) (.tup (.cons (.cst (.str "claim")) (.cons (.var 9) .nil)))))) (.cons (.ret true (.cst (.bl false)))
  .nil) .nil)
  .nil))))
  (.cons (.ret true (.cst (.bl true)))
  .nil))))))))))))))
abbrev ir_is_text : ISs := (.cons (.ret false (.and (.isi (.var 0) [.tuple]) (.and (.cmp .le (.bf false .len (.cons (.var 0) .nil)) (.glb 0 (.int 8))) (.bf false .all (.cons (.comp false [1] (.nm 1) (.e (.var 0)) .none (.call 2 (.cons (.var 1) .nil))) .nil)))))
  .nil)
abbrev ir_has_word : ISs := (.cons (.ret false (.and (.isi (.var 0) [.tuple]) (.and (.cmp .gt (.bf false .len (.cons (.var 0) .nil)) (.cst (.int 0))) (.and (.isi (.idx (.var 0) (.cst (.int 0))) [.str]) (.cmp .isin (.idx (.var 0) (.cst (.int 0))) (.var 1))))))
  .nil)
abbrev ir_is_number : ISs := (.cons (.ret false (.and (.call 0 (.cons (.var 0) .nil)) (.cmp .ge (.var 0) (.cst (.int 0)))))
  .nil)
abbrev ir_is_question : ISs := (.cons (.ife (.not (.call 27 (.cons (.var 1) (.cons (.tup (.cons (.cst (.str "text")) (.cons (.cst (.str "readings")) (.cons (.cst (.str "longest")) .nil)))) .nil)))) (.cons (.ret false (.cst (.bl false)))
  .nil) .nil)
  (.cons (.ife (.cmp .eq (.idx (.var 1) (.cst (.int 0))) (.cst (.str "longest"))) (.cons (.ret false (.cmp .eq (.bf false .len (.cons (.var 1) .nil)) (.cst (.int 1))))
  .nil) .nil)
  (.cons (.ret false (.and (.cmp .eq (.bf false .len (.cons (.var 1) .nil)) (.cst (.int 2))) (.call 26 (.cons (.idx (.var 1) (.cst (.int 1))) .nil))))
  .nil)))
abbrev ir_is_claim : ISs := (.cons (.ife (.not (.call 27 (.cons (.var 1) (.cons (.lst false (.cons (.cst (.str "told")) (.cons (.cst (.str "not told")) (.cons (.cst (.str "readings")) (.cons (.cst (.str "longest")) (.cons (.cst (.str "any")) (.cons (.cst (.str "nothing")) .nil))))))) .nil)))) (.cons (.ret false (.cst (.bl false)))
  .nil) .nil)
  (.cons (.asg (.nm 2) (.idx (.var 1) (.cst (.int 0))))
  (.cons (.ife (.or (.cmp .eq (.var 2) (.cst (.str "any"))) (.cmp .eq (.var 2) (.cst (.str "nothing")))) (.cons (.ret false (.cmp .eq (.bf false .len (.cons (.var 1) .nil)) (.cst (.int 1))))
  .nil) .nil)
  (.cons (.ife (.cmp .eq (.var 2) (.cst (.str "longest"))) (.cons (.ret false (.and (.cmp .eq (.bf false .len (.cons (.var 1) .nil)) (.cst (.int 2))) (.call 28 (.cons (.idx (.var 1) (.cst (.int 1))) .nil))))
  .nil) .nil)
  (.cons (.ife (.cmp .eq (.var 2) (.cst (.str "readings"))) (.cons (.ret false (.and (.cmp .eq (.bf false .len (.cons (.var 1) .nil)) (.cst (.int 3))) (.and (.call 26 (.cons (.idx (.var 1) (.cst (.int 1))) .nil)) (.call 28 (.cons (.idx (.var 1) (.cst (.int 2))) .nil)))))
  .nil) .nil)
  (.cons (.ret false (.and (.cmp .eq (.bf false .len (.cons (.var 1) .nil)) (.cst (.int 2))) (.call 26 (.cons (.idx (.var 1) (.cst (.int 1))) .nil))))
  .nil))))))
abbrev ir_question_of : ISs := (.cons (.ife (.not (.call 30 (.cons (.var 0) (.cons (.var 1) .nil)))) (.cons (.rais 6 (.var 1))
  .nil) .nil)
  (.cons (.asg (.nm 2) (.kget 0 zs_WORDS (.idx (.var 1) (.cst (.int 0)))))
  (.cons (.ret false (.ite (.cmp .eq (.var 2) (.cst (.str "longest"))) (.tup (.cons (.var 2) .nil)) (.tup (.cons (.var 2) (.cons (.idx (.var 1) (.cst (.int 1))) .nil)))))
  .nil)))
abbrev ir_answer_of : ISs := (.cons (.ife (.not (.call 29 (.cons (.var 0) (.cons (.var 1) .nil)))) (.cons (.rais 5 (.var 1))
  .nil) .nil)
  (.cons .bad
  (.cons .bad
  (.cons .bad
  (.cons .bad
  (.cons .bad
  (.cons .bad
  .nil)))))))
abbrev ir_paper_of : ISs := (.cons (.asg (.nm 2) (.call 32 (.cons (.var 0) (.cons (.var 1) .nil))))
  (.cons .bad
  (.cons .bad
  (.cons .bad
  (.cons .bad
  (.cons .bad
  (.cons .bad
  .nil)))))))
abbrev ir__law_words : ISs := (.cons (.asg (.nm 1) (.lst true .nil))
  (.cons (.forr (.nm 2) (.e (.idx (.var 0) (.cst (.int 1)))) (.cons (.ife (.and (.cmp .isin (.idx (.var 2) (.cst (.int 1))) (.lst false (.cons (.cst (.str "left")) (.cons (.cst (.str "right")) .nil)))) (.cmp .notin (.idx (.var 2) (.cst (.int 2))) (.var 1))) (.cons (.ex (.bm false .append (.var 1) (.cons (.idx (.var 2) (.cst (.int 2))) .nil)))
  .nil) .nil)
  .nil))
  (.cons (.ret true (.var 1))
  .nil)))
abbrev ir__law_drawn_text : ISs := (.cons (.asg (.nm 3) (.bin false .add (.call 34 (.cons (.var 1) .nil)) (.lst false (.cons (.cst (.str "z")) .nil))))
  (.cons (.ret false (.bf false .tuple (.cons (.comp false [4] (.nm 4) (.rng (.call 10 (.cons (.var 0) (.cons (.bin false .add (.var 2) (.cst (.int 1))) .nil)))) .none (.call 11 (.cons (.var 0) (.cons (.ite (.and (.cmp .gt (.bf false .len (.cons (.var 3) .nil)) (.cst (.int 1))) (.cmp .gt (.call 10 (.cons (.var 0) (.cons (.cst (.int 12)) .nil))) (.cst (.int 0)))) (.slc false (.var 3) .none (.some (.neg (.cst (.int 1))))) (.var 3)) .nil)))) .nil)))
  .nil))
abbrev ir__law_is_text : ISs := (.cons (.ret false (.and (.isi (.var 0) [.tuple]) (.and (.cmp .le (.bf false .len (.cons (.var 0) .nil)) (.var 1)) (.cmp .eq (.comp false [2] (.nm 2) (.e (.var 0)) (.some (.not (.call 21 (.cons (.var 2) .nil)))) (.var 2)) (.lst false .nil)))))
  .nil)
abbrev ir__law_claim_form : ISs := (.cons (.ife (.or (.not (.isi (.var 0) [.tuple])) (.or (.cmp .eq (.var 0) (.tup .nil)) (.not (.isi (.idx (.var 0) (.cst (.int 0))) [.str])))) (.cons (.ret false (.cst (.bl false)))
  .nil) .nil)
  (.cons (.ife (.cmp .isin (.idx (.var 0) (.cst (.int 0))) (.lst false (.cons (.cst (.str "told")) (.cons (.cst (.str "not told")) .nil)))) (.cons (.ret false (.and (.cmp .eq (.bf false .len (.cons (.var 0) .nil)) (.cst (.int 2))) (.call 36 (.cons (.idx (.var 0) (.cst (.int 1))) (.cons (.cst (.int 8)) .nil)))))
  .nil) .nil)
  (.cons (.ife (.cmp .eq (.idx (.var 0) (.cst (.int 0))) (.cst (.str "readings"))) (.cons (.ret false (.and (.cmp .eq (.bf false .len (.cons (.var 0) .nil)) (.cst (.int 3))) (.and (.call 36 (.cons (.idx (.var 0) (.cst (.int 1))) (.cons (.cst (.int 8)) .nil))) (.and (.call 12 (.cons (.idx (.var 0) (.cst (.int 2))) .nil)) (.cmp .ge (.idx (.var 0) (.cst (.int 2))) (.cst (.int 0)))))))
  .nil) .nil)
  (.cons (.ife (.cmp .eq (.idx (.var 0) (.cst (.int 0))) (.cst (.str "longest"))) (.cons (.ret false (.and (.cmp .eq (.bf false .len (.cons (.var 0) .nil)) (.cst (.int 2))) (.and (.call 12 (.cons (.idx (.var 0) (.cst (.int 1))) .nil)) (.cmp .ge (.idx (.var 0) (.cst (.int 1))) (.cst (.int 0))))))
  .nil) .nil)
  (.cons (.ret false (.and (.cmp .isin (.idx (.var 0) (.cst (.int 0))) (.lst false (.cons (.cst (.str "any")) (.cons (.cst (.str "nothing")) .nil)))) (.cmp .eq (.bf false .len (.cons (.var 0) .nil)) (.cst (.int 1)))))
  .nil)))))
abbrev ir__law_is_question : ISs := (.cons (.ife (.or (.not (.isi (.var 0) [.tuple])) (.or (.cmp .eq (.var 0) (.tup .nil)) (.not (.isi (.idx (.var 0) (.cst (.int 0))) [.str])))) (.cons (.ret false (.cst (.bl false)))
  .nil) .nil)
  (.cons (.ife (.cmp .eq (.idx (.var 0) (.cst (.int 0))) (.cst (.str "longest"))) (.cons (.ret false (.cmp .eq (.bf false .len (.cons (.var 0) .nil)) (.cst (.int 1))))
  .nil) .nil)
  (.cons (.ret false (.and (.cmp .isin (.idx (.var 0) (.cst (.int 0))) (.lst false (.cons (.cst (.str "text")) (.cons (.cst (.str "readings")) .nil)))) (.and (.cmp .eq (.bf false .len (.cons (.var 0) .nil)) (.cst (.int 2))) (.call 36 (.cons (.idx (.var 0) (.cst (.int 1))) (.cons (.cst (.int 8)) .nil))))))
  .nil)))
abbrev ir__law_asked : ISs := (.cons (.ife (.cmp .isin (.idx (.var 0) (.cst (.int 0))) (.lst false (.cons (.cst (.str "told")) (.cons (.cst (.str "not told")) .nil)))) (.cons (.ret false (.tup (.cons (.cst (.str "text")) (.cons (.idx (.var 0) (.cst (.int 1))) .nil))))
  .nil) .nil)
  (.cons (.ret false (.ite (.cmp .eq (.idx (.var 0) (.cst (.int 0))) (.cst (.str "readings"))) (.slc false (.var 0) .none (.some (.cst (.int 2)))) (.tup (.cons (.cst (.str "longest")) .nil))))
  .nil))
abbrev ir__law_error : ISs := (.cons (.tr (.cons (.ife (.cmp .eq (.var 0) (.cst (.int 0))) (.cons (.ex (.call 32 (.cons (.var 1) (.cons (.var 2) .nil))))
  .nil) (.cons (.ife (.cmp .eq (.var 0) (.cst (.int 1))) (.cons (.ex (.call 33 (.cons (.var 1) (.cons (.var 2) .nil))))
  .nil) (.cons (.ex (.call 31 (.cons (.var 1) (.cons (.var 2) .nil))))
  .nil))
  .nil))
  .nil) (.cons 5 3 (.cons (.ret true (.tup (.cons (.cst (.str "question")) (.cons (.fle (.var 3) 2) .nil))))
  .nil) (.cons 6 3 (.cons (.ret true (.tup (.cons (.cst (.str "claim")) (.cons (.fle (.var 3) 2) .nil))))
  .nil) .nil)))
  (.cons (.ret false (.tup (.cons (.cst (.str "none")) (.cons (.cst .non) .nil))))
  .nil))
def prg : Prg := { fns := [⟨1, 1, true, ir_is_integer⟩, ⟨3, 3, true, ir_is_integer_in⟩, ⟨1, 2, true, ir_is_word⟩, ⟨2, 5, true, ir_reached⟩, ⟨1, 2, true, ir_least_back⟩, ⟨2, 4, true, ir_is_rule⟩, ⟨2, 5, true, ir_single_steps⟩, ⟨3, 5, false, ir_Pairsx_initx⟩, ⟨2, 2, true, ir_Pairsx_eqx⟩, ⟨2, 4, false, ir__law_box⟩, ⟨2, 3, true, ir__law_take⟩, ⟨2, 2, true, ir__law_pick⟩, ⟨1, 1, true, ir__law_whole⟩, ⟨0, 0, true, .nil⟩, ⟨2, 2, true, ir__law_is_due⟩, ⟨3, 5, true, ir__law_spoilt⟩, ⟨2, 4, true, ir__law_shuffled⟩, ⟨2, 6, true, ir__law_back_kind⟩, ⟨1, 2, true, ir__law_unary⟩, ⟨2, 10, true, ir__law_grammar⟩, ⟨1, 1, false, ir__law_made⟩, ⟨1, 2, true, ir__law_is_word⟩, ⟨0, 0, true, .nil⟩, ⟨0, 0, true, .nil⟩, ⟨0, 0, true, .nil⟩, ⟨1, 11, true, ir_law⟩, ⟨1, 2, true, ir_is_text⟩, ⟨2, 2, true, ir_has_word⟩, ⟨1, 1, true, ir_is_number⟩, ⟨2, 2, true, ir_is_question⟩, ⟨2, 3, true, ir_is_claim⟩, ⟨2, 3, true, ir_question_of⟩, ⟨2, 4, true, ir_answer_of⟩, ⟨2, 4, true, ir_paper_of⟩, ⟨1, 3, true, ir__law_words⟩, ⟨3, 5, true, ir__law_drawn_text⟩, ⟨2, 3, true, ir__law_is_text⟩, ⟨1, 1, true, ir__law_claim_form⟩, ⟨1, 1, true, ir__law_is_question⟩, ⟨1, 1, true, ir__law_asked⟩, ⟨3, 4, true, ir__law_error⟩], sub := subOf, xi := xiOf }
structure Fx (prog : Program) (w : World) (K : PySem.W.Frag) (mg : Str → Option Value) (base : Heap) (k : Nat) : Prop where
  n_abs : mg "abs" = none
  n_all : mg "all" = none
  n_bool : mg "bool" = none
  n_int : mg "int" = none
  n_isinstance : mg "isinstance" = none
  n_len : mg "len" = none
  n_list : mg "list" = none
  n_range : mg "range" = none
  n_str : mg "str" = none
  n_tuple : mg "tuple" = none
  c_MOST_KINDS : ∃ t, mg "MOST_KINDS" = some (.int 40 t)
  c_MOST_LETTERS : ∃ t, mg "MOST_LETTERS" = some (.int 3 t)
  c_MOST_RULES : ∃ t, mg "MOST_RULES" = some (.int 90 t)
  c_MOST_WORDS : ∃ t, mg "MOST_WORDS" = some (.int 8 t)
  c_LETTERS : ∃ t, mg "LETTERS" = some (.str "abcdefghijklmnopqrstuvwxyz" t)
  g_is_integer : mg "is_integer" = some (.ref (He.ga K "is_integer"))
  k_is_integer : PySem.W.keepIn K (.ref (He.ga K "is_integer")) = true
  g_is_integer_in : mg "is_integer_in" = some (.ref (He.ga K "is_integer_in"))
  k_is_integer_in : PySem.W.keepIn K (.ref (He.ga K "is_integer_in")) = true
  g_is_word : mg "is_word" = some (.ref (He.ga K "is_word"))
  k_is_word : PySem.W.keepIn K (.ref (He.ga K "is_word")) = true
  g_reached : mg "reached" = some (.ref (He.ga K "reached"))
  k_reached : PySem.W.keepIn K (.ref (He.ga K "reached")) = true
  g_least_back : mg "least_back" = some (.ref (He.ga K "least_back"))
  k_least_back : PySem.W.keepIn K (.ref (He.ga K "least_back")) = true
  g_is_rule : mg "is_rule" = some (.ref (He.ga K "is_rule"))
  k_is_rule : PySem.W.keepIn K (.ref (He.ga K "is_rule")) = true
  g_single_steps : mg "single_steps" = some (.ref (He.ga K "single_steps"))
  k_single_steps : PySem.W.keepIn K (.ref (He.ga K "single_steps")) = true
  g__law_box : mg "_law_box" = some (.ref (He.ga K "_law_box"))
  k__law_box : PySem.W.keepIn K (.ref (He.ga K "_law_box")) = true
  g__law_take : mg "_law_take" = some (.ref (He.ga K "_law_take"))
  k__law_take : PySem.W.keepIn K (.ref (He.ga K "_law_take")) = true
  g__law_pick : mg "_law_pick" = some (.ref (He.ga K "_law_pick"))
  k__law_pick : PySem.W.keepIn K (.ref (He.ga K "_law_pick")) = true
  g__law_whole : mg "_law_whole" = some (.ref (He.ga K "_law_whole"))
  k__law_whole : PySem.W.keepIn K (.ref (He.ga K "_law_whole")) = true
  g__law_is_due : mg "_law_is_due" = some (.ref (He.ga K "_law_is_due"))
  k__law_is_due : PySem.W.keepIn K (.ref (He.ga K "_law_is_due")) = true
  g__law_spoilt : mg "_law_spoilt" = some (.ref (He.ga K "_law_spoilt"))
  k__law_spoilt : PySem.W.keepIn K (.ref (He.ga K "_law_spoilt")) = true
  g__law_shuffled : mg "_law_shuffled" = some (.ref (He.ga K "_law_shuffled"))
  k__law_shuffled : PySem.W.keepIn K (.ref (He.ga K "_law_shuffled")) = true
  g__law_back_kind : mg "_law_back_kind" = some (.ref (He.ga K "_law_back_kind"))
  k__law_back_kind : PySem.W.keepIn K (.ref (He.ga K "_law_back_kind")) = true
  g__law_unary : mg "_law_unary" = some (.ref (He.ga K "_law_unary"))
  k__law_unary : PySem.W.keepIn K (.ref (He.ga K "_law_unary")) = true
  g__law_grammar : mg "_law_grammar" = some (.ref (He.ga K "_law_grammar"))
  k__law_grammar : PySem.W.keepIn K (.ref (He.ga K "_law_grammar")) = true
  g__law_made : mg "_law_made" = some (.ref (He.ga K "_law_made"))
  k__law_made : PySem.W.keepIn K (.ref (He.ga K "_law_made")) = true
  g__law_is_word : mg "_law_is_word" = some (.ref (He.ga K "_law_is_word"))
  k__law_is_word : PySem.W.keepIn K (.ref (He.ga K "_law_is_word")) = true
  g_law : mg "law" = some (.ref (He.ga K "law"))
  k_law : PySem.W.keepIn K (.ref (He.ga K "law")) = true
  g_is_text : mg "is_text" = some (.ref (He.ga K "is_text"))
  k_is_text : PySem.W.keepIn K (.ref (He.ga K "is_text")) = true
  g_has_word : mg "has_word" = some (.ref (He.ga K "has_word"))
  k_has_word : PySem.W.keepIn K (.ref (He.ga K "has_word")) = true
  g_is_number : mg "is_number" = some (.ref (He.ga K "is_number"))
  k_is_number : PySem.W.keepIn K (.ref (He.ga K "is_number")) = true
  g_is_question : mg "is_question" = some (.ref (He.ga K "is_question"))
  k_is_question : PySem.W.keepIn K (.ref (He.ga K "is_question")) = true
  g_is_claim : mg "is_claim" = some (.ref (He.ga K "is_claim"))
  k_is_claim : PySem.W.keepIn K (.ref (He.ga K "is_claim")) = true
  g_question_of : mg "question_of" = some (.ref (He.ga K "question_of"))
  k_question_of : PySem.W.keepIn K (.ref (He.ga K "question_of")) = true
  g_answer_of : mg "answer_of" = some (.ref (He.ga K "answer_of"))
  k_answer_of : PySem.W.keepIn K (.ref (He.ga K "answer_of")) = true
  g_paper_of : mg "paper_of" = some (.ref (He.ga K "paper_of"))
  k_paper_of : PySem.W.keepIn K (.ref (He.ga K "paper_of")) = true
  g__law_words : mg "_law_words" = some (.ref (He.ga K "_law_words"))
  k__law_words : PySem.W.keepIn K (.ref (He.ga K "_law_words")) = true
  g__law_drawn_text : mg "_law_drawn_text" = some (.ref (He.ga K "_law_drawn_text"))
  k__law_drawn_text : PySem.W.keepIn K (.ref (He.ga K "_law_drawn_text")) = true
  g__law_is_text : mg "_law_is_text" = some (.ref (He.ga K "_law_is_text"))
  k__law_is_text : PySem.W.keepIn K (.ref (He.ga K "_law_is_text")) = true
  g__law_claim_form : mg "_law_claim_form" = some (.ref (He.ga K "_law_claim_form"))
  k__law_claim_form : PySem.W.keepIn K (.ref (He.ga K "_law_claim_form")) = true
  g__law_is_question : mg "_law_is_question" = some (.ref (He.ga K "_law_is_question"))
  k__law_is_question : PySem.W.keepIn K (.ref (He.ga K "_law_is_question")) = true
  g__law_asked : mg "_law_asked" = some (.ref (He.ga K "_law_asked"))
  k__law_asked : PySem.W.keepIn K (.ref (He.ga K "_law_asked")) = true
  g__law_error : mg "_law_error" = some (.ref (He.ga K "_law_error"))
  k__law_error : PySem.W.keepIn K (.ref (He.ga K "_law_error")) = true
  g_Pairs : mg "Pairs" = some (.ref (He.ga K "Pairs"))
  g_GraftError : mg "GraftError" = some (.ref (He.ga K "GraftError"))
  g_InvalidNumber : mg "InvalidNumber" = some (.ref (He.ga K "InvalidNumber"))
  g_InvalidRules : mg "InvalidRules" = some (.ref (He.ga K "InvalidRules"))
  g_Endless : mg "Endless" = some (.ref (He.ga K "Endless"))
  g_InvalidText : mg "InvalidText" = some (.ref (He.ga K "InvalidText"))
  g_InvalidQuestion : mg "InvalidQuestion" = some (.ref (He.ga K "InvalidQuestion"))
  g_InvalidClaim : mg "InvalidClaim" = some (.ref (He.ga K "InvalidClaim"))
  g_Undefined : mg "Undefined" = some (.ref (He.ga K "Undefined"))
  g_PARTS : mg "PARTS" = some (.ref (He.ga K "PARTS"))
  d_PARTS : ∃ es m, KDict K w (He.ga K "PARTS") es m
  w_PARTS : ∀ z, ∃ r, PySem.W.nsIn K (He.ga K "PARTS") z = some r ∧ r.isSome = ks_PARTS.contains z
  v_PARTS : ∀ z t, zs_PARTS.lookup z = some t → ∃ i u tk, t = .int i ∧ PySem.W.nsIn K (He.ga K "PARTS") z = some (some u) ∧ u = .int i tk
  o_PARTS : ∀ es n, KDict K w (He.ga K "PARTS") es n → es.toList.map keyStr = ks_PARTS.map some
  g_WORDS : mg "WORDS" = some (.ref (He.ga K "WORDS"))
  d_WORDS : ∃ es m, KDict K w (He.ga K "WORDS") es m
  w_WORDS : ∀ z, ∃ r, PySem.W.nsIn K (He.ga K "WORDS") z = some r ∧ r.isSome = ks_WORDS.contains z
  v_WORDS : ∀ z t, zs_WORDS.lookup z = some t → ∃ i u tk, t = .str i ∧ PySem.W.nsIn K (He.ga K "WORDS") z = some (some u) ∧ u = .str i tk
  o_WORDS : ∀ es n, KDict K w (He.ga K "WORDS") es n → es.toList.map keyStr = ks_WORDS.map some
  e_is_integer : ∀ {A : Around}, Room (2 * k + 2) A → ∃ k' fd ps, FnOk prog w K mg base (L2.CX prog w) k' (He.fAd K ("is_integer", none)) fd ps (spR (Dw K) (runFn prg k 0)) ∧ Room (k') A ∧ Binds K fd ps []
  m_is_integer : ∀ {A : Around}, Room (2 * k + 2) A → ∃ k' fd ps, FnOk prog w K mg base (L2.CX prog w) k' (He.fAd K ("is_integer", none)) fd ps (spR (Dw K) (runFn prg k 0)) ∧ Room (k' + 1) A ∧ Binds K fd ps []
  e_is_integer_in : ∀ {A : Around}, Room (2 * k + 2) A → ∃ k' fd ps, FnOk prog w K mg base (L2.CX prog w) k' (He.fAd K ("is_integer_in", none)) fd ps (spR (Dw K) (runFn prg k 1)) ∧ Room (k') A ∧ Binds K fd ps []
  m_is_integer_in : ∀ {A : Around}, Room (2 * k + 2) A → ∃ k' fd ps, FnOk prog w K mg base (L2.CX prog w) k' (He.fAd K ("is_integer_in", none)) fd ps (spR (Dw K) (runFn prg k 1)) ∧ Room (k' + 1) A ∧ Binds K fd ps []
  e_is_word : ∀ {A : Around}, Room (2 * k + 2) A → ∃ k' fd ps, FnOk prog w K mg base (L2.CX prog w) k' (He.fAd K ("is_word", none)) fd ps (spR (Dw K) (runFn prg k 2)) ∧ Room (k') A ∧ Binds K fd ps []
  m_is_word : ∀ {A : Around}, Room (2 * k + 2) A → ∃ k' fd ps, FnOk prog w K mg base (L2.CX prog w) k' (He.fAd K ("is_word", none)) fd ps (spR (Dw K) (runFn prg k 2)) ∧ Room (k' + 1) A ∧ Binds K fd ps []
  e_reached : ∀ {A : Around}, Room (2 * k + 2) A → ∃ k' fd ps, FnOk prog w K mg base (L2.CX prog w) k' (He.fAd K ("reached", none)) fd ps (spR (Dw K) (runFn prg k 3)) ∧ Room (k') A ∧ Binds K fd ps []
  m_reached : ∀ {A : Around}, Room (2 * k + 2) A → ∃ k' fd ps, FnOk prog w K mg base (L2.CX prog w) k' (He.fAd K ("reached", none)) fd ps (spR (Dw K) (runFn prg k 3)) ∧ Room (k' + 1) A ∧ Binds K fd ps []
  e_least_back : ∀ {A : Around}, Room (2 * k + 2) A → ∃ k' fd ps, FnOk prog w K mg base (L2.CX prog w) k' (He.fAd K ("least_back", none)) fd ps (spR (Dw K) (runFn prg k 4)) ∧ Room (k') A ∧ Binds K fd ps []
  m_least_back : ∀ {A : Around}, Room (2 * k + 2) A → ∃ k' fd ps, FnOk prog w K mg base (L2.CX prog w) k' (He.fAd K ("least_back", none)) fd ps (spR (Dw K) (runFn prg k 4)) ∧ Room (k' + 1) A ∧ Binds K fd ps []
  e_is_rule : ∀ {A : Around}, Room (2 * k + 2) A → ∃ k' fd ps, FnOk prog w K mg base (L2.CX prog w) k' (He.fAd K ("is_rule", none)) fd ps (spR (Dw K) (runFn prg k 5)) ∧ Room (k') A ∧ Binds K fd ps []
  m_is_rule : ∀ {A : Around}, Room (2 * k + 2) A → ∃ k' fd ps, FnOk prog w K mg base (L2.CX prog w) k' (He.fAd K ("is_rule", none)) fd ps (spR (Dw K) (runFn prg k 5)) ∧ Room (k' + 1) A ∧ Binds K fd ps []
  e_single_steps : ∀ {A : Around}, Room (2 * k + 2) A → ∃ k' fd ps, FnOk prog w K mg base (L2.CX prog w) k' (He.fAd K ("single_steps", none)) fd ps (spR (Dw K) (runFn prg k 6)) ∧ Room (k') A ∧ Binds K fd ps []
  m_single_steps : ∀ {A : Around}, Room (2 * k + 2) A → ∃ k' fd ps, FnOk prog w K mg base (L2.CX prog w) k' (He.fAd K ("single_steps", none)) fd ps (spR (Dw K) (runFn prg k 6)) ∧ Room (k' + 1) A ∧ Binds K fd ps []
  e_Pairsx_initx : ∀ {A : Around}, Room (2 * k + 2) A → ∃ k' fd ps, FnOk prog w K mg base (L2.CX prog w) k' (He.fAd K ("Pairs", some "__init__")) fd ps (spR (Dw K) (runFn prg k 7)) ∧ Room (k') A ∧ Binds K fd ps []
  m_Pairsx_initx : ∀ {A : Around}, Room (2 * k + 2) A → ∃ k' fd ps, FnOk prog w K mg base (L2.CX prog w) k' (He.fAd K ("Pairs", some "__init__")) fd ps (spR (Dw K) (runFn prg k 7)) ∧ Room (k' + 1) A ∧ Binds K fd ps []
  e_Pairsx_eqx : ∀ {A : Around}, Room (2 * k + 2) A → ∃ k' fd ps, FnOk prog w K mg base (L2.CX prog w) k' (He.fAd K ("Pairs", some "__eq__")) fd ps (spR (Dw K) (runFn prg k 8)) ∧ Room (k') A ∧ Binds K fd ps []
  m_Pairsx_eqx : ∀ {A : Around}, Room (2 * k + 2) A → ∃ k' fd ps, FnOk prog w K mg base (L2.CX prog w) k' (He.fAd K ("Pairs", some "__eq__")) fd ps (spR (Dw K) (runFn prg k 8)) ∧ Room (k' + 1) A ∧ Binds K fd ps []
  q_Pairsx_eqx : ∀ {A : Around}, Room (2 * k + 2) A → FnE (Dw K) prog w K mg base A (fun ts h => (runFn prg k 8 ts h).nox) (He.fAd K ("Pairs", some "__eq__"))
  s_Pairs : PySem.W.findIn K (.ref (He.ga K "Pairs")) "__eq__" = some (some (.ref (He.fAd K ("Pairs", some "__eq__"))))
  t_Pairs : PySem.W.isFn K (.ref (He.fAd K ("Pairs", some "__eq__"))) = true
  e__law_box : ∀ {A : Around}, Room (2 * k + 2) A → ∃ k' fd ps, FnOk prog w K mg base (L2.CX prog w) k' (He.fAd K ("_law_box", none)) fd ps (spR (Dw K) (runFn prg k 9)) ∧ Room (k') A ∧ Binds K fd ps []
  m__law_box : ∀ {A : Around}, Room (2 * k + 2) A → ∃ k' fd ps, FnOk prog w K mg base (L2.CX prog w) k' (He.fAd K ("_law_box", none)) fd ps (spR (Dw K) (runFn prg k 9)) ∧ Room (k' + 1) A ∧ Binds K fd ps []
  e__law_take : ∀ {A : Around}, Room (2 * k + 2) A → ∃ k' fd ps, FnOk prog w K mg base (L2.CX prog w) k' (He.fAd K ("_law_take", none)) fd ps (spR (Dw K) (runFn prg k 10)) ∧ Room (k') A ∧ Binds K fd ps []
  m__law_take : ∀ {A : Around}, Room (2 * k + 2) A → ∃ k' fd ps, FnOk prog w K mg base (L2.CX prog w) k' (He.fAd K ("_law_take", none)) fd ps (spR (Dw K) (runFn prg k 10)) ∧ Room (k' + 1) A ∧ Binds K fd ps []
  e__law_pick : ∀ {A : Around}, Room (2 * k + 2) A → ∃ k' fd ps, FnOk prog w K mg base (L2.CX prog w) k' (He.fAd K ("_law_pick", none)) fd ps (spR (Dw K) (runFn prg k 11)) ∧ Room (k') A ∧ Binds K fd ps []
  m__law_pick : ∀ {A : Around}, Room (2 * k + 2) A → ∃ k' fd ps, FnOk prog w K mg base (L2.CX prog w) k' (He.fAd K ("_law_pick", none)) fd ps (spR (Dw K) (runFn prg k 11)) ∧ Room (k' + 1) A ∧ Binds K fd ps []
  e__law_whole : ∀ {A : Around}, Room (2 * k + 2) A → ∃ k' fd ps, FnOk prog w K mg base (L2.CX prog w) k' (He.fAd K ("_law_whole", none)) fd ps (spR (Dw K) (runFn prg k 12)) ∧ Room (k') A ∧ Binds K fd ps []
  m__law_whole : ∀ {A : Around}, Room (2 * k + 2) A → ∃ k' fd ps, FnOk prog w K mg base (L2.CX prog w) k' (He.fAd K ("_law_whole", none)) fd ps (spR (Dw K) (runFn prg k 12)) ∧ Room (k' + 1) A ∧ Binds K fd ps []
  e__law_is_due : ∀ {A : Around}, Room (2 * k + 2) A → ∃ k' fd ps, FnOk prog w K mg base (L2.CX prog w) k' (He.fAd K ("_law_is_due", none)) fd ps (spR (Dw K) (runFn prg k 14)) ∧ Room (k') A ∧ Binds K fd ps []
  m__law_is_due : ∀ {A : Around}, Room (2 * k + 2) A → ∃ k' fd ps, FnOk prog w K mg base (L2.CX prog w) k' (He.fAd K ("_law_is_due", none)) fd ps (spR (Dw K) (runFn prg k 14)) ∧ Room (k' + 1) A ∧ Binds K fd ps []
  e__law_spoilt : ∀ {A : Around}, Room (2 * k + 2) A → ∃ k' fd ps, FnOk prog w K mg base (L2.CX prog w) k' (He.fAd K ("_law_spoilt", none)) fd ps (spR (Dw K) (runFn prg k 15)) ∧ Room (k') A ∧ Binds K fd ps []
  m__law_spoilt : ∀ {A : Around}, Room (2 * k + 2) A → ∃ k' fd ps, FnOk prog w K mg base (L2.CX prog w) k' (He.fAd K ("_law_spoilt", none)) fd ps (spR (Dw K) (runFn prg k 15)) ∧ Room (k' + 1) A ∧ Binds K fd ps []
  e__law_shuffled : ∀ {A : Around}, Room (2 * k + 2) A → ∃ k' fd ps, FnOk prog w K mg base (L2.CX prog w) k' (He.fAd K ("_law_shuffled", none)) fd ps (spR (Dw K) (runFn prg k 16)) ∧ Room (k') A ∧ Binds K fd ps []
  m__law_shuffled : ∀ {A : Around}, Room (2 * k + 2) A → ∃ k' fd ps, FnOk prog w K mg base (L2.CX prog w) k' (He.fAd K ("_law_shuffled", none)) fd ps (spR (Dw K) (runFn prg k 16)) ∧ Room (k' + 1) A ∧ Binds K fd ps []
  e__law_back_kind : ∀ {A : Around}, Room (2 * k + 2) A → ∃ k' fd ps, FnOk prog w K mg base (L2.CX prog w) k' (He.fAd K ("_law_back_kind", none)) fd ps (spR (Dw K) (runFn prg k 17)) ∧ Room (k') A ∧ Binds K fd ps []
  m__law_back_kind : ∀ {A : Around}, Room (2 * k + 2) A → ∃ k' fd ps, FnOk prog w K mg base (L2.CX prog w) k' (He.fAd K ("_law_back_kind", none)) fd ps (spR (Dw K) (runFn prg k 17)) ∧ Room (k' + 1) A ∧ Binds K fd ps []
  e__law_unary : ∀ {A : Around}, Room (2 * k + 2) A → ∃ k' fd ps, FnOk prog w K mg base (L2.CX prog w) k' (He.fAd K ("_law_unary", none)) fd ps (spR (Dw K) (runFn prg k 18)) ∧ Room (k') A ∧ Binds K fd ps []
  m__law_unary : ∀ {A : Around}, Room (2 * k + 2) A → ∃ k' fd ps, FnOk prog w K mg base (L2.CX prog w) k' (He.fAd K ("_law_unary", none)) fd ps (spR (Dw K) (runFn prg k 18)) ∧ Room (k' + 1) A ∧ Binds K fd ps []
  e__law_grammar : ∀ {A : Around}, Room (2 * k + 2) A → ∃ k' fd ps, FnOk prog w K mg base (L2.CX prog w) k' (He.fAd K ("_law_grammar", none)) fd ps (spR (Dw K) (runFn prg k 19)) ∧ Room (k') A ∧ Binds K fd ps []
  m__law_grammar : ∀ {A : Around}, Room (2 * k + 2) A → ∃ k' fd ps, FnOk prog w K mg base (L2.CX prog w) k' (He.fAd K ("_law_grammar", none)) fd ps (spR (Dw K) (runFn prg k 19)) ∧ Room (k' + 1) A ∧ Binds K fd ps []
  e__law_made : ∀ {A : Around}, Room (2 * k + 2) A → ∃ k' fd ps, FnOk prog w K mg base (L2.CX prog w) k' (He.fAd K ("_law_made", none)) fd ps (spR (Dw K) (runFn prg k 20)) ∧ Room (k') A ∧ Binds K fd ps []
  m__law_made : ∀ {A : Around}, Room (2 * k + 2) A → ∃ k' fd ps, FnOk prog w K mg base (L2.CX prog w) k' (He.fAd K ("_law_made", none)) fd ps (spR (Dw K) (runFn prg k 20)) ∧ Room (k' + 1) A ∧ Binds K fd ps []
  e__law_is_word : ∀ {A : Around}, Room (2 * k + 2) A → ∃ k' fd ps, FnOk prog w K mg base (L2.CX prog w) k' (He.fAd K ("_law_is_word", none)) fd ps (spR (Dw K) (runFn prg k 21)) ∧ Room (k') A ∧ Binds K fd ps []
  m__law_is_word : ∀ {A : Around}, Room (2 * k + 2) A → ∃ k' fd ps, FnOk prog w K mg base (L2.CX prog w) k' (He.fAd K ("_law_is_word", none)) fd ps (spR (Dw K) (runFn prg k 21)) ∧ Room (k' + 1) A ∧ Binds K fd ps []
  e_law : ∀ {A : Around}, Room (2 * k + 2) A → ∃ k' fd ps, FnOk prog w K mg base (L2.CX prog w) k' (He.fAd K ("law", none)) fd ps (spR (Dw K) (runFn prg k 25)) ∧ Room (k') A ∧ Binds K fd ps []
  m_law : ∀ {A : Around}, Room (2 * k + 2) A → ∃ k' fd ps, FnOk prog w K mg base (L2.CX prog w) k' (He.fAd K ("law", none)) fd ps (spR (Dw K) (runFn prg k 25)) ∧ Room (k' + 1) A ∧ Binds K fd ps []
  e_is_text : ∀ {A : Around}, Room (2 * k + 2) A → ∃ k' fd ps, FnOk prog w K mg base (L2.CX prog w) k' (He.fAd K ("is_text", none)) fd ps (spR (Dw K) (runFn prg k 26)) ∧ Room (k') A ∧ Binds K fd ps []
  m_is_text : ∀ {A : Around}, Room (2 * k + 2) A → ∃ k' fd ps, FnOk prog w K mg base (L2.CX prog w) k' (He.fAd K ("is_text", none)) fd ps (spR (Dw K) (runFn prg k 26)) ∧ Room (k' + 1) A ∧ Binds K fd ps []
  e_has_word : ∀ {A : Around}, Room (2 * k + 2) A → ∃ k' fd ps, FnOk prog w K mg base (L2.CX prog w) k' (He.fAd K ("has_word", none)) fd ps (spR (Dw K) (runFn prg k 27)) ∧ Room (k') A ∧ Binds K fd ps []
  m_has_word : ∀ {A : Around}, Room (2 * k + 2) A → ∃ k' fd ps, FnOk prog w K mg base (L2.CX prog w) k' (He.fAd K ("has_word", none)) fd ps (spR (Dw K) (runFn prg k 27)) ∧ Room (k' + 1) A ∧ Binds K fd ps []
  e_is_number : ∀ {A : Around}, Room (2 * k + 2) A → ∃ k' fd ps, FnOk prog w K mg base (L2.CX prog w) k' (He.fAd K ("is_number", none)) fd ps (spR (Dw K) (runFn prg k 28)) ∧ Room (k') A ∧ Binds K fd ps []
  m_is_number : ∀ {A : Around}, Room (2 * k + 2) A → ∃ k' fd ps, FnOk prog w K mg base (L2.CX prog w) k' (He.fAd K ("is_number", none)) fd ps (spR (Dw K) (runFn prg k 28)) ∧ Room (k' + 1) A ∧ Binds K fd ps []
  e_is_question : ∀ {A : Around}, Room (2 * k + 2) A → ∃ k' fd ps, FnOk prog w K mg base (L2.CX prog w) k' (He.fAd K ("is_question", none)) fd ps (spR (Dw K) (runFn prg k 29)) ∧ Room (k') A ∧ Binds K fd ps []
  m_is_question : ∀ {A : Around}, Room (2 * k + 2) A → ∃ k' fd ps, FnOk prog w K mg base (L2.CX prog w) k' (He.fAd K ("is_question", none)) fd ps (spR (Dw K) (runFn prg k 29)) ∧ Room (k' + 1) A ∧ Binds K fd ps []
  e_is_claim : ∀ {A : Around}, Room (2 * k + 2) A → ∃ k' fd ps, FnOk prog w K mg base (L2.CX prog w) k' (He.fAd K ("is_claim", none)) fd ps (spR (Dw K) (runFn prg k 30)) ∧ Room (k') A ∧ Binds K fd ps []
  m_is_claim : ∀ {A : Around}, Room (2 * k + 2) A → ∃ k' fd ps, FnOk prog w K mg base (L2.CX prog w) k' (He.fAd K ("is_claim", none)) fd ps (spR (Dw K) (runFn prg k 30)) ∧ Room (k' + 1) A ∧ Binds K fd ps []
  e_question_of : ∀ {A : Around}, Room (2 * k + 2) A → ∃ k' fd ps, FnOk prog w K mg base (L2.CX prog w) k' (He.fAd K ("question_of", none)) fd ps (spR (Dw K) (runFn prg k 31)) ∧ Room (k') A ∧ Binds K fd ps []
  m_question_of : ∀ {A : Around}, Room (2 * k + 2) A → ∃ k' fd ps, FnOk prog w K mg base (L2.CX prog w) k' (He.fAd K ("question_of", none)) fd ps (spR (Dw K) (runFn prg k 31)) ∧ Room (k' + 1) A ∧ Binds K fd ps []
  e_answer_of : ∀ {A : Around}, Room (2 * k + 2) A → ∃ k' fd ps, FnOk prog w K mg base (L2.CX prog w) k' (He.fAd K ("answer_of", none)) fd ps (spR (Dw K) (runFn prg k 32)) ∧ Room (k') A ∧ Binds K fd ps []
  m_answer_of : ∀ {A : Around}, Room (2 * k + 2) A → ∃ k' fd ps, FnOk prog w K mg base (L2.CX prog w) k' (He.fAd K ("answer_of", none)) fd ps (spR (Dw K) (runFn prg k 32)) ∧ Room (k' + 1) A ∧ Binds K fd ps []
  e_paper_of : ∀ {A : Around}, Room (2 * k + 2) A → ∃ k' fd ps, FnOk prog w K mg base (L2.CX prog w) k' (He.fAd K ("paper_of", none)) fd ps (spR (Dw K) (runFn prg k 33)) ∧ Room (k') A ∧ Binds K fd ps []
  m_paper_of : ∀ {A : Around}, Room (2 * k + 2) A → ∃ k' fd ps, FnOk prog w K mg base (L2.CX prog w) k' (He.fAd K ("paper_of", none)) fd ps (spR (Dw K) (runFn prg k 33)) ∧ Room (k' + 1) A ∧ Binds K fd ps []
  e__law_words : ∀ {A : Around}, Room (2 * k + 2) A → ∃ k' fd ps, FnOk prog w K mg base (L2.CX prog w) k' (He.fAd K ("_law_words", none)) fd ps (spR (Dw K) (runFn prg k 34)) ∧ Room (k') A ∧ Binds K fd ps []
  m__law_words : ∀ {A : Around}, Room (2 * k + 2) A → ∃ k' fd ps, FnOk prog w K mg base (L2.CX prog w) k' (He.fAd K ("_law_words", none)) fd ps (spR (Dw K) (runFn prg k 34)) ∧ Room (k' + 1) A ∧ Binds K fd ps []
  e__law_drawn_text : ∀ {A : Around}, Room (2 * k + 2) A → ∃ k' fd ps, FnOk prog w K mg base (L2.CX prog w) k' (He.fAd K ("_law_drawn_text", none)) fd ps (spR (Dw K) (runFn prg k 35)) ∧ Room (k') A ∧ Binds K fd ps []
  m__law_drawn_text : ∀ {A : Around}, Room (2 * k + 2) A → ∃ k' fd ps, FnOk prog w K mg base (L2.CX prog w) k' (He.fAd K ("_law_drawn_text", none)) fd ps (spR (Dw K) (runFn prg k 35)) ∧ Room (k' + 1) A ∧ Binds K fd ps []
  e__law_is_text : ∀ {A : Around}, Room (2 * k + 2) A → ∃ k' fd ps, FnOk prog w K mg base (L2.CX prog w) k' (He.fAd K ("_law_is_text", none)) fd ps (spR (Dw K) (runFn prg k 36)) ∧ Room (k') A ∧ Binds K fd ps []
  m__law_is_text : ∀ {A : Around}, Room (2 * k + 2) A → ∃ k' fd ps, FnOk prog w K mg base (L2.CX prog w) k' (He.fAd K ("_law_is_text", none)) fd ps (spR (Dw K) (runFn prg k 36)) ∧ Room (k' + 1) A ∧ Binds K fd ps []
  e__law_claim_form : ∀ {A : Around}, Room (2 * k + 2) A → ∃ k' fd ps, FnOk prog w K mg base (L2.CX prog w) k' (He.fAd K ("_law_claim_form", none)) fd ps (spR (Dw K) (runFn prg k 37)) ∧ Room (k') A ∧ Binds K fd ps []
  m__law_claim_form : ∀ {A : Around}, Room (2 * k + 2) A → ∃ k' fd ps, FnOk prog w K mg base (L2.CX prog w) k' (He.fAd K ("_law_claim_form", none)) fd ps (spR (Dw K) (runFn prg k 37)) ∧ Room (k' + 1) A ∧ Binds K fd ps []
  e__law_is_question : ∀ {A : Around}, Room (2 * k + 2) A → ∃ k' fd ps, FnOk prog w K mg base (L2.CX prog w) k' (He.fAd K ("_law_is_question", none)) fd ps (spR (Dw K) (runFn prg k 38)) ∧ Room (k') A ∧ Binds K fd ps []
  m__law_is_question : ∀ {A : Around}, Room (2 * k + 2) A → ∃ k' fd ps, FnOk prog w K mg base (L2.CX prog w) k' (He.fAd K ("_law_is_question", none)) fd ps (spR (Dw K) (runFn prg k 38)) ∧ Room (k' + 1) A ∧ Binds K fd ps []
  e__law_asked : ∀ {A : Around}, Room (2 * k + 2) A → ∃ k' fd ps, FnOk prog w K mg base (L2.CX prog w) k' (He.fAd K ("_law_asked", none)) fd ps (spR (Dw K) (runFn prg k 39)) ∧ Room (k') A ∧ Binds K fd ps []
  m__law_asked : ∀ {A : Around}, Room (2 * k + 2) A → ∃ k' fd ps, FnOk prog w K mg base (L2.CX prog w) k' (He.fAd K ("_law_asked", none)) fd ps (spR (Dw K) (runFn prg k 39)) ∧ Room (k' + 1) A ∧ Binds K fd ps []
  e__law_error : ∀ {A : Around}, Room (2 * k + 2) A → ∃ k' fd ps, FnOk prog w K mg base (L2.CX prog w) k' (He.fAd K ("_law_error", none)) fd ps (spR (Dw K) (runFn prg k 40)) ∧ Room (k') A ∧ Binds K fd ps []
  m__law_error : ∀ {A : Around}, Room (2 * k + 2) A → ∃ k' fd ps, FnOk prog w K mg base (L2.CX prog w) k' (He.fAd K ("_law_error", none)) fd ps (spR (Dw K) (runFn prg k 40)) ∧ Room (k' + 1) A ∧ Binds K fd ps []
  m_Pairs : Mk K (He.ga K "Pairs") (He.fAd K ("Pairs", some "__init__"))
  inj : ∀ i j, flOf i = flOf j → i = j
  a_Pairs_kinds : NoAttr K (He.ga K "Pairs") "kinds"
  a_Pairs_rules : NoAttr K (He.ga K "Pairs") "rules"
  cls : ∀ c, c < (Dw K).nc → ClsOk (Dw K) c
  y_GraftError : ∀ c, c < (Dw K).nx → PySem.W.exmOne K (.ref ((Dw K).xa c)) (.ref ((Dw K).xa 0)) = some (subOf c 0)
  x_InvalidNumber : ∀ {X : Cx}, X.K = K → X.prog = prog → X.w = w → X.mg = mg → X.base = base → Room (2 * k + 2) X.A → ErrOk (Dw K) X 1
  y_InvalidNumber : ∀ c, c < (Dw K).nx → PySem.W.exmOne K (.ref ((Dw K).xa c)) (.ref ((Dw K).xa 1)) = some (subOf c 1)
  x_InvalidRules : ∀ {X : Cx}, X.K = K → X.prog = prog → X.w = w → X.mg = mg → X.base = base → Room (2 * k + 2) X.A → ErrOk (Dw K) X 2
  y_InvalidRules : ∀ c, c < (Dw K).nx → PySem.W.exmOne K (.ref ((Dw K).xa c)) (.ref ((Dw K).xa 2)) = some (subOf c 2)
  x_Endless : ∀ {X : Cx}, X.K = K → X.prog = prog → X.w = w → X.mg = mg → X.base = base → Room (2 * k + 2) X.A → ErrOk (Dw K) X 3
  y_Endless : ∀ c, c < (Dw K).nx → PySem.W.exmOne K (.ref ((Dw K).xa c)) (.ref ((Dw K).xa 3)) = some (subOf c 3)
  x_InvalidText : ∀ {X : Cx}, X.K = K → X.prog = prog → X.w = w → X.mg = mg → X.base = base → Room (2 * k + 2) X.A → ErrOk (Dw K) X 4
  y_InvalidText : ∀ c, c < (Dw K).nx → PySem.W.exmOne K (.ref ((Dw K).xa c)) (.ref ((Dw K).xa 4)) = some (subOf c 4)
  x_InvalidQuestion : ∀ {X : Cx}, X.K = K → X.prog = prog → X.w = w → X.mg = mg → X.base = base → Room (2 * k + 2) X.A → ErrOk (Dw K) X 5
  y_InvalidQuestion : ∀ c, c < (Dw K).nx → PySem.W.exmOne K (.ref ((Dw K).xa c)) (.ref ((Dw K).xa 5)) = some (subOf c 5)
  x_InvalidClaim : ∀ {X : Cx}, X.K = K → X.prog = prog → X.w = w → X.mg = mg → X.base = base → Room (2 * k + 2) X.A → ErrOk (Dw K) X 6
  y_InvalidClaim : ∀ c, c < (Dw K).nx → PySem.W.exmOne K (.ref ((Dw K).xa c)) (.ref ((Dw K).xa 6)) = some (subOf c 6)
  x_Undefined : ∀ {X : Cx}, X.K = K → X.prog = prog → X.w = w → X.mg = mg → X.base = base → Room (2 * k + 2) X.A → ErrOk (Dw K) X 7
  y_Undefined : ∀ c, c < (Dw K).nx → PySem.W.exmOne K (.ref ((Dw K).xa c)) (.ref ((Dw K).xa 7)) = some (subOf c 7)
  xf_kind : ∀ c, c < (Dw K).nx → xiOf c = 3 → (Dw K).xf c = "kind" ∧ XfC K ((Dw K).xa c) ∧ PySem.W.findIn K (.ref ((Dw K).xa c)) "kind" = some none
  xf_value : ∀ c, c < (Dw K).nx → xiOf c = 2 → (Dw K).xf c = "value" ∧ XfC K ((Dw K).xa c) ∧ PySem.W.findIn K (.ref ((Dw K).xa c)) "value" = some none
  xf_what : ∀ c, c < (Dw K).nx → xiOf c = 4 → (Dw K).xf c = "what" ∧ XfC K ((Dw K).xa c) ∧ PySem.W.findIn K (.ref ((Dw K).xa c)) "what" = some none
section
variable {prog : Program} {w : World} {K : PySem.W.Frag} {mg : Str → Option Value} {base : Heap} {k : Nat}
theorem sc_is_integer : FnScope ["value"] ["value"] (defScope (top 13)) := ⟨rfl, rfl, rfl, by decide +kernel, rfl, by decide +kernel, by decide +kernel⟩
theorem walk_is_integer (F : Fx prog w K mg base k) {f : Addr} {cdv : Value} {A : Around} {outer : List PySem.Env} {s : Shared} {H : Hp} {E : XK} {n0 : Nat} (hr : Room (2 * k + 2) (A.deeper (envOfC "is_integer" (defScope (top 13)) s.heap.objs.size f cdv))) :
    XSs (Dw K) (cxOf (L2.CX prog w) prog w K mg base ["value"] "is_integer" (defScope (top 13)) f cdv A outer s H E) (wB E) ⟨runFn prg k, n0, prg.sub, prg.xi⟩ (defBody (top 13)) ir_is_integer := by
  have nd : (["value"] : List Str).Nodup := sc_is_integer.nd
  have O : Okx (Dw K) (cxOf (L2.CX prog w) prog w K mg base ["value"] "is_integer" (defScope (top 13)) f cdv A outer s H E) := ⟨rfl, by have := hr.un; show (A.deeper (envOfC "is_integer" (defScope (top 13)) s.heap.objs.size f cdv)).units + 190 < _; omega, F.cls⟩
  have tk : Takes (cxOf (L2.CX prog w) prog w K mg base ["value"] "is_integer" (defScope (top 13)) f cdv A outer s H E) (wB E) := takes_of rfl rfl rfl rfl
  have hp : PassesOwn (model prog w) (A.deeper (envOfC "is_integer" (defScope (top 13)) s.heap.objs.size f cdv)) (envOfC "is_integer" (defScope (top 13)) s.heap.objs.size f cdv) (cxOf (L2.CX prog w) prog w K mg base ["value"] "is_integer" (defScope (top 13)) f cdv A outer s H E).xe := passes_of rfl
  exact (ss_cons (s_ret (x_and O (x_isi O (y := .int) trivial (by rfl) F.n_isinstance (x_var (i := 0) rfl (by first | exact .inl rfl | exact .inr (.inl rfl) | exact .inr (.inr rfl))) (c_ty (by rfl) F.n_int (by rfl))) (x_and1 (x_not O (x_isi O (y := .bool) trivial (by rfl) F.n_isinstance (x_var (i := 0) rfl (by first | exact .inl rfl | exact .inr (.inl rfl) | exact .inr (.inr rfl))) (c_ty (by rfl) F.n_bool (by rfl)))))))
  ss_nil)
theorem sc_is_integer_in : FnScope ["value", "least", "most"] ["value", "least", "most"] (defScope (top 14)) := ⟨rfl, rfl, rfl, by decide +kernel, rfl, by decide +kernel, by decide +kernel⟩
theorem walk_is_integer_in (F : Fx prog w K mg base k) {f : Addr} {cdv : Value} {A : Around} {outer : List PySem.Env} {s : Shared} {H : Hp} {E : XK} {n0 : Nat} (hr : Room (2 * k + 2) (A.deeper (envOfC "is_integer_in" (defScope (top 14)) s.heap.objs.size f cdv))) :
    XSs (Dw K) (cxOf (L2.CX prog w) prog w K mg base ["value", "least", "most"] "is_integer_in" (defScope (top 14)) f cdv A outer s H E) (wB E) ⟨runFn prg k, n0, prg.sub, prg.xi⟩ (defBody (top 14)) ir_is_integer_in := by
  have nd : (["value", "least", "most"] : List Str).Nodup := sc_is_integer_in.nd
  have O : Okx (Dw K) (cxOf (L2.CX prog w) prog w K mg base ["value", "least", "most"] "is_integer_in" (defScope (top 14)) f cdv A outer s H E) := ⟨rfl, by have := hr.un; show (A.deeper (envOfC "is_integer_in" (defScope (top 14)) s.heap.objs.size f cdv)).units + 190 < _; omega, F.cls⟩
  have tk : Takes (cxOf (L2.CX prog w) prog w K mg base ["value", "least", "most"] "is_integer_in" (defScope (top 14)) f cdv A outer s H E) (wB E) := takes_of rfl rfl rfl rfl
  have hp : PassesOwn (model prog w) (A.deeper (envOfC "is_integer_in" (defScope (top 14)) s.heap.objs.size f cdv)) (envOfC "is_integer_in" (defScope (top 14)) s.heap.objs.size f cdv) (cxOf (L2.CX prog w) prog w K mg base ["value", "least", "most"] "is_integer_in" (defScope (top 14)) f cdv A outer s H E).xe := passes_of rfl
  exact (ss_cons (s_ret (x_and O (x_call (by exact FnE.mk (F.e_is_integer hr)) tk (by rfl) F.g_is_integer F.k_is_integer (x_cons (x_var (i := 0) rfl (by first | exact .inl rfl | exact .inr (.inl rfl) | exact .inr (.inr rfl))) x_nil)) (x_and1 (x_chain O (o := .le) (o' := .le) (x_var (i := 1) rfl (by first | exact .inl rfl | exact .inr (.inl rfl) | exact .inr (.inr rfl))) (x_var (i := 0) rfl (by first | exact .inl rfl | exact .inr (.inl rfl) | exact .inr (.inr rfl))) (x_var (i := 2) rfl (by first | exact .inl rfl | exact .inr (.inl rfl) | exact .inr (.inr rfl))) (by with_unfolding_all rfl)))))
  ss_nil)
theorem sc_is_word : FnScope ["value", "letter"] ["value"] (defScope (top 15)) := ⟨rfl, rfl, rfl, by decide +kernel, rfl, by decide +kernel, by decide +kernel⟩
theorem walk_is_word (F : Fx prog w K mg base k) {f : Addr} {cdv : Value} {A : Around} {outer : List PySem.Env} {s : Shared} {H : Hp} {E : XK} {n0 : Nat} (hr : Room (2 * k + 2) (A.deeper (envOfC "is_word" (defScope (top 15)) s.heap.objs.size f cdv))) :
    XSs (Dw K) (cxOf (L2.CX prog w) prog w K mg base ["value", "letter"] "is_word" (defScope (top 15)) f cdv A outer s H E) (wB E) ⟨runFn prg k, n0, prg.sub, prg.xi⟩ (defBody (top 15)) ir_is_word := by
  have nd : (["value", "letter"] : List Str).Nodup := sc_is_word.nd
  have O : Okx (Dw K) (cxOf (L2.CX prog w) prog w K mg base ["value", "letter"] "is_word" (defScope (top 15)) f cdv A outer s H E) := ⟨rfl, by have := hr.un; show (A.deeper (envOfC "is_word" (defScope (top 15)) s.heap.objs.size f cdv)).units + 190 < _; omega, F.cls⟩
  have tk : Takes (cxOf (L2.CX prog w) prog w K mg base ["value", "letter"] "is_word" (defScope (top 15)) f cdv A outer s H E) (wB E) := takes_of rfl rfl rfl rfl
  have hp : PassesOwn (model prog w) (A.deeper (envOfC "is_word" (defScope (top 15)) s.heap.objs.size f cdv)) (envOfC "is_word" (defScope (top 15)) s.heap.objs.size f cdv) (cxOf (L2.CX prog w) prog w K mg base ["value", "letter"] "is_word" (defScope (top 15)) f cdv A outer s H E).xe := passes_of rfl
  exact (ss_cons (s_if (PW.pt (w_or (b_not (b_val O (x_isi O (y := .str) trivial (by rfl) F.n_isinstance (x_var (i := 0) rfl (by first | exact .inl rfl | exact .inr (.inl rfl) | exact .inr (.inr rfl))) (c_ty (by rfl) F.n_str (by rfl))))) (w_or1 (b_not (b_chain O (o := .le) (o' := .le) x_int (x_bf (bf_len O) (by rfl) F.n_len (by rfl) (x_cons (x_var (i := 0) rfl (by first | exact .inl rfl | exact .inr (.inl rfl) | exact .inr (.inr rfl))) x_nil)) (x_gi (by rfl) F.c_MOST_LETTERS) (by with_unfolding_all rfl)))))) (ss_cons (s_ret x_bl)
  ss_nil) ss_nil)
  (ss_cons (s_ret (x_bf (bf_all O (by rfl)) (by rfl) F.n_all (by rfl) (x_cons (x_comp (own := [("letter", 1)]) rfl nd  (i_e O (x_var (i := 0) rfl (by first | exact .inl rfl | exact .inr (.inl rfl) | exact .inr (.inr rfl)))) (blkOk_by (N := ["value", "letter"]) (sc := defScope (top 15)) (by decide +kernel)) (by decide) (fun _ _ _ _ _ => (g_nm nd rfl (by first | exact .inl rfl | exact .inr rfl) (by first | exact .inl rfl | exact .inr rfl))) (fun _ _ _ _ _ => .nil) (fun _ _ _ _ _ => (x_cmp (by exact O.of rfl rfl) (o := .isin) (x_var (i := 1) rfl (by first | exact .inl rfl | exact .inr (.inl rfl) | exact .inr (.inr rfl))) (x_gs (by rfl) F.c_LETTERS) (by with_unfolding_all rfl)))) x_nil)))
  ss_nil))
theorem sc_reached : FnScope ["leads", "start", "found", "waiting", "kind"] ["leads", "start"] (defScope (top 17)) := ⟨rfl, rfl, rfl, by decide +kernel, rfl, by decide +kernel, by decide +kernel⟩
theorem walk_reached (F : Fx prog w K mg base k) {f : Addr} {cdv : Value} {A : Around} {outer : List PySem.Env} {s : Shared} {H : Hp} {E : XK} {n0 : Nat} (hr : Room (2 * k + 2) (A.deeper (envOfC "reached" (defScope (top 17)) s.heap.objs.size f cdv))) :
    XSs (Dw K) (cxOf (L2.CX prog w) prog w K mg base ["leads", "start", "found", "waiting", "kind"] "reached" (defScope (top 17)) f cdv A outer s H E) (wB E) ⟨runFn prg k, n0, prg.sub, prg.xi⟩ (defBody (top 17)) ir_reached := by
  have nd : (["leads", "start", "found", "waiting", "kind"] : List Str).Nodup := sc_reached.nd
  have O : Okx (Dw K) (cxOf (L2.CX prog w) prog w K mg base ["leads", "start", "found", "waiting", "kind"] "reached" (defScope (top 17)) f cdv A outer s H E) := ⟨rfl, by have := hr.un; show (A.deeper (envOfC "reached" (defScope (top 17)) s.heap.objs.size f cdv)).units + 190 < _; omega, F.cls⟩
  have tk : Takes (cxOf (L2.CX prog w) prog w K mg base ["leads", "start", "found", "waiting", "kind"] "reached" (defScope (top 17)) f cdv A outer s H E) (wB E) := takes_of rfl rfl rfl rfl
  have hp : PassesOwn (model prog w) (A.deeper (envOfC "reached" (defScope (top 17)) s.heap.objs.size f cdv)) (envOfC "reached" (defScope (top 17)) s.heap.objs.size f cdv) (cxOf (L2.CX prog w) prog w K mg base ["leads", "start", "found", "waiting", "kind"] "reached" (defScope (top 17)) f cdv A outer s H E).xe := passes_of rfl
  exact (ss_cons (s_asg (x_dicK) (g_nm nd rfl (by first | exact .inl rfl | exact .inr rfl) (by first | exact .inl rfl | exact .inr rfl)))
  (ss_cons (s_asg (x_bfT (bf_list O) (by rfl) F.n_list (by rfl) (x_cons (x_idx O (x_var (i := 0) rfl (by first | exact .inl rfl | exact .inr (.inl rfl) | exact .inr (.inr rfl))) (x_var (i := 1) rfl (by first | exact .inl rfl | exact .inr (.inl rfl) | exact .inr (.inr rfl)))) x_nil)) (g_nm nd rfl (by first | exact .inl rfl | exact .inr rfl) (by first | exact .inl rfl | exact .inr rfl)))
  (ss_cons (s_whl hp (b_val O (x_var (i := 3) rfl (by first | exact .inl rfl | exact .inr (.inl rfl) | exact .inr (.inr rfl)))) (ss_cons (s_asg (x_bm0 O (f := .pop) (by constructor <;> (intro h; cases h)) PySem.F.slot_list_pop PySem.F.type_list_pop bm_pop (x_var (i := 3) rfl (by first | exact .inl rfl | exact .inr (.inl rfl) | exact .inr (.inr rfl)))) (g_nm nd rfl (by first | exact .inl rfl | exact .inr rfl) (by first | exact .inl rfl | exact .inr rfl)))
  (ss_cons (s_if (b_cmp O (o := .notin) (x_var (i := 4) rfl (by first | exact .inl rfl | exact .inr (.inl rfl) | exact .inr (.inr rfl))) (x_var (i := 2) rfl (by first | exact .inl rfl | exact .inr (.inl rfl) | exact .inr (.inr rfl))) (by with_unfolding_all rfl)) (ss_cons (s_seti O (x_var (i := 2) rfl (by first | exact .inl rfl | exact .inr (.inl rfl) | exact .inr (.inr rfl))) (x_var (i := 4) rfl (by first | exact .inl rfl | exact .inr (.inl rfl) | exact .inr (.inr rfl))) x_bl)
  (ss_cons (s_ex (x_bm O (f := .extend) (by constructor <;> (intro h; cases h)) PySem.F.slot_list_extend PySem.F.type_list_extend (bm_extend O) (x_var (i := 3) rfl (by first | exact .inl rfl | exact .inr (.inl rfl) | exact .inr (.inr rfl))) (x_cons (x_idx O (x_var (i := 0) rfl (by first | exact .inl rfl | exact .inr (.inl rfl) | exact .inr (.inr rfl))) (x_var (i := 4) rfl (by first | exact .inl rfl | exact .inr (.inl rfl) | exact .inr (.inr rfl)))) x_nil)))
  ss_nil)) ss_nil)
  ss_nil)))
  (ss_cons (s_retF (x_var (i := 2) rfl (by first | exact .inl rfl | exact .inr (.inl rfl) | exact .inr (.inr rfl))))
  ss_nil))))
theorem sc_least_back : FnScope ["leads", "kind"] ["leads"] (defScope (top 18)) := ⟨rfl, rfl, rfl, by decide +kernel, rfl, by decide +kernel, by decide +kernel⟩
theorem walk_least_back (F : Fx prog w K mg base k) {f : Addr} {cdv : Value} {A : Around} {outer : List PySem.Env} {s : Shared} {H : Hp} {E : XK} {n0 : Nat} (hr : Room (2 * k + 2) (A.deeper (envOfC "least_back" (defScope (top 18)) s.heap.objs.size f cdv))) :
    XSs (Dw K) (cxOf (L2.CX prog w) prog w K mg base ["leads", "kind"] "least_back" (defScope (top 18)) f cdv A outer s H E) (wB E) ⟨runFn prg k, n0, prg.sub, prg.xi⟩ (defBody (top 18)) ir_least_back := by
  have nd : (["leads", "kind"] : List Str).Nodup := sc_least_back.nd
  have O : Okx (Dw K) (cxOf (L2.CX prog w) prog w K mg base ["leads", "kind"] "least_back" (defScope (top 18)) f cdv A outer s H E) := ⟨rfl, by have := hr.un; show (A.deeper (envOfC "least_back" (defScope (top 18)) s.heap.objs.size f cdv)).units + 190 < _; omega, F.cls⟩
  have tk : Takes (cxOf (L2.CX prog w) prog w K mg base ["leads", "kind"] "least_back" (defScope (top 18)) f cdv A outer s H E) (wB E) := takes_of rfl rfl rfl rfl
  have hp : PassesOwn (model prog w) (A.deeper (envOfC "least_back" (defScope (top 18)) s.heap.objs.size f cdv)) (envOfC "least_back" (defScope (top 18)) s.heap.objs.size f cdv) (cxOf (L2.CX prog w) prog w K mg base ["leads", "kind"] "least_back" (defScope (top 18)) f cdv A outer s H E).xe := passes_of rfl
  exact (ss_cons (s_for hp rfl (i_rng (by rfl) F.n_range (x_bf (bf_len O) (by rfl) F.n_len (by rfl) (x_cons (x_var (i := 0) rfl (by first | exact .inl rfl | exact .inr (.inl rfl) | exact .inr (.inr rfl))) x_nil))) (g_nm nd rfl (by first | exact .inl rfl | exact .inr rfl) (by first | exact .inl rfl | exact .inr rfl)) (ss_cons (s_if (b_cmp O (o := .isin) (x_var (i := 1) rfl (by first | exact .inl rfl | exact .inr (.inl rfl) | exact .inr (.inr rfl))) (x_call (by exact FnE.mk (F.e_reached hr)) tk (by rfl) F.g_reached F.k_reached (x_cons (x_var (i := 0) rfl (by first | exact .inl rfl | exact .inr (.inl rfl) | exact .inr (.inr rfl))) (x_cons (x_var (i := 1) rfl (by first | exact .inl rfl | exact .inr (.inl rfl) | exact .inr (.inr rfl))) x_nil))) (by with_unfolding_all rfl)) (ss_cons (s_ret (x_var (i := 1) rfl (by first | exact .inl rfl | exact .inr (.inl rfl) | exact .inr (.inr rfl))))
  ss_nil) ss_nil)
  ss_nil))
  (ss_cons (s_ret x_non)
  ss_nil))
theorem sc_is_rule : FnScope ["value", "kinds", "many", "part"] ["value", "kinds"] (defScope (top 23)) := ⟨rfl, rfl, rfl, by decide +kernel, rfl, by decide +kernel, by decide +kernel⟩
theorem walk_is_rule (F : Fx prog w K mg base k) {f : Addr} {cdv : Value} {A : Around} {outer : List PySem.Env} {s : Shared} {H : Hp} {E : XK} {n0 : Nat} (hr : Room (2 * k + 2) (A.deeper (envOfC "is_rule" (defScope (top 23)) s.heap.objs.size f cdv))) :
    XSs (Dw K) (cxOf (L2.CX prog w) prog w K mg base ["value", "kinds", "many", "part"] "is_rule" (defScope (top 23)) f cdv A outer s H E) (wB E) ⟨runFn prg k, n0, prg.sub, prg.xi⟩ (defBody (top 23)) ir_is_rule := by
  have nd : (["value", "kinds", "many", "part"] : List Str).Nodup := sc_is_rule.nd
  have O : Okx (Dw K) (cxOf (L2.CX prog w) prog w K mg base ["value", "kinds", "many", "part"] "is_rule" (defScope (top 23)) f cdv A outer s H E) := ⟨rfl, by have := hr.un; show (A.deeper (envOfC "is_rule" (defScope (top 23)) s.heap.objs.size f cdv)).units + 190 < _; omega, F.cls⟩
  have tk : Takes (cxOf (L2.CX prog w) prog w K mg base ["value", "kinds", "many", "part"] "is_rule" (defScope (top 23)) f cdv A outer s H E) (wB E) := takes_of rfl rfl rfl rfl
  have hp : PassesOwn (model prog w) (A.deeper (envOfC "is_rule" (defScope (top 23)) s.heap.objs.size f cdv)) (envOfC "is_rule" (defScope (top 23)) s.heap.objs.size f cdv) (cxOf (L2.CX prog w) prog w K mg base ["value", "kinds", "many", "part"] "is_rule" (defScope (top 23)) f cdv A outer s H E).xe := passes_of rfl
  exact (ss_cons (s_if (PW.pt (w_or (b_not (b_val O (x_isi O (y := .tuple) trivial (by rfl) F.n_isinstance (x_var (i := 0) rfl (by first | exact .inl rfl | exact .inr (.inl rfl) | exact .inr (.inr rfl))) (c_ty (by rfl) F.n_tuple (by rfl))))) (w_or (b_cmp O (o := .lt) (x_bf (bf_len O) (by rfl) F.n_len (by rfl) (x_cons (x_var (i := 0) rfl (by first | exact .inl rfl | exact .inr (.inl rfl) | exact .inr (.inr rfl))) x_nil)) x_int (nomark _)) (w_or1 (b_not (b_val O (x_call (by exact FnE.mk (F.e_is_integer_in hr)) tk (by rfl) F.g_is_integer_in F.k_is_integer_in (x_cons (x_idx O (x_var (i := 0) rfl (by first | exact .inl rfl | exact .inr (.inl rfl) | exact .inr (.inr rfl))) x_int) (x_cons x_int (x_cons (x_bin O (o := .sub) (x_var (i := 1) rfl (by first | exact .inl rfl | exact .inr (.inl rfl) | exact .inr (.inr rfl))) x_int) x_nil)))))))))) (ss_cons (s_ret x_bl)
  ss_nil) ss_nil)
  (ss_cons (s_if (PW.pt (w_or (b_not (b_val O (x_isi O (y := .str) trivial (by rfl) F.n_isinstance (x_idx O (x_var (i := 0) rfl (by first | exact .inl rfl | exact .inr (.inl rfl) | exact .inr (.inr rfl))) x_int) (c_ty (by rfl) F.n_str (by rfl))))) (w_or1 (b_kinE (n := true) F.d_PARTS F.w_PARTS (x_idx O (x_var (i := 0) rfl (by first | exact .inl rfl | exact .inr (.inl rfl) | exact .inr (.inr rfl))) x_int) (c_cls2 (by rfl) F.g_PARTS) (by with_unfolding_all rfl))))) (ss_cons (s_ret x_bl)
  ss_nil) ss_nil)
  (ss_cons (s_asg (x_kgetE F.d_PARTS F.v_PARTS (c_cls2 (by rfl) F.g_PARTS) (x_idx O (x_var (i := 0) rfl (by first | exact .inl rfl | exact .inr (.inl rfl) | exact .inr (.inr rfl))) x_int)) (g_nm nd rfl (by first | exact .inl rfl | exact .inr rfl) (by first | exact .inl rfl | exact .inr rfl)))
  (ss_cons (s_if (b_cmp O (o := .eq) (x_var (i := 2) rfl (by first | exact .inl rfl | exact .inr (.inl rfl) | exact .inr (.inr rfl))) x_int (nomark _)) (ss_cons (s_ret (x_and O (x_cmp O (o := .eq) (x_bf (bf_len O) (by rfl) F.n_len (by rfl) (x_cons (x_var (i := 0) rfl (by first | exact .inl rfl | exact .inr (.inl rfl) | exact .inr (.inr rfl))) x_nil)) x_int (nomark _)) (x_and1 (x_call (by exact FnE.mk (F.e_is_word hr)) tk (by rfl) F.g_is_word F.k_is_word (x_cons (x_idx O (x_var (i := 0) rfl (by first | exact .inl rfl | exact .inr (.inl rfl) | exact .inr (.inr rfl))) x_int) x_nil)))))
  ss_nil) ss_nil)
  (ss_cons (s_ret (x_and O (x_cmp O (o := .eq) (x_bf (bf_len O) (by rfl) F.n_len (by rfl) (x_cons (x_var (i := 0) rfl (by first | exact .inl rfl | exact .inr (.inl rfl) | exact .inr (.inr rfl))) x_nil)) (x_bin O (o := .add) x_int (x_var (i := 2) rfl (by first | exact .inl rfl | exact .inr (.inl rfl) | exact .inr (.inr rfl)))) (nomark _)) (x_and1 (x_bf (bf_all O (by rfl)) (by rfl) F.n_all (by rfl) (x_cons (x_comp (own := [("part", 3)]) rfl nd  (i_e O (x_slc O (x_var (i := 0) rfl (by first | exact .inl rfl | exact .inr (.inl rfl) | exact .inr (.inr rfl))) (o_some x_int) o_none)) (blkOk_by (N := ["value", "kinds", "many", "part"]) (sc := defScope (top 23)) (by decide +kernel)) (by decide) (fun _ _ _ _ _ => (g_nm nd rfl (by first | exact .inl rfl | exact .inr rfl) (by first | exact .inl rfl | exact .inr rfl))) (fun _ _ _ _ _ => .nil) (fun _ _ _ _ _ => (x_call (by exact FnE.mk (F.e_is_integer_in hr)) takes_none5 (by rfl) F.g_is_integer_in F.k_is_integer_in (x_cons (x_var (i := 3) rfl (by first | exact .inl rfl | exact .inr (.inl rfl) | exact .inr (.inr rfl))) (x_cons x_int (x_cons (x_bin (by exact O.of rfl rfl) (o := .sub) (x_var (i := 1) rfl (by first | exact .inl rfl | exact .inr (.inl rfl) | exact .inr (.inr rfl))) x_int) x_nil)))))) x_nil)))))
  ss_nil)))))
theorem sc_single_steps : FnScope ["kinds", "rules", "found", "rule", "_"] ["kinds", "rules"] (defScope (top 24)) := ⟨rfl, rfl, rfl, by decide +kernel, rfl, by decide +kernel, by decide +kernel⟩
theorem walk_single_steps (F : Fx prog w K mg base k) {f : Addr} {cdv : Value} {A : Around} {outer : List PySem.Env} {s : Shared} {H : Hp} {E : XK} {n0 : Nat} (hr : Room (2 * k + 2) (A.deeper (envOfC "single_steps" (defScope (top 24)) s.heap.objs.size f cdv))) :
    XSs (Dw K) (cxOf (L2.CX prog w) prog w K mg base ["kinds", "rules", "found", "rule", "_"] "single_steps" (defScope (top 24)) f cdv A outer s H E) (wB E) ⟨runFn prg k, n0, prg.sub, prg.xi⟩ (defBody (top 24)) ir_single_steps := by
  have nd : (["kinds", "rules", "found", "rule", "_"] : List Str).Nodup := sc_single_steps.nd
  have O : Okx (Dw K) (cxOf (L2.CX prog w) prog w K mg base ["kinds", "rules", "found", "rule", "_"] "single_steps" (defScope (top 24)) f cdv A outer s H E) := ⟨rfl, by have := hr.un; show (A.deeper (envOfC "single_steps" (defScope (top 24)) s.heap.objs.size f cdv)).units + 190 < _; omega, F.cls⟩
  have tk : Takes (cxOf (L2.CX prog w) prog w K mg base ["kinds", "rules", "found", "rule", "_"] "single_steps" (defScope (top 24)) f cdv A outer s H E) (wB E) := takes_of rfl rfl rfl rfl
  have hp : PassesOwn (model prog w) (A.deeper (envOfC "single_steps" (defScope (top 24)) s.heap.objs.size f cdv)) (envOfC "single_steps" (defScope (top 24)) s.heap.objs.size f cdv) (cxOf (L2.CX prog w) prog w K mg base ["kinds", "rules", "found", "rule", "_"] "single_steps" (defScope (top 24)) f cdv A outer s H E).xe := passes_of rfl
  exact (ss_cons (s_comp (i := 2) (own := [("_", 4)]) rfl nd rfl rfl (sw_true rfl rfl rfl (by decide +kernel)) (i_rng (by rfl) F.n_range (x_var (i := 0) rfl (by first | exact .inl rfl | exact .inr (.inl rfl) | exact .inr (.inr rfl)))) (blkOk_by (N := ["kinds", "rules", "found", "rule", "_"]) (sc := defScope (top 24)) (by decide +kernel)) (by decide) (fun _ _ _ _ _ => (g_nm nd rfl (by first | exact .inl rfl | exact .inr rfl) (by first | exact .inl rfl | exact .inr rfl))) (fun _ _ _ _ _ => .nil) (fun _ _ _ _ _ => (x_lst (m := true) x_nil)))
  (ss_cons (s_for hp rfl (i_e O (x_var (i := 1) rfl (by first | exact .inl rfl | exact .inr (.inl rfl) | exact .inr (.inr rfl)))) (g_nm nd rfl (by first | exact .inl rfl | exact .inr rfl) (by first | exact .inl rfl | exact .inr rfl)) (ss_cons (s_if (b_cmp O (o := .eq) (x_kgetE F.d_PARTS F.v_PARTS (c_cls2 (by rfl) F.g_PARTS) (x_idx O (x_var (i := 3) rfl (by first | exact .inl rfl | exact .inr (.inl rfl) | exact .inr (.inr rfl))) x_int)) x_int (nomark _)) (ss_cons (s_ex (x_bm O (f := .append) (by constructor <;> (intro h; cases h)) PySem.F.slot_list_append PySem.F.type_list_append bm_append (x_idx O (x_var (i := 2) rfl (by first | exact .inl rfl | exact .inr (.inl rfl) | exact .inr (.inr rfl))) (x_idx O (x_var (i := 3) rfl (by first | exact .inl rfl | exact .inr (.inl rfl) | exact .inr (.inr rfl))) x_int)) (x_cons (x_idx O (x_var (i := 3) rfl (by first | exact .inl rfl | exact .inr (.inl rfl) | exact .inr (.inr rfl))) x_int) x_nil)))
  ss_nil) ss_nil)
  ss_nil))
  (ss_cons (s_retF (x_var (i := 2) rfl (by first | exact .inl rfl | exact .inr (.inl rfl) | exact .inr (.inr rfl))))
  ss_nil)))
theorem sc_Pairsx_initx : FnScope ["self", "kinds", "rules", "back", "rule"] ["self", "kinds", "rules"] (defScope (mth 25 0)) := ⟨rfl, rfl, rfl, by decide +kernel, rfl, by decide +kernel, by decide +kernel⟩
theorem walk_Pairsx_initx (F : Fx prog w K mg base k) {f : Addr} {cdv : Value} {A : Around} {outer : List PySem.Env} {s : Shared} {H : Hp} {E : XK} {n0 : Nat} (hr : Room (2 * k + 2) (A.deeper (envOfC "Pairs.__init__" (defScope (mth 25 0)) s.heap.objs.size f cdv))) :
    XSs (Dw K) (cxOf (L2.CX prog w) prog w K mg base ["self", "kinds", "rules", "back", "rule"] "Pairs.__init__" (defScope (mth 25 0)) f cdv A outer s H E) (wB E) ⟨runFn prg k, n0, prg.sub, prg.xi⟩ (defBody (mth 25 0)) ir_Pairsx_initx := by
  have nd : (["self", "kinds", "rules", "back", "rule"] : List Str).Nodup := sc_Pairsx_initx.nd
  have O : Okx (Dw K) (cxOf (L2.CX prog w) prog w K mg base ["self", "kinds", "rules", "back", "rule"] "Pairs.__init__" (defScope (mth 25 0)) f cdv A outer s H E) := ⟨rfl, by have := hr.un; show (A.deeper (envOfC "Pairs.__init__" (defScope (mth 25 0)) s.heap.objs.size f cdv)).units + 190 < _; omega, F.cls⟩
  have tk : Takes (cxOf (L2.CX prog w) prog w K mg base ["self", "kinds", "rules", "back", "rule"] "Pairs.__init__" (defScope (mth 25 0)) f cdv A outer s H E) (wB E) := takes_of rfl rfl rfl rfl
  have hp : PassesOwn (model prog w) (A.deeper (envOfC "Pairs.__init__" (defScope (mth 25 0)) s.heap.objs.size f cdv)) (envOfC "Pairs.__init__" (defScope (mth 25 0)) s.heap.objs.size f cdv) (cxOf (L2.CX prog w) prog w K mg base ["self", "kinds", "rules", "back", "rule"] "Pairs.__init__" (defScope (mth 25 0)) f cdv A outer s H E).xe := passes_of rfl
  exact (ss_cons (s_if (b_not (b_val O (x_call (by exact FnE.mk (F.e_is_integer_in hr)) tk (by rfl) F.g_is_integer_in F.k_is_integer_in (x_cons (x_var (i := 1) rfl (by first | exact .inl rfl | exact .inr (.inl rfl) | exact .inr (.inr rfl))) (x_cons x_int (x_cons (x_gi (by rfl) F.c_MOST_KINDS) x_nil)))))) (ss_cons (s_raise (c := 1) rfl tk (by exact F.x_InvalidNumber rfl rfl rfl rfl rfl hr) (x_var (i := 1) rfl (by first | exact .inl rfl | exact .inr (.inl rfl) | exact .inr (.inr rfl))) (by rfl) F.g_InvalidNumber)
  ss_nil) ss_nil)
  (ss_cons (s_if (PW.pt (w_or (b_not (b_val O (x_isi O (y := .tuple) trivial (by rfl) F.n_isinstance (x_var (i := 2) rfl (by first | exact .inl rfl | exact .inr (.inl rfl) | exact .inr (.inr rfl))) (c_ty (by rfl) F.n_tuple (by rfl))))) (w_or1 (b_not (b_chain O (o := .le) (o' := .le) x_int (x_bf (bf_len O) (by rfl) F.n_len (by rfl) (x_cons (x_var (i := 2) rfl (by first | exact .inl rfl | exact .inr (.inl rfl) | exact .inr (.inr rfl))) x_nil)) (x_gi (by rfl) F.c_MOST_RULES) (by with_unfolding_all rfl)))))) (ss_cons (s_raise (c := 2) rfl tk (by exact F.x_InvalidRules rfl rfl rfl rfl rfl hr) (x_var (i := 2) rfl (by first | exact .inl rfl | exact .inr (.inl rfl) | exact .inr (.inr rfl))) (by rfl) F.g_InvalidRules)
  ss_nil) ss_nil)
  (ss_cons (s_if (b_not (b_val O (x_bf (bf_all O (by rfl)) (by rfl) F.n_all (by rfl) (x_cons (x_comp (own := [("rule", 4)]) rfl nd  (i_e O (x_var (i := 2) rfl (by first | exact .inl rfl | exact .inr (.inl rfl) | exact .inr (.inr rfl)))) (blkOk_by (N := ["self", "kinds", "rules", "back", "rule"]) (sc := defScope (mth 25 0)) (by decide +kernel)) (by decide) (fun _ _ _ _ _ => (g_nm nd rfl (by first | exact .inl rfl | exact .inr rfl) (by first | exact .inl rfl | exact .inr rfl))) (fun _ _ _ _ _ => .nil) (fun _ _ _ _ _ => (x_call (by exact FnE.mk (F.e_is_rule hr)) takes_none5 (by rfl) F.g_is_rule F.k_is_rule (x_cons (x_var (i := 4) rfl (by first | exact .inl rfl | exact .inr (.inl rfl) | exact .inr (.inr rfl))) (x_cons (x_var (i := 1) rfl (by first | exact .inl rfl | exact .inr (.inl rfl) | exact .inr (.inr rfl))) x_nil))))) x_nil)))) (ss_cons (s_raise (c := 2) rfl tk (by exact F.x_InvalidRules rfl rfl rfl rfl rfl hr) (x_var (i := 2) rfl (by first | exact .inl rfl | exact .inr (.inl rfl) | exact .inr (.inr rfl))) (by rfl) F.g_InvalidRules)
  ss_nil) ss_nil)
  (ss_cons (s_asg (x_call (by exact FnE.mk (F.e_least_back hr)) tk (by rfl) F.g_least_back F.k_least_back (x_cons (x_call (by exact FnE.mk (F.e_single_steps hr)) tk (by rfl) F.g_single_steps F.k_single_steps (x_cons (x_var (i := 1) rfl (by first | exact .inl rfl | exact .inr (.inl rfl) | exact .inr (.inr rfl))) (x_cons (x_var (i := 2) rfl (by first | exact .inl rfl | exact .inr (.inl rfl) | exact .inr (.inr rfl))) x_nil))) x_nil)) (g_nm nd rfl (by first | exact .inl rfl | exact .inr rfl) (by first | exact .inl rfl | exact .inr rfl)))
  (ss_cons (s_if (b_cmp O (o := .isnot) (x_var (i := 3) rfl (by first | exact .inl rfl | exact .inr (.inl rfl) | exact .inr (.inr rfl))) x_non (nomark _)) (ss_cons (s_raise (c := 3) rfl tk (by exact F.x_Endless rfl rfl rfl rfl rfl hr) (x_var (i := 3) rfl (by first | exact .inl rfl | exact .inr (.inl rfl) | exact .inr (.inr rfl))) (by rfl) F.g_Endless)
  ss_nil) ss_nil)
  (ss_cons (s_setf O (c := 0) (f := 0) F.inj F.a_Pairs_kinds (x_var (i := 0) rfl (by first | exact .inl rfl | exact .inr (.inl rfl) | exact .inr (.inr rfl))) (x_var (i := 1) rfl (by first | exact .inl rfl | exact .inr (.inl rfl) | exact .inr (.inr rfl))))
  (ss_cons (s_setf O (c := 0) (f := 1) F.inj F.a_Pairs_rules (x_var (i := 0) rfl (by first | exact .inl rfl | exact .inr (.inl rfl) | exact .inr (.inr rfl))) (x_var (i := 2) rfl (by first | exact .inl rfl | exact .inr (.inl rfl) | exact .inr (.inr rfl))))
  ss_nil)))))))
theorem sc_Pairsx_eqx : FnScope ["self", "other"] ["self", "other"] (defScope (mth 25 1)) := ⟨rfl, rfl, rfl, by decide +kernel, rfl, by decide +kernel, by decide +kernel⟩
theorem walk_Pairsx_eqx (F : Fx prog w K mg base k) {f : Addr} {cdv : Value} {A : Around} {outer : List PySem.Env} {s : Shared} {H : Hp} {E : XK} {n0 : Nat} (hr : Room (2 * k + 2) (A.deeper (envOfC "Pairs.__eq__" (defScope (mth 25 1)) s.heap.objs.size f cdv))) :
    XSs (Dw K) (cxOf (L2.CX prog w) prog w K mg base ["self", "other"] "Pairs.__eq__" (defScope (mth 25 1)) f cdv A outer s H E) (wB E) ⟨runFn prg k, n0, prg.sub, prg.xi⟩ (defBody (mth 25 1)) ir_Pairsx_eqx := by
  have nd : (["self", "other"] : List Str).Nodup := sc_Pairsx_eqx.nd
  have O : Okx (Dw K) (cxOf (L2.CX prog w) prog w K mg base ["self", "other"] "Pairs.__eq__" (defScope (mth 25 1)) f cdv A outer s H E) := ⟨rfl, by have := hr.un; show (A.deeper (envOfC "Pairs.__eq__" (defScope (mth 25 1)) s.heap.objs.size f cdv)).units + 190 < _; omega, F.cls⟩
  have tk : Takes (cxOf (L2.CX prog w) prog w K mg base ["self", "other"] "Pairs.__eq__" (defScope (mth 25 1)) f cdv A outer s H E) (wB E) := takes_of rfl rfl rfl rfl
  have hp : PassesOwn (model prog w) (A.deeper (envOfC "Pairs.__eq__" (defScope (mth 25 1)) s.heap.objs.size f cdv)) (envOfC "Pairs.__eq__" (defScope (mth 25 1)) s.heap.objs.size f cdv) (cxOf (L2.CX prog w) prog w K mg base ["self", "other"] "Pairs.__eq__" (defScope (mth 25 1)) f cdv A outer s H E).xe := passes_of rfl
  exact (ss_cons (s_ret (x_and O (x_isi O (y := (.cls 0)) (by show 0 < 1; decide) (by rfl) F.n_isinstance (x_var (i := 1) rfl (by first | exact .inl rfl | exact .inr (.inl rfl) | exact .inr (.inr rfl))) (c_cls (by rfl) F.g_Pairs)) (x_and O (x_cmp O (o := .eq) (x_fld O (c := 0) (f := 0) F.inj F.a_Pairs_kinds (x_var (i := 0) rfl (by first | exact .inl rfl | exact .inr (.inl rfl) | exact .inr (.inr rfl)))) (x_fld O (c := 0) (f := 0) F.inj F.a_Pairs_kinds (x_var (i := 1) rfl (by first | exact .inl rfl | exact .inr (.inl rfl) | exact .inr (.inr rfl)))) (nomark _)) (x_and1 (x_cmp O (o := .eq) (x_fld O (c := 0) (f := 1) F.inj F.a_Pairs_rules (x_var (i := 0) rfl (by first | exact .inl rfl | exact .inr (.inl rfl) | exact .inr (.inr rfl)))) (x_fld O (c := 0) (f := 1) F.inj F.a_Pairs_rules (x_var (i := 1) rfl (by first | exact .inl rfl | exact .inr (.inl rfl) | exact .inr (.inr rfl)))) (nomark _))))))
  ss_nil)
theorem sc__law_box : FnScope ["script", "k", "cell", "great"] ["script", "k"] (defScope (top 68)) := ⟨rfl, rfl, rfl, by decide +kernel, rfl, by decide +kernel, by decide +kernel⟩
theorem walk__law_box (F : Fx prog w K mg base k) {f : Addr} {cdv : Value} {A : Around} {outer : List PySem.Env} {s : Shared} {H : Hp} {E : XK} {n0 : Nat} (hr : Room (2 * k + 2) (A.deeper (envOfC "_law_box" (defScope (top 68)) s.heap.objs.size f cdv))) :
    XSs (Dw K) (cxOf (L2.CX prog w) prog w K mg base ["script", "k", "cell", "great"] "_law_box" (defScope (top 68)) f cdv A outer s H E) (wB E) ⟨runFn prg k, n0, prg.sub, prg.xi⟩ (defBody (top 68)) ir__law_box := by
  have nd : (["script", "k", "cell", "great"] : List Str).Nodup := sc__law_box.nd
  have O : Okx (Dw K) (cxOf (L2.CX prog w) prog w K mg base ["script", "k", "cell", "great"] "_law_box" (defScope (top 68)) f cdv A outer s H E) := ⟨rfl, by have := hr.un; show (A.deeper (envOfC "_law_box" (defScope (top 68)) s.heap.objs.size f cdv)).units + 190 < _; omega, F.cls⟩
  have tk : Takes (cxOf (L2.CX prog w) prog w K mg base ["script", "k", "cell", "great"] "_law_box" (defScope (top 68)) f cdv A outer s H E) (wB E) := takes_of rfl rfl rfl rfl
  have hp : PassesOwn (model prog w) (A.deeper (envOfC "_law_box" (defScope (top 68)) s.heap.objs.size f cdv)) (envOfC "_law_box" (defScope (top 68)) s.heap.objs.size f cdv) (cxOf (L2.CX prog w) prog w K mg base ["script", "k", "cell", "great"] "_law_box" (defScope (top 68)) f cdv A outer s H E).xe := passes_of rfl
  exact (ss_cons (s_asg (x_bin O (o := .add) (x_bin O (o := .mul) x_int (x_var (i := 1) rfl (by first | exact .inl rfl | exact .inr (.inl rfl) | exact .inr (.inr rfl)))) x_int) (g_nm nd rfl (by first | exact .inl rfl | exact .inr rfl) (by first | exact .inl rfl | exact .inr rfl)))
  (ss_cons (s_if (b_cmp O (o := .lt) (x_var (i := 1) rfl (by first | exact .inl rfl | exact .inr (.inl rfl) | exact .inr (.inr rfl))) (x_bf (bf_len O) (by rfl) F.n_len (by rfl) (x_cons (x_var (i := 0) rfl (by first | exact .inl rfl | exact .inr (.inl rfl) | exact .inr (.inr rfl))) x_nil)) (nomark _)) (ss_cons (s_asg (x_bf bf_abs (by rfl) F.n_abs (by rfl) (x_cons (x_idx O (x_var (i := 0) rfl (by first | exact .inl rfl | exact .inr (.inl rfl) | exact .inr (.inr rfl))) (x_var (i := 1) rfl (by first | exact .inl rfl | exact .inr (.inl rfl) | exact .inr (.inr rfl)))) x_nil)) (g_nm nd rfl (by first | exact .inl rfl | exact .inr rfl) (by first | exact .inl rfl | exact .inr rfl)))
  ss_nil) (ss_cons (s_if (b_cmp O (o := .gt) (x_bf (bf_len O) (by rfl) F.n_len (by rfl) (x_cons (x_var (i := 0) rfl (by first | exact .inl rfl | exact .inr (.inl rfl) | exact .inr (.inr rfl))) x_nil)) x_int (nomark _)) (ss_cons (s_asg (x_bin O (o := .add) (x_bin O (o := .mul) (x_bin O (o := .mod) (x_bfT bf_int (by rfl) F.n_int (by rfl) (x_cons (x_bf bf_abs (by rfl) F.n_abs (by rfl) (x_cons (x_idx O (x_var (i := 0) rfl (by first | exact .inl rfl | exact .inr (.inl rfl) | exact .inr (.inr rfl))) (x_bin O (o := .mod) (x_bfT bf_int (by rfl) F.n_int (by rfl) (x_cons (x_var (i := 1) rfl (by first | exact .inl rfl | exact .inr (.inl rfl) | exact .inr (.inr rfl))) x_nil)) (x_bf (bf_len O) (by rfl) F.n_len (by rfl) (x_cons (x_var (i := 0) rfl (by first | exact .inl rfl | exact .inr (.inl rfl) | exact .inr (.inr rfl))) x_nil)))) x_nil)) x_nil)) x_int) x_int) (x_bin O (o := .mul) x_int (x_var (i := 1) rfl (by first | exact .inl rfl | exact .inr (.inl rfl) | exact .inr (.inr rfl))))) (g_nm nd rfl (by first | exact .inl rfl | exact .inr rfl) (by first | exact .inl rfl | exact .inr rfl)))
  ss_nil) ss_nil)
  ss_nil))
  (ss_cons (s_asg (x_idx O (x_lst (m := false) (x_cons x_int (x_cons (x_var (i := 2) rfl (by first | exact .inl rfl | exact .inr (.inl rfl) | exact .inr (.inr rfl))) x_nil))) (x_bfT bf_int (by rfl) F.n_int (by rfl) (x_cons (x_cmp O (o := .ge) (x_var (i := 2) rfl (by first | exact .inl rfl | exact .inr (.inl rfl) | exact .inr (.inr rfl))) (x_bin O (o := .pow) x_int x_int) (nomark _)) x_nil))) (g_nm nd rfl (by first | exact .inl rfl | exact .inr rfl) (by first | exact .inl rfl | exact .inr rfl)))
  (ss_cons (s_ret (x_lst (m := true) (x_cons (x_var (i := 3) rfl (by first | exact .inl rfl | exact .inr (.inl rfl) | exact .inr (.inr rfl))) (x_cons (x_bin O (o := .add) (x_bin O (o := .mod) (x_bfT bf_int (by rfl) F.n_int (by rfl) (x_cons (x_bin O (o := .add) (x_bin O (o := .mul) (x_bin O (o := .mod) (x_bfT bf_int (by rfl) F.n_int (by rfl) (x_cons (x_var (i := 2) rfl (by first | exact .inl rfl | exact .inr (.inl rfl) | exact .inr (.inr rfl))) x_nil)) x_int) x_int) (x_bin O (o := .mul) x_int (x_var (i := 1) rfl (by first | exact .inl rfl | exact .inr (.inl rfl) | exact .inr (.inr rfl))))) x_nil)) x_int) x_int) x_nil))))
  ss_nil))))
theorem sc__law_take : FnScope ["box", "many", "got"] ["box", "many"] (defScope (top 69)) := ⟨rfl, rfl, rfl, by decide +kernel, rfl, by decide +kernel, by decide +kernel⟩
theorem walk__law_take (F : Fx prog w K mg base k) {f : Addr} {cdv : Value} {A : Around} {outer : List PySem.Env} {s : Shared} {H : Hp} {E : XK} {n0 : Nat} (hr : Room (2 * k + 2) (A.deeper (envOfC "_law_take" (defScope (top 69)) s.heap.objs.size f cdv))) :
    XSs (Dw K) (cxOf (L2.CX prog w) prog w K mg base ["box", "many", "got"] "_law_take" (defScope (top 69)) f cdv A outer s H E) (wB E) ⟨runFn prg k, n0, prg.sub, prg.xi⟩ (defBody (top 69)) ir__law_take := by
  have nd : (["box", "many", "got"] : List Str).Nodup := sc__law_take.nd
  have O : Okx (Dw K) (cxOf (L2.CX prog w) prog w K mg base ["box", "many", "got"] "_law_take" (defScope (top 69)) f cdv A outer s H E) := ⟨rfl, by have := hr.un; show (A.deeper (envOfC "_law_take" (defScope (top 69)) s.heap.objs.size f cdv)).units + 190 < _; omega, F.cls⟩
  have tk : Takes (cxOf (L2.CX prog w) prog w K mg base ["box", "many", "got"] "_law_take" (defScope (top 69)) f cdv A outer s H E) (wB E) := takes_of rfl rfl rfl rfl
  have hp : PassesOwn (model prog w) (A.deeper (envOfC "_law_take" (defScope (top 69)) s.heap.objs.size f cdv)) (envOfC "_law_take" (defScope (top 69)) s.heap.objs.size f cdv) (cxOf (L2.CX prog w) prog w K mg base ["box", "many", "got"] "_law_take" (defScope (top 69)) f cdv A outer s H E).xe := passes_of rfl
  exact (ss_cons (s_if (b_cmp O (o := .gt) (x_idx O (x_var (i := 0) rfl (by first | exact .inl rfl | exact .inr (.inl rfl) | exact .inr (.inr rfl))) x_int) x_int (nomark _)) (ss_cons (s_asg (x_bin O (o := .mod) (x_bfT bf_int (by rfl) F.n_int (by rfl) (x_cons (x_idx O (x_var (i := 0) rfl (by first | exact .inl rfl | exact .inr (.inl rfl) | exact .inr (.inr rfl))) x_int) x_nil)) (x_var (i := 1) rfl (by first | exact .inl rfl | exact .inr (.inl rfl) | exact .inr (.inr rfl)))) (g_nm nd rfl (by first | exact .inl rfl | exact .inr rfl) (by first | exact .inl rfl | exact .inr rfl)))
  (ss_cons (s_seti O (x_var (i := 0) rfl (by first | exact .inl rfl | exact .inr (.inl rfl) | exact .inr (.inr rfl))) x_int (x_bin O (o := .fdiv) (x_idx O (x_var (i := 0) rfl (by first | exact .inl rfl | exact .inr (.inl rfl) | exact .inr (.inr rfl))) x_int) (x_var (i := 1) rfl (by first | exact .inl rfl | exact .inr (.inl rfl) | exact .inr (.inr rfl)))))
  (ss_cons (s_ret (x_var (i := 2) rfl (by first | exact .inl rfl | exact .inr (.inl rfl) | exact .inr (.inr rfl))))
  ss_nil))) ss_nil)
  (ss_cons (s_seti O (x_var (i := 0) rfl (by first | exact .inl rfl | exact .inr (.inl rfl) | exact .inr (.inr rfl))) x_int (x_bin O (o := .mod) (x_bfT bf_int (by rfl) F.n_int (by rfl) (x_cons (x_bin O (o := .add) (x_bin O (o := .mul) (x_idx O (x_var (i := 0) rfl (by first | exact .inl rfl | exact .inr (.inl rfl) | exact .inr (.inr rfl))) x_int) x_int) x_int) x_nil)) x_int))
  (ss_cons (s_ret (x_bin O (o := .mod) (x_bfT bf_int (by rfl) F.n_int (by rfl) (x_cons (x_bin O (o := .fdiv) (x_idx O (x_var (i := 0) rfl (by first | exact .inl rfl | exact .inr (.inl rfl) | exact .inr (.inr rfl))) x_int) x_int) x_nil)) (x_var (i := 1) rfl (by first | exact .inl rfl | exact .inr (.inl rfl) | exact .inr (.inr rfl)))))
  ss_nil)))
theorem sc__law_pick : FnScope ["box", "some"] ["box", "some"] (defScope (top 70)) := ⟨rfl, rfl, rfl, by decide +kernel, rfl, by decide +kernel, by decide +kernel⟩
theorem walk__law_pick (F : Fx prog w K mg base k) {f : Addr} {cdv : Value} {A : Around} {outer : List PySem.Env} {s : Shared} {H : Hp} {E : XK} {n0 : Nat} (hr : Room (2 * k + 2) (A.deeper (envOfC "_law_pick" (defScope (top 70)) s.heap.objs.size f cdv))) :
    XSs (Dw K) (cxOf (L2.CX prog w) prog w K mg base ["box", "some"] "_law_pick" (defScope (top 70)) f cdv A outer s H E) (wB E) ⟨runFn prg k, n0, prg.sub, prg.xi⟩ (defBody (top 70)) ir__law_pick := by
  have nd : (["box", "some"] : List Str).Nodup := sc__law_pick.nd
  have O : Okx (Dw K) (cxOf (L2.CX prog w) prog w K mg base ["box", "some"] "_law_pick" (defScope (top 70)) f cdv A outer s H E) := ⟨rfl, by have := hr.un; show (A.deeper (envOfC "_law_pick" (defScope (top 70)) s.heap.objs.size f cdv)).units + 190 < _; omega, F.cls⟩
  have tk : Takes (cxOf (L2.CX prog w) prog w K mg base ["box", "some"] "_law_pick" (defScope (top 70)) f cdv A outer s H E) (wB E) := takes_of rfl rfl rfl rfl
  have hp : PassesOwn (model prog w) (A.deeper (envOfC "_law_pick" (defScope (top 70)) s.heap.objs.size f cdv)) (envOfC "_law_pick" (defScope (top 70)) s.heap.objs.size f cdv) (cxOf (L2.CX prog w) prog w K mg base ["box", "some"] "_law_pick" (defScope (top 70)) f cdv A outer s H E).xe := passes_of rfl
  exact (ss_cons (s_ret (x_idx O (x_var (i := 1) rfl (by first | exact .inl rfl | exact .inr (.inl rfl) | exact .inr (.inr rfl))) (x_call (by exact FnE.mk (F.e__law_take hr)) tk (by rfl) F.g__law_take F.k__law_take (x_cons (x_var (i := 0) rfl (by first | exact .inl rfl | exact .inr (.inl rfl) | exact .inr (.inr rfl))) (x_cons (x_bf (bf_len O) (by rfl) F.n_len (by rfl) (x_cons (x_var (i := 1) rfl (by first | exact .inl rfl | exact .inr (.inl rfl) | exact .inr (.inr rfl))) x_nil)) x_nil)))))
  ss_nil)
theorem sc__law_whole : FnScope ["value"] ["value"] (defScope (top 71)) := ⟨rfl, rfl, rfl, by decide +kernel, rfl, by decide +kernel, by decide +kernel⟩
theorem walk__law_whole (F : Fx prog w K mg base k) {f : Addr} {cdv : Value} {A : Around} {outer : List PySem.Env} {s : Shared} {H : Hp} {E : XK} {n0 : Nat} (hr : Room (2 * k + 2) (A.deeper (envOfC "_law_whole" (defScope (top 71)) s.heap.objs.size f cdv))) :
    XSs (Dw K) (cxOf (L2.CX prog w) prog w K mg base ["value"] "_law_whole" (defScope (top 71)) f cdv A outer s H E) (wB E) ⟨runFn prg k, n0, prg.sub, prg.xi⟩ (defBody (top 71)) ir__law_whole := by
  have nd : (["value"] : List Str).Nodup := sc__law_whole.nd
  have O : Okx (Dw K) (cxOf (L2.CX prog w) prog w K mg base ["value"] "_law_whole" (defScope (top 71)) f cdv A outer s H E) := ⟨rfl, by have := hr.un; show (A.deeper (envOfC "_law_whole" (defScope (top 71)) s.heap.objs.size f cdv)).units + 190 < _; omega, F.cls⟩
  have tk : Takes (cxOf (L2.CX prog w) prog w K mg base ["value"] "_law_whole" (defScope (top 71)) f cdv A outer s H E) (wB E) := takes_of rfl rfl rfl rfl
  have hp : PassesOwn (model prog w) (A.deeper (envOfC "_law_whole" (defScope (top 71)) s.heap.objs.size f cdv)) (envOfC "_law_whole" (defScope (top 71)) s.heap.objs.size f cdv) (cxOf (L2.CX prog w) prog w K mg base ["value"] "_law_whole" (defScope (top 71)) f cdv A outer s H E).xe := passes_of rfl
  exact (ss_cons (s_ret (x_and O (x_isi O (y := .int) trivial (by rfl) F.n_isinstance (x_var (i := 0) rfl (by first | exact .inl rfl | exact .inr (.inl rfl) | exact .inr (.inr rfl))) (c_ty (by rfl) F.n_int (by rfl))) (x_and1 (x_not O (x_isi O (y := .bool) trivial (by rfl) F.n_isinstance (x_var (i := 0) rfl (by first | exact .inl rfl | exact .inr (.inl rfl) | exact .inr (.inr rfl))) (c_ty (by rfl) F.n_bool (by rfl)))))))
  ss_nil)
theorem sc__law_is_due : FnScope ["told", "due"] ["told", "due"] (defScope (top 72)) := ⟨rfl, rfl, rfl, by decide +kernel, rfl, by decide +kernel, by decide +kernel⟩
theorem walk__law_is_due (F : Fx prog w K mg base k) {f : Addr} {cdv : Value} {A : Around} {outer : List PySem.Env} {s : Shared} {H : Hp} {E : XK} {n0 : Nat} (hr : Room (2 * k + 2) (A.deeper (envOfC "_law_is_due" (defScope (top 72)) s.heap.objs.size f cdv))) :
    XSs (Dw K) (cxOf (L2.CX prog w) prog w K mg base ["told", "due"] "_law_is_due" (defScope (top 72)) f cdv A outer s H E) (wB E) ⟨runFn prg k, n0, prg.sub, prg.xi⟩ (defBody (top 72)) ir__law_is_due := by
  have nd : (["told", "due"] : List Str).Nodup := sc__law_is_due.nd
  have O : Okx (Dw K) (cxOf (L2.CX prog w) prog w K mg base ["told", "due"] "_law_is_due" (defScope (top 72)) f cdv A outer s H E) := ⟨rfl, by have := hr.un; show (A.deeper (envOfC "_law_is_due" (defScope (top 72)) s.heap.objs.size f cdv)).units + 190 < _; omega, F.cls⟩
  have tk : Takes (cxOf (L2.CX prog w) prog w K mg base ["told", "due"] "_law_is_due" (defScope (top 72)) f cdv A outer s H E) (wB E) := takes_of rfl rfl rfl rfl
  have hp : PassesOwn (model prog w) (A.deeper (envOfC "_law_is_due" (defScope (top 72)) s.heap.objs.size f cdv)) (envOfC "_law_is_due" (defScope (top 72)) s.heap.objs.size f cdv) (cxOf (L2.CX prog w) prog w K mg base ["told", "due"] "_law_is_due" (defScope (top 72)) f cdv A outer s H E).xe := passes_of rfl
  exact (ss_cons (s_ret (x_ite (b_val O (x_var (i := 1) rfl (by first | exact .inl rfl | exact .inr (.inl rfl) | exact .inr (.inr rfl)))) (x_cmp O (o := .is) (x_var (i := 0) rfl (by first | exact .inl rfl | exact .inr (.inl rfl) | exact .inr (.inr rfl))) x_bl (nomark _)) (x_cmp O (o := .is) (x_var (i := 0) rfl (by first | exact .inl rfl | exact .inr (.inl rfl) | exact .inr (.inr rfl))) x_bl (nomark _)) (fun _ _ => evB_eq _ _ _ _)))
  ss_nil)
theorem sc__law_spoilt : FnScope ["box", "value", "deep", "at", "how"] ["box", "value", "deep"] (defScope (top 73)) := ⟨rfl, rfl, rfl, by decide +kernel, rfl, by decide +kernel, by decide +kernel⟩
theorem walk__law_spoilt (F : Fx prog w K mg base k) {f : Addr} {cdv : Value} {A : Around} {outer : List PySem.Env} {s : Shared} {H : Hp} {E : XK} {n0 : Nat} (hr : Room (2 * k + 2) (A.deeper (envOfC "_law_spoilt" (defScope (top 73)) s.heap.objs.size f cdv))) :
    XSs (Dw K) (cxOf (L2.CX prog w) prog w K mg base ["box", "value", "deep", "at", "how"] "_law_spoilt" (defScope (top 73)) f cdv A outer s H E) (wB E) ⟨runFn prg k, n0, prg.sub, prg.xi⟩ (defBody (top 73)) ir__law_spoilt := by
  have nd : (["box", "value", "deep", "at", "how"] : List Str).Nodup := sc__law_spoilt.nd
  have O : Okx (Dw K) (cxOf (L2.CX prog w) prog w K mg base ["box", "value", "deep", "at", "how"] "_law_spoilt" (defScope (top 73)) f cdv A outer s H E) := ⟨rfl, by have := hr.un; show (A.deeper (envOfC "_law_spoilt" (defScope (top 73)) s.heap.objs.size f cdv)).units + 190 < _; omega, F.cls⟩
  have tk : Takes (cxOf (L2.CX prog w) prog w K mg base ["box", "value", "deep", "at", "how"] "_law_spoilt" (defScope (top 73)) f cdv A outer s H E) (wB E) := takes_of rfl rfl rfl rfl
  have hp : PassesOwn (model prog w) (A.deeper (envOfC "_law_spoilt" (defScope (top 73)) s.heap.objs.size f cdv)) (envOfC "_law_spoilt" (defScope (top 73)) s.heap.objs.size f cdv) (cxOf (L2.CX prog w) prog w K mg base ["box", "value", "deep", "at", "how"] "_law_spoilt" (defScope (top 73)) f cdv A outer s H E).xe := passes_of rfl
  exact (ss_cons (s_if (b_val O (x_isi O (y := .tuple) trivial (by rfl) F.n_isinstance (x_var (i := 1) rfl (by first | exact .inl rfl | exact .inr (.inl rfl) | exact .inr (.inr rfl))) (c_ty (by rfl) F.n_tuple (by rfl)))) (ss_cons (s_asg (x_call (by exact FnE.mk (F.e__law_take hr)) tk (by rfl) F.g__law_take F.k__law_take (x_cons (x_var (i := 0) rfl (by first | exact .inl rfl | exact .inr (.inl rfl) | exact .inr (.inr rfl))) (x_cons (x_bin O (o := .add) (x_bf (bf_len O) (by rfl) F.n_len (by rfl) (x_cons (x_var (i := 1) rfl (by first | exact .inl rfl | exact .inr (.inl rfl) | exact .inr (.inr rfl))) x_nil)) x_int) x_nil))) (g_nm nd rfl (by first | exact .inl rfl | exact .inr rfl) (by first | exact .inl rfl | exact .inr rfl)))
  (ss_cons (s_if (PW.pt (w_and (b_cmp O (o := .ne) (x_var (i := 1) rfl (by first | exact .inl rfl | exact .inr (.inl rfl) | exact .inr (.inr rfl))) (x_tup x_nil) (nomark _)) (w_and (b_cmp O (o := .gt) (x_var (i := 2) rfl (by first | exact .inl rfl | exact .inr (.inl rfl) | exact .inr (.inr rfl))) x_int (nomark _)) (w_and1 (b_cmp O (o := .gt) (x_call (by exact FnE.mk (F.e__law_take hr)) tk (by rfl) F.g__law_take F.k__law_take (x_cons (x_var (i := 0) rfl (by first | exact .inl rfl | exact .inr (.inl rfl) | exact .inr (.inr rfl))) (x_cons x_int x_nil))) x_int (nomark _)))))) (ss_cons (s_asg (x_bin O (o := .mod) (x_bfT bf_int (by rfl) F.n_int (by rfl) (x_cons (x_var (i := 3) rfl (by first | exact .inl rfl | exact .inr (.inl rfl) | exact .inr (.inr rfl))) x_nil)) (x_bf (bf_len O) (by rfl) F.n_len (by rfl) (x_cons (x_var (i := 1) rfl (by first | exact .inl rfl | exact .inr (.inl rfl) | exact .inr (.inr rfl))) x_nil))) (g_nm nd rfl (by first | exact .inl rfl | exact .inr rfl) (by first | exact .inl rfl | exact .inr rfl)))
  (ss_cons (s_ret (x_bin O (o := .add) (x_bin O (o := .add) (x_slc O (x_var (i := 1) rfl (by first | exact .inl rfl | exact .inr (.inl rfl) | exact .inr (.inr rfl))) o_none (o_some (x_var (i := 3) rfl (by first | exact .inl rfl | exact .inr (.inl rfl) | exact .inr (.inr rfl))))) (x_tup (x_cons (x_call (by exact FnE.mk (F.e__law_spoilt hr)) tk (by rfl) F.g__law_spoilt F.k__law_spoilt (x_cons (x_var (i := 0) rfl (by first | exact .inl rfl | exact .inr (.inl rfl) | exact .inr (.inr rfl))) (x_cons (x_idx O (x_var (i := 1) rfl (by first | exact .inl rfl | exact .inr (.inl rfl) | exact .inr (.inr rfl))) (x_var (i := 3) rfl (by first | exact .inl rfl | exact .inr (.inl rfl) | exact .inr (.inr rfl)))) (x_cons (x_bin O (o := .sub) (x_var (i := 2) rfl (by first | exact .inl rfl | exact .inr (.inl rfl) | exact .inr (.inr rfl))) x_int) x_nil)))) x_nil))) (x_slc O (x_var (i := 1) rfl (by first | exact .inl rfl | exact .inr (.inl rfl) | exact .inr (.inr rfl))) (o_some (x_bin O (o := .add) (x_var (i := 3) rfl (by first | exact .inl rfl | exact .inr (.inl rfl) | exact .inr (.inr rfl))) x_int)) o_none)))
  ss_nil)) ss_nil)
  (ss_cons (s_asg (x_call (by exact FnE.mk (F.e__law_take hr)) tk (by rfl) F.g__law_take F.k__law_take (x_cons (x_var (i := 0) rfl (by first | exact .inl rfl | exact .inr (.inl rfl) | exact .inr (.inr rfl))) (x_cons x_int x_nil))) (g_nm nd rfl (by first | exact .inl rfl | exact .inr rfl) (by first | exact .inl rfl | exact .inr rfl)))
  (ss_cons (s_if (b_cmp O (o := .eq) (x_var (i := 4) rfl (by first | exact .inl rfl | exact .inr (.inl rfl) | exact .inr (.inr rfl))) x_int (nomark _)) (ss_cons (s_ret (x_bfT (bf_list O) (by rfl) F.n_list (by rfl) (x_cons (x_var (i := 1) rfl (by first | exact .inl rfl | exact .inr (.inl rfl) | exact .inr (.inr rfl))) x_nil)))
  ss_nil) ss_nil)
  (ss_cons (s_if (b_cmp O (o := .eq) (x_var (i := 4) rfl (by first | exact .inl rfl | exact .inr (.inl rfl) | exact .inr (.inr rfl))) x_int (nomark _)) (ss_cons (s_ret (x_bin O (o := .add) (x_slc O (x_var (i := 1) rfl (by first | exact .inl rfl | exact .inr (.inl rfl) | exact .inr (.inr rfl))) o_none (o_some (x_var (i := 3) rfl (by first | exact .inl rfl | exact .inr (.inl rfl) | exact .inr (.inr rfl))))) (x_slc O (x_var (i := 1) rfl (by first | exact .inl rfl | exact .inr (.inl rfl) | exact .inr (.inr rfl))) (o_some (x_bin O (o := .add) (x_var (i := 3) rfl (by first | exact .inl rfl | exact .inr (.inl rfl) | exact .inr (.inr rfl))) x_int)) o_none)))
  ss_nil) ss_nil)
  (ss_cons (s_if (b_cmp O (o := .eq) (x_var (i := 4) rfl (by first | exact .inl rfl | exact .inr (.inl rfl) | exact .inr (.inr rfl))) x_int (nomark _)) (ss_cons (s_ret (x_bin O (o := .add) (x_bin O (o := .add) (x_slc O (x_var (i := 1) rfl (by first | exact .inl rfl | exact .inr (.inl rfl) | exact .inr (.inr rfl))) o_none (o_some (x_var (i := 3) rfl (by first | exact .inl rfl | exact .inr (.inl rfl) | exact .inr (.inr rfl))))) (x_slc O (x_var (i := 1) rfl (by first | exact .inl rfl | exact .inr (.inl rfl) | exact .inr (.inr rfl))) (o_some (x_var (i := 3) rfl (by first | exact .inl rfl | exact .inr (.inl rfl) | exact .inr (.inr rfl)))) (o_some (x_bin O (o := .add) (x_var (i := 3) rfl (by first | exact .inl rfl | exact .inr (.inl rfl) | exact .inr (.inr rfl))) x_int)))) (x_slc O (x_var (i := 1) rfl (by first | exact .inl rfl | exact .inr (.inl rfl) | exact .inr (.inr rfl))) (o_some (x_var (i := 3) rfl (by first | exact .inl rfl | exact .inr (.inl rfl) | exact .inr (.inr rfl)))) o_none)))
  ss_nil) ss_nil)
  (ss_cons (s_if (b_cmp O (o := .eq) (x_var (i := 4) rfl (by first | exact .inl rfl | exact .inr (.inl rfl) | exact .inr (.inr rfl))) x_int (nomark _)) (ss_cons (s_ret (x_bin O (o := .add) (x_slc O (x_var (i := 1) rfl (by first | exact .inl rfl | exact .inr (.inl rfl) | exact .inr (.inr rfl))) (o_some (x_var (i := 3) rfl (by first | exact .inl rfl | exact .inr (.inl rfl) | exact .inr (.inr rfl)))) o_none) (x_slc O (x_var (i := 1) rfl (by first | exact .inl rfl | exact .inr (.inl rfl) | exact .inr (.inr rfl))) o_none (o_some (x_var (i := 3) rfl (by first | exact .inl rfl | exact .inr (.inl rfl) | exact .inr (.inr rfl)))))))
  ss_nil) ss_nil)
  (ss_cons (s_if (b_cmp O (o := .eq) (x_var (i := 4) rfl (by first | exact .inl rfl | exact .inr (.inl rfl) | exact .inr (.inr rfl))) x_int (nomark _)) (ss_cons (s_ret (x_bin O (o := .add) (x_var (i := 1) rfl (by first | exact .inl rfl | exact .inr (.inl rfl) | exact .inr (.inr rfl))) (x_tup (x_cons (x_tup x_nil) x_nil))))
  ss_nil) ss_nil)
  (ss_cons (s_if (b_cmp O (o := .eq) (x_var (i := 4) rfl (by first | exact .inl rfl | exact .inr (.inl rfl) | exact .inr (.inr rfl))) x_int (nomark _)) (ss_cons (s_ret (x_bin O (o := .add) (x_bin O (o := .add) (x_slc O (x_var (i := 1) rfl (by first | exact .inl rfl | exact .inr (.inl rfl) | exact .inr (.inr rfl))) o_none (o_some (x_var (i := 3) rfl (by first | exact .inl rfl | exact .inr (.inl rfl) | exact .inr (.inr rfl))))) (x_tup (x_cons x_int x_nil))) (x_slc O (x_var (i := 1) rfl (by first | exact .inl rfl | exact .inr (.inl rfl) | exact .inr (.inr rfl))) (o_some (x_var (i := 3) rfl (by first | exact .inl rfl | exact .inr (.inl rfl) | exact .inr (.inr rfl)))) o_none)))
  ss_nil) ss_nil)
  (ss_cons (s_if (b_cmp O (o := .eq) (x_var (i := 4) rfl (by first | exact .inl rfl | exact .inr (.inl rfl) | exact .inr (.inr rfl))) x_int (nomark _)) (ss_cons (s_ret (x_bin O (o := .add) (x_slc O (x_var (i := 1) rfl (by first | exact .inl rfl | exact .inr (.inl rfl) | exact .inr (.inr rfl))) o_none (o_some (x_neg x_int))) (x_slc O (x_var (i := 1) rfl (by first | exact .inl rfl | exact .inr (.inl rfl) | exact .inr (.inr rfl))) o_none (o_some x_int))))
  ss_nil) ss_nil)
  (ss_cons (s_ret x_non)
  ss_nil))))))))))) ss_nil)
  (ss_cons (s_if (b_val O (x_isi O (y := .str) trivial (by rfl) F.n_isinstance (x_var (i := 1) rfl (by first | exact .inl rfl | exact .inr (.inl rfl) | exact .inr (.inr rfl))) (c_ty (by rfl) F.n_str (by rfl)))) (ss_cons (s_ret (x_call (by exact FnE.mk (F.e__law_pick hr)) tk (by rfl) F.g__law_pick F.k__law_pick (x_cons (x_var (i := 0) rfl (by first | exact .inl rfl | exact .inr (.inl rfl) | exact .inr (.inr rfl))) (x_cons (x_lst (m := false) (x_cons (x_bin O (o := .add) (x_var (i := 1) rfl (by first | exact .inl rfl | exact .inr (.inl rfl) | exact .inr (.inr rfl))) x_str) (x_cons x_str (x_cons (x_slc O (x_var (i := 1) rfl (by first | exact .inl rfl | exact .inr (.inl rfl) | exact .inr (.inr rfl))) (o_some x_int) o_none) (x_cons (x_bin O (o := .add) x_str (x_var (i := 1) rfl (by first | exact .inl rfl | exact .inr (.inl rfl) | exact .inr (.inr rfl)))) (x_cons x_int x_nil)))))) x_nil))))
  ss_nil) ss_nil)
  (ss_cons (s_if (b_val O (x_call (by exact FnE.mk (F.e__law_whole hr)) tk (by rfl) F.g__law_whole F.k__law_whole (x_cons (x_var (i := 1) rfl (by first | exact .inl rfl | exact .inr (.inl rfl) | exact .inr (.inr rfl))) x_nil))) (ss_cons (s_ret (x_call (by exact FnE.mk (F.e__law_pick hr)) tk (by rfl) F.g__law_pick F.k__law_pick (x_cons (x_var (i := 0) rfl (by first | exact .inl rfl | exact .inr (.inl rfl) | exact .inr (.inr rfl))) (x_cons (x_lst (m := false) (x_cons (x_bin O (o := .add) (x_var (i := 1) rfl (by first | exact .inl rfl | exact .inr (.inl rfl) | exact .inr (.inr rfl))) x_int) (x_cons (x_bin O (o := .sub) (x_var (i := 1) rfl (by first | exact .inl rfl | exact .inr (.inl rfl) | exact .inr (.inr rfl))) x_int) (x_cons (x_cmp O (o := .gt) (x_var (i := 1) rfl (by first | exact .inl rfl | exact .inr (.inl rfl) | exact .inr (.inr rfl))) x_int (nomark _)) (x_cons (x_bin O (o := .sub) (x_neg x_int) (x_var (i := 1) rfl (by first | exact .inl rfl | exact .inr (.inl rfl) | exact .inr (.inr rfl)))) (x_cons (x_tup (x_cons (x_var (i := 1) rfl (by first | exact .inl rfl | exact .inr (.inl rfl) | exact .inr (.inr rfl))) x_nil)) (x_cons x_non (x_cons (x_bfT bf_str (by rfl) F.n_str (by rfl) (x_cons (x_var (i := 1) rfl (by first | exact .inl rfl | exact .inr (.inl rfl) | exact .inr (.inr rfl))) x_nil)) (x_cons (x_bin O (o := .add) (x_var (i := 1) rfl (by first | exact .inl rfl | exact .inr (.inl rfl) | exact .inr (.inr rfl))) x_int) x_nil))))))))) x_nil))))
  ss_nil) ss_nil)
  (ss_cons (s_ret (x_call (by exact FnE.mk (F.e__law_pick hr)) tk (by rfl) F.g__law_pick F.k__law_pick (x_cons (x_var (i := 0) rfl (by first | exact .inl rfl | exact .inr (.inl rfl) | exact .inr (.inr rfl))) (x_cons (x_lst (m := false) (x_cons x_int (x_cons (x_tup x_nil) (x_cons x_str x_nil)))) x_nil))))
  ss_nil))))
theorem sc__law_shuffled : FnScope ["box", "some", "found", "one"] ["box", "some"] (defScope (top 74)) := ⟨rfl, rfl, rfl, by decide +kernel, rfl, by decide +kernel, by decide +kernel⟩
theorem walk__law_shuffled (F : Fx prog w K mg base k) {f : Addr} {cdv : Value} {A : Around} {outer : List PySem.Env} {s : Shared} {H : Hp} {E : XK} {n0 : Nat} (hr : Room (2 * k + 2) (A.deeper (envOfC "_law_shuffled" (defScope (top 74)) s.heap.objs.size f cdv))) :
    XSs (Dw K) (cxOf (L2.CX prog w) prog w K mg base ["box", "some", "found", "one"] "_law_shuffled" (defScope (top 74)) f cdv A outer s H E) (wB E) ⟨runFn prg k, n0, prg.sub, prg.xi⟩ (defBody (top 74)) ir__law_shuffled := by
  have nd : (["box", "some", "found", "one"] : List Str).Nodup := sc__law_shuffled.nd
  have O : Okx (Dw K) (cxOf (L2.CX prog w) prog w K mg base ["box", "some", "found", "one"] "_law_shuffled" (defScope (top 74)) f cdv A outer s H E) := ⟨rfl, by have := hr.un; show (A.deeper (envOfC "_law_shuffled" (defScope (top 74)) s.heap.objs.size f cdv)).units + 190 < _; omega, F.cls⟩
  have tk : Takes (cxOf (L2.CX prog w) prog w K mg base ["box", "some", "found", "one"] "_law_shuffled" (defScope (top 74)) f cdv A outer s H E) (wB E) := takes_of rfl rfl rfl rfl
  have hp : PassesOwn (model prog w) (A.deeper (envOfC "_law_shuffled" (defScope (top 74)) s.heap.objs.size f cdv)) (envOfC "_law_shuffled" (defScope (top 74)) s.heap.objs.size f cdv) (cxOf (L2.CX prog w) prog w K mg base ["box", "some", "found", "one"] "_law_shuffled" (defScope (top 74)) f cdv A outer s H E).xe := passes_of rfl
  exact (ss_cons (s_asg (x_lst (m := true) x_nil) (g_nm nd rfl (by first | exact .inl rfl | exact .inr rfl) (by first | exact .inl rfl | exact .inr rfl)))
  (ss_cons (s_for hp rfl (i_e O (x_var (i := 1) rfl (by first | exact .inl rfl | exact .inr (.inl rfl) | exact .inr (.inr rfl)))) (g_nm nd rfl (by first | exact .inl rfl | exact .inr rfl) (by first | exact .inl rfl | exact .inr rfl)) (ss_cons (s_ex (x_bm O (f := .insert) (by constructor <;> (intro h; cases h)) PySem.F.slot_list_insert PySem.F.type_list_insert bm_insert (x_var (i := 2) rfl (by first | exact .inl rfl | exact .inr (.inl rfl) | exact .inr (.inr rfl))) (x_cons (x_call (by exact FnE.mk (F.e__law_take hr)) tk (by rfl) F.g__law_take F.k__law_take (x_cons (x_var (i := 0) rfl (by first | exact .inl rfl | exact .inr (.inl rfl) | exact .inr (.inr rfl))) (x_cons (x_bin O (o := .add) (x_bf (bf_len O) (by rfl) F.n_len (by rfl) (x_cons (x_var (i := 2) rfl (by first | exact .inl rfl | exact .inr (.inl rfl) | exact .inr (.inr rfl))) x_nil)) x_int) x_nil))) (x_cons (x_var (i := 3) rfl (by first | exact .inl rfl | exact .inr (.inl rfl) | exact .inr (.inr rfl))) x_nil))))
  ss_nil))
  (ss_cons (s_retF (x_var (i := 2) rfl (by first | exact .inl rfl | exact .inr (.inl rfl) | exact .inr (.inr rfl))))
  ss_nil)))
theorem sc__law_back_kind : FnScope ["steps", "kinds", "kind", "found", "turn", "pair"] ["steps", "kinds"] (defScope (top 75)) := ⟨rfl, rfl, rfl, by decide +kernel, rfl, by decide +kernel, by decide +kernel⟩
theorem walk__law_back_kind (F : Fx prog w K mg base k) {f : Addr} {cdv : Value} {A : Around} {outer : List PySem.Env} {s : Shared} {H : Hp} {E : XK} {n0 : Nat} (hr : Room (2 * k + 2) (A.deeper (envOfC "_law_back_kind" (defScope (top 75)) s.heap.objs.size f cdv))) :
    XSs (Dw K) (cxOf (L2.CX prog w) prog w K mg base ["steps", "kinds", "kind", "found", "turn", "pair"] "_law_back_kind" (defScope (top 75)) f cdv A outer s H E) (wB E) ⟨runFn prg k, n0, prg.sub, prg.xi⟩ (defBody (top 75)) ir__law_back_kind := by
  have nd : (["steps", "kinds", "kind", "found", "turn", "pair"] : List Str).Nodup := sc__law_back_kind.nd
  have O : Okx (Dw K) (cxOf (L2.CX prog w) prog w K mg base ["steps", "kinds", "kind", "found", "turn", "pair"] "_law_back_kind" (defScope (top 75)) f cdv A outer s H E) := ⟨rfl, by have := hr.un; show (A.deeper (envOfC "_law_back_kind" (defScope (top 75)) s.heap.objs.size f cdv)).units + 190 < _; omega, F.cls⟩
  have tk : Takes (cxOf (L2.CX prog w) prog w K mg base ["steps", "kinds", "kind", "found", "turn", "pair"] "_law_back_kind" (defScope (top 75)) f cdv A outer s H E) (wB E) := takes_of rfl rfl rfl rfl
  have hp : PassesOwn (model prog w) (A.deeper (envOfC "_law_back_kind" (defScope (top 75)) s.heap.objs.size f cdv)) (envOfC "_law_back_kind" (defScope (top 75)) s.heap.objs.size f cdv) (cxOf (L2.CX prog w) prog w K mg base ["steps", "kinds", "kind", "found", "turn", "pair"] "_law_back_kind" (defScope (top 75)) f cdv A outer s H E).xe := passes_of rfl
  exact (ss_cons (s_for hp rfl (i_rng (by rfl) F.n_range (x_var (i := 1) rfl (by first | exact .inl rfl | exact .inr (.inl rfl) | exact .inr (.inr rfl)))) (g_nm nd rfl (by first | exact .inl rfl | exact .inr rfl) (by first | exact .inl rfl | exact .inr rfl)) (ss_cons (s_asg (x_lst (m := false) x_nil) (g_nm nd rfl (by first | exact .inl rfl | exact .inr rfl) (by first | exact .inl rfl | exact .inr rfl)))
  (ss_cons (s_for hp rfl (i_rng (by rfl) F.n_range (x_bin O (o := .add) (x_var (i := 1) rfl (by first | exact .inl rfl | exact .inr (.inl rfl) | exact .inr (.inr rfl))) x_int)) (g_nm nd rfl (by first | exact .inl rfl | exact .inr rfl) (by first | exact .inl rfl | exact .inr rfl)) (ss_cons (s_asg (x_bin O (o := .add) (x_var (i := 3) rfl (by first | exact .inl rfl | exact .inr (.inl rfl) | exact .inr (.inr rfl))) (x_comp (own := [("pair", 5)]) rfl nd  (i_e O (x_var (i := 0) rfl (by first | exact .inl rfl | exact .inr (.inl rfl) | exact .inr (.inr rfl)))) (blkOk_by (N := ["steps", "kinds", "kind", "found", "turn", "pair"]) (sc := defScope (top 75)) (by decide +kernel)) (by decide) (fun _ _ _ _ _ => (g_nm nd rfl (by first | exact .inl rfl | exact .inr rfl) (by first | exact .inl rfl | exact .inr rfl))) (fun _ _ _ _ _ => (.one (PW.pt (w_and (PW.pt (w_or (b_cmp (by exact O.of rfl rfl) (o := .eq) (x_idx (by exact O.of rfl rfl) (x_var (i := 5) rfl (by first | exact .inl rfl | exact .inr (.inl rfl) | exact .inr (.inr rfl))) x_int) (x_var (i := 2) rfl (by first | exact .inl rfl | exact .inr (.inl rfl) | exact .inr (.inr rfl))) (nomark _)) (w_or1 (b_cmp (by exact O.of rfl rfl) (o := .isin) (x_idx (by exact O.of rfl rfl) (x_var (i := 5) rfl (by first | exact .inl rfl | exact .inr (.inl rfl) | exact .inr (.inr rfl))) x_int) (x_var (i := 3) rfl (by first | exact .inl rfl | exact .inr (.inl rfl) | exact .inr (.inr rfl))) (by with_unfolding_all rfl))))) (w_and1 (b_cmp (by exact O.of rfl rfl) (o := .notin) (x_idx (by exact O.of rfl rfl) (x_var (i := 5) rfl (by first | exact .inl rfl | exact .inr (.inl rfl) | exact .inr (.inr rfl))) x_int) (x_var (i := 3) rfl (by first | exact .inl rfl | exact .inr (.inl rfl) | exact .inr (.inr rfl))) (by with_unfolding_all rfl))))))) (fun _ _ _ _ _ => (x_idx (by exact O.of rfl rfl) (x_var (i := 5) rfl (by first | exact .inl rfl | exact .inr (.inl rfl) | exact .inr (.inr rfl))) x_int)))) (g_nm nd rfl (by first | exact .inl rfl | exact .inr rfl) (by first | exact .inl rfl | exact .inr rfl)))
  ss_nil))
  (ss_cons (s_if (b_cmp O (o := .isin) (x_var (i := 2) rfl (by first | exact .inl rfl | exact .inr (.inl rfl) | exact .inr (.inr rfl))) (x_var (i := 3) rfl (by first | exact .inl rfl | exact .inr (.inl rfl) | exact .inr (.inr rfl))) (by with_unfolding_all rfl)) (ss_cons (s_ret (x_var (i := 2) rfl (by first | exact .inl rfl | exact .inr (.inl rfl) | exact .inr (.inr rfl))))
  ss_nil) ss_nil)
  ss_nil))))
  (ss_cons (s_ret x_non)
  ss_nil))
theorem sc__law_unary : FnScope ["rules", "rule"] ["rules"] (defScope (top 76)) := ⟨rfl, rfl, rfl, by decide +kernel, rfl, by decide +kernel, by decide +kernel⟩
theorem walk__law_unary (F : Fx prog w K mg base k) {f : Addr} {cdv : Value} {A : Around} {outer : List PySem.Env} {s : Shared} {H : Hp} {E : XK} {n0 : Nat} (hr : Room (2 * k + 2) (A.deeper (envOfC "_law_unary" (defScope (top 76)) s.heap.objs.size f cdv))) :
    XSs (Dw K) (cxOf (L2.CX prog w) prog w K mg base ["rules", "rule"] "_law_unary" (defScope (top 76)) f cdv A outer s H E) (wB E) ⟨runFn prg k, n0, prg.sub, prg.xi⟩ (defBody (top 76)) ir__law_unary := by
  have nd : (["rules", "rule"] : List Str).Nodup := sc__law_unary.nd
  have O : Okx (Dw K) (cxOf (L2.CX prog w) prog w K mg base ["rules", "rule"] "_law_unary" (defScope (top 76)) f cdv A outer s H E) := ⟨rfl, by have := hr.un; show (A.deeper (envOfC "_law_unary" (defScope (top 76)) s.heap.objs.size f cdv)).units + 190 < _; omega, F.cls⟩
  have tk : Takes (cxOf (L2.CX prog w) prog w K mg base ["rules", "rule"] "_law_unary" (defScope (top 76)) f cdv A outer s H E) (wB E) := takes_of rfl rfl rfl rfl
  have hp : PassesOwn (model prog w) (A.deeper (envOfC "_law_unary" (defScope (top 76)) s.heap.objs.size f cdv)) (envOfC "_law_unary" (defScope (top 76)) s.heap.objs.size f cdv) (cxOf (L2.CX prog w) prog w K mg base ["rules", "rule"] "_law_unary" (defScope (top 76)) f cdv A outer s H E).xe := passes_of rfl
  exact (ss_cons (s_ret (x_comp (own := [("rule", 1)]) rfl nd  (i_e O (x_var (i := 0) rfl (by first | exact .inl rfl | exact .inr (.inl rfl) | exact .inr (.inr rfl)))) (blkOk_by (N := ["rules", "rule"]) (sc := defScope (top 76)) (by decide +kernel)) (by decide) (fun _ _ _ _ _ => (g_nm nd rfl (by first | exact .inl rfl | exact .inr rfl) (by first | exact .inl rfl | exact .inr rfl))) (fun _ _ _ _ _ => (.one (b_cmp (by exact O.of rfl rfl) (o := .isin) (x_idx (by exact O.of rfl rfl) (x_var (i := 1) rfl (by first | exact .inl rfl | exact .inr (.inl rfl) | exact .inr (.inr rfl))) x_int) (x_lst (m := false) (x_cons x_str (x_cons x_str (x_cons x_str x_nil)))) (by with_unfolding_all rfl)))) (fun _ _ _ _ _ => (x_tup (x_cons (x_idx (by exact O.of rfl rfl) (x_var (i := 1) rfl (by first | exact .inl rfl | exact .inr (.inl rfl) | exact .inr (.inr rfl))) x_int) (x_cons (x_idx (by exact O.of rfl rfl) (x_var (i := 1) rfl (by first | exact .inl rfl | exact .inr (.inl rfl) | exact .inr (.inr rfl))) x_int) x_nil))))))
  ss_nil)
theorem sc__law_grammar : FnScope ["script", "most", "box", "kinds", "words", "rules", "k", "kind", "word", "rule"] ["script", "most"] (defScope (top 77)) := ⟨rfl, rfl, rfl, by decide +kernel, rfl, by decide +kernel, by decide +kernel⟩
theorem walk__law_grammar (F : Fx prog w K mg base k) {f : Addr} {cdv : Value} {A : Around} {outer : List PySem.Env} {s : Shared} {H : Hp} {E : XK} {n0 : Nat} (hr : Room (2 * k + 2) (A.deeper (envOfC "_law_grammar" (defScope (top 77)) s.heap.objs.size f cdv))) :
    XSs (Dw K) (cxOf (L2.CX prog w) prog w K mg base ["script", "most", "box", "kinds", "words", "rules", "k", "kind", "word", "rule"] "_law_grammar" (defScope (top 77)) f cdv A outer s H E) (wB E) ⟨runFn prg k, n0, prg.sub, prg.xi⟩ (defBody (top 77)) ir__law_grammar := by
  have nd : (["script", "most", "box", "kinds", "words", "rules", "k", "kind", "word", "rule"] : List Str).Nodup := sc__law_grammar.nd
  have O : Okx (Dw K) (cxOf (L2.CX prog w) prog w K mg base ["script", "most", "box", "kinds", "words", "rules", "k", "kind", "word", "rule"] "_law_grammar" (defScope (top 77)) f cdv A outer s H E) := ⟨rfl, by have := hr.un; show (A.deeper (envOfC "_law_grammar" (defScope (top 77)) s.heap.objs.size f cdv)).units + 190 < _; omega, F.cls⟩
  have tk : Takes (cxOf (L2.CX prog w) prog w K mg base ["script", "most", "box", "kinds", "words", "rules", "k", "kind", "word", "rule"] "_law_grammar" (defScope (top 77)) f cdv A outer s H E) (wB E) := takes_of rfl rfl rfl rfl
  have hp : PassesOwn (model prog w) (A.deeper (envOfC "_law_grammar" (defScope (top 77)) s.heap.objs.size f cdv)) (envOfC "_law_grammar" (defScope (top 77)) s.heap.objs.size f cdv) (cxOf (L2.CX prog w) prog w K mg base ["script", "most", "box", "kinds", "words", "rules", "k", "kind", "word", "rule"] "_law_grammar" (defScope (top 77)) f cdv A outer s H E).xe := passes_of rfl
  exact (ss_cons (s_asg (x_call (by exact FnE.mk (F.e__law_box hr)) tk (by rfl) F.g__law_box F.k__law_box (x_cons (x_var (i := 0) rfl (by first | exact .inl rfl | exact .inr (.inl rfl) | exact .inr (.inr rfl))) (x_cons x_int x_nil))) (g_nm nd rfl (by first | exact .inl rfl | exact .inr rfl) (by first | exact .inl rfl | exact .inr rfl)))
  (ss_cons (s_asg (x_call (by exact FnE.mk (F.e__law_pick hr)) tk (by rfl) F.g__law_pick F.k__law_pick (x_cons (x_var (i := 2) rfl (by first | exact .inl rfl | exact .inr (.inl rfl) | exact .inr (.inr rfl))) (x_cons (x_lst (m := false) (x_cons x_int (x_cons x_int (x_cons x_int (x_cons x_int (x_cons x_int (x_cons x_int (x_cons x_int (x_cons x_int x_nil))))))))) x_nil))) (g_nm nd rfl (by first | exact .inl rfl | exact .inr rfl) (by first | exact .inl rfl | exact .inr rfl)))
  (ss_cons (s_asg (x_call (by exact FnE.mk (F.e__law_pick hr)) tk (by rfl) F.g__law_pick F.k__law_pick (x_cons (x_var (i := 2) rfl (by first | exact .inl rfl | exact .inr (.inl rfl) | exact .inr (.inr rfl))) (x_cons (x_lst (m := false) (x_cons (x_lst (m := false) (x_cons x_str x_nil)) (x_cons (x_lst (m := false) (x_cons x_str (x_cons x_str x_nil))) (x_cons (x_lst (m := false) (x_cons x_str (x_cons x_str (x_cons x_str x_nil)))) (x_cons (x_lst (m := false) (x_cons x_str (x_cons x_str x_nil))) x_nil))))) x_nil))) (g_nm nd rfl (by first | exact .inl rfl | exact .inr rfl) (by first | exact .inl rfl | exact .inr rfl)))
  (ss_cons (s_asg (x_lst (m := true) x_nil) (g_nm nd rfl (by first | exact .inl rfl | exact .inr rfl) (by first | exact .inl rfl | exact .inr rfl)))
  (ss_cons (s_for hp rfl (i_rng (by rfl) F.n_range (x_bin O (o := .add) x_int (x_call (by exact FnE.mk (F.e__law_take hr)) tk (by rfl) F.g__law_take F.k__law_take (x_cons (x_var (i := 2) rfl (by first | exact .inl rfl | exact .inr (.inl rfl) | exact .inr (.inr rfl))) (x_cons (x_bin O (o := .sub) (x_var (i := 1) rfl (by first | exact .inl rfl | exact .inr (.inl rfl) | exact .inr (.inr rfl))) x_int) x_nil))))) (g_nm nd rfl (by first | exact .inl rfl | exact .inr rfl) (by first | exact .inl rfl | exact .inr rfl)) (ss_cons (s_asg (x_call (by exact FnE.mk (F.e__law_take hr)) tk (by rfl) F.g__law_take F.k__law_take (x_cons (x_var (i := 2) rfl (by first | exact .inl rfl | exact .inr (.inl rfl) | exact .inr (.inr rfl))) (x_cons (x_var (i := 3) rfl (by first | exact .inl rfl | exact .inr (.inl rfl) | exact .inr (.inr rfl))) x_nil))) (g_nm nd rfl (by first | exact .inl rfl | exact .inr rfl) (by first | exact .inl rfl | exact .inr rfl)))
  (ss_cons (s_asg (x_call (by exact FnE.mk (F.e__law_pick hr)) tk (by rfl) F.g__law_pick F.k__law_pick (x_cons (x_var (i := 2) rfl (by first | exact .inl rfl | exact .inr (.inl rfl) | exact .inr (.inr rfl))) (x_cons (x_lst (m := false) (x_cons x_str (x_cons x_str (x_cons x_str (x_cons x_str (x_cons x_str (x_cons x_str (x_cons x_str (x_cons x_str (x_cons x_str (x_cons x_str (x_cons x_str x_nil)))))))))))) x_nil))) (g_nm nd rfl (by first | exact .inl rfl | exact .inr rfl) (by first | exact .inl rfl | exact .inr rfl)))
  (ss_cons (s_asg (x_tup (x_cons (x_var (i := 7) rfl (by first | exact .inl rfl | exact .inr (.inl rfl) | exact .inr (.inr rfl))) (x_cons (x_var (i := 8) rfl (by first | exact .inl rfl | exact .inr (.inl rfl) | exact .inr (.inr rfl))) (x_cons (x_call (by exact FnE.mk (F.e__law_take hr)) tk (by rfl) F.g__law_take F.k__law_take (x_cons (x_var (i := 2) rfl (by first | exact .inl rfl | exact .inr (.inl rfl) | exact .inr (.inr rfl))) (x_cons (x_var (i := 3) rfl (by first | exact .inl rfl | exact .inr (.inl rfl) | exact .inr (.inr rfl))) x_nil))) x_nil)))) (g_nm nd rfl (by first | exact .inl rfl | exact .inr rfl) (by first | exact .inl rfl | exact .inr rfl)))
  (ss_cons (s_if (b_cmp O (o := .isin) (x_var (i := 8) rfl (by first | exact .inl rfl | exact .inr (.inl rfl) | exact .inr (.inr rfl))) (x_lst (m := false) (x_cons x_str (x_cons x_str x_nil))) (by with_unfolding_all rfl)) (ss_cons (s_asg (x_tup (x_cons (x_var (i := 7) rfl (by first | exact .inl rfl | exact .inr (.inl rfl) | exact .inr (.inr rfl))) (x_cons (x_var (i := 8) rfl (by first | exact .inl rfl | exact .inr (.inl rfl) | exact .inr (.inr rfl))) (x_cons (x_call (by exact FnE.mk (F.e__law_pick hr)) tk (by rfl) F.g__law_pick F.k__law_pick (x_cons (x_var (i := 2) rfl (by first | exact .inl rfl | exact .inr (.inl rfl) | exact .inr (.inr rfl))) (x_cons (x_var (i := 4) rfl (by first | exact .inl rfl | exact .inr (.inl rfl) | exact .inr (.inr rfl))) x_nil))) x_nil)))) (g_nm nd rfl (by first | exact .inl rfl | exact .inr rfl) (by first | exact .inl rfl | exact .inr rfl)))
  ss_nil) (ss_cons (s_if (b_cmp O (o := .isin) (x_var (i := 8) rfl (by first | exact .inl rfl | exact .inr (.inl rfl) | exact .inr (.inr rfl))) (x_lst (m := false) (x_cons x_str (x_cons x_str (x_cons x_str x_nil)))) (by with_unfolding_all rfl)) (ss_cons (s_asg (x_bin O (o := .add) (x_var (i := 9) rfl (by first | exact .inl rfl | exact .inr (.inl rfl) | exact .inr (.inr rfl))) (x_tup (x_cons (x_call (by exact FnE.mk (F.e__law_take hr)) tk (by rfl) F.g__law_take F.k__law_take (x_cons (x_var (i := 2) rfl (by first | exact .inl rfl | exact .inr (.inl rfl) | exact .inr (.inr rfl))) (x_cons (x_var (i := 3) rfl (by first | exact .inl rfl | exact .inr (.inl rfl) | exact .inr (.inr rfl))) x_nil))) x_nil))) (g_nm nd rfl (by first | exact .inl rfl | exact .inr rfl) (by first | exact .inl rfl | exact .inr rfl)))
  ss_nil) ss_nil)
  ss_nil))
  (ss_cons (s_if (b_cmp O (o := .is) (x_call (by exact FnE.mk (F.e__law_back_kind hr)) tk (by rfl) F.g__law_back_kind F.k__law_back_kind (x_cons (x_call (by exact FnE.mk (F.e__law_unary hr)) tk (by rfl) F.g__law_unary F.k__law_unary (x_cons (x_bin O (o := .add) (x_var (i := 5) rfl (by first | exact .inl rfl | exact .inr (.inl rfl) | exact .inr (.inr rfl))) (x_lst (m := false) (x_cons (x_var (i := 9) rfl (by first | exact .inl rfl | exact .inr (.inl rfl) | exact .inr (.inr rfl))) x_nil))) x_nil)) (x_cons (x_var (i := 3) rfl (by first | exact .inl rfl | exact .inr (.inl rfl) | exact .inr (.inr rfl))) x_nil))) x_non (nomark _)) (ss_cons (s_ex (x_bm O (f := .append) (by constructor <;> (intro h; cases h)) PySem.F.slot_list_append PySem.F.type_list_append bm_append (x_var (i := 5) rfl (by first | exact .inl rfl | exact .inr (.inl rfl) | exact .inr (.inr rfl))) (x_cons (x_var (i := 9) rfl (by first | exact .inl rfl | exact .inr (.inl rfl) | exact .inr (.inr rfl))) x_nil)))
  ss_nil) ss_nil)
  ss_nil))))))
  (ss_cons (s_if (b_cmp O (o := .gt) (x_call (by exact FnE.mk (F.e__law_take hr)) tk (by rfl) F.g__law_take F.k__law_take (x_cons (x_var (i := 2) rfl (by first | exact .inl rfl | exact .inr (.inl rfl) | exact .inr (.inr rfl))) (x_cons x_int x_nil))) x_int (nomark _)) (ss_cons (s_for hp rfl (i_rng (by rfl) F.n_range (x_var (i := 3) rfl (by first | exact .inl rfl | exact .inr (.inl rfl) | exact .inr (.inr rfl)))) (g_nm nd rfl (by first | exact .inl rfl | exact .inr rfl) (by first | exact .inl rfl | exact .inr rfl)) (ss_cons (s_if (PW.pt (w_and (b_cmp O (o := .lt) (x_bf (bf_len O) (by rfl) F.n_len (by rfl) (x_cons (x_var (i := 5) rfl (by first | exact .inl rfl | exact .inr (.inl rfl) | exact .inr (.inr rfl))) x_nil)) (x_var (i := 1) rfl (by first | exact .inl rfl | exact .inr (.inl rfl) | exact .inr (.inr rfl))) (nomark _)) (w_and1 (b_cmp O (o := .eq) (x_comp (own := [("rule", 9)]) rfl nd  (i_e O (x_var (i := 5) rfl (by first | exact .inl rfl | exact .inr (.inl rfl) | exact .inr (.inr rfl)))) (blkOk_by (N := ["script", "most", "box", "kinds", "words", "rules", "k", "kind", "word", "rule"]) (sc := defScope (top 77)) (by decide +kernel)) (by decide) (fun _ _ _ _ _ => (g_nm nd rfl (by first | exact .inl rfl | exact .inr rfl) (by first | exact .inl rfl | exact .inr rfl))) (fun _ _ _ _ _ => (.one (PW.pt (w_and (b_cmp (by exact O.of rfl rfl) (o := .eq) (x_idx (by exact O.of rfl rfl) (x_var (i := 9) rfl (by first | exact .inl rfl | exact .inr (.inl rfl) | exact .inr (.inr rfl))) x_int) (x_var (i := 7) rfl (by first | exact .inl rfl | exact .inr (.inl rfl) | exact .inr (.inr rfl))) (nomark _)) (w_and1 (b_cmp (by exact O.of rfl rfl) (o := .isin) (x_idx (by exact O.of rfl rfl) (x_var (i := 9) rfl (by first | exact .inl rfl | exact .inr (.inl rfl) | exact .inr (.inr rfl))) x_int) (x_lst (m := false) (x_cons x_str (x_cons x_str x_nil))) (by with_unfolding_all rfl))))))) (fun _ _ _ _ _ => (x_var (i := 9) rfl (by first | exact .inl rfl | exact .inr (.inl rfl) | exact .inr (.inr rfl))))) (x_lst (m := false) x_nil) (nomark _))))) (ss_cons (s_ex (x_bm O (f := .append) (by constructor <;> (intro h; cases h)) PySem.F.slot_list_append PySem.F.type_list_append bm_append (x_var (i := 5) rfl (by first | exact .inl rfl | exact .inr (.inl rfl) | exact .inr (.inr rfl))) (x_cons (x_tup (x_cons (x_var (i := 7) rfl (by first | exact .inl rfl | exact .inr (.inl rfl) | exact .inr (.inr rfl))) (x_cons (x_call (by exact FnE.mk (F.e__law_pick hr)) tk (by rfl) F.g__law_pick F.k__law_pick (x_cons (x_var (i := 2) rfl (by first | exact .inl rfl | exact .inr (.inl rfl) | exact .inr (.inr rfl))) (x_cons (x_lst (m := false) (x_cons x_str (x_cons x_str x_nil))) x_nil))) (x_cons (x_call (by exact FnE.mk (F.e__law_pick hr)) tk (by rfl) F.g__law_pick F.k__law_pick (x_cons (x_var (i := 2) rfl (by first | exact .inl rfl | exact .inr (.inl rfl) | exact .inr (.inr rfl))) (x_cons (x_var (i := 4) rfl (by first | exact .inl rfl | exact .inr (.inl rfl) | exact .inr (.inr rfl))) x_nil))) x_nil)))) x_nil)))
  ss_nil) ss_nil)
  ss_nil))
  ss_nil) ss_nil)
  (ss_cons (s_if (b_cmp O (o := .eq) (x_var (i := 5) rfl (by first | exact .inl rfl | exact .inr (.inl rfl) | exact .inr (.inr rfl))) (x_lst (m := false) x_nil) (nomark _)) (ss_cons (s_asg (x_lst (m := true) (x_cons (x_tup (x_cons x_int (x_cons x_str (x_cons x_str x_nil)))) x_nil)) (g_nm nd rfl (by first | exact .inl rfl | exact .inr rfl) (by first | exact .inl rfl | exact .inr rfl)))
  ss_nil) ss_nil)
  (ss_cons (s_retF (x_tup (x_cons (x_var (i := 3) rfl (by first | exact .inl rfl | exact .inr (.inl rfl) | exact .inr (.inr rfl))) (x_cons (x_bfT (bf_tuple O) (by rfl) F.n_tuple (by rfl) (x_cons (x_call (by exact FnE.mk (F.e__law_shuffled hr)) tk (by rfl) F.g__law_shuffled F.k__law_shuffled (x_cons (x_var (i := 2) rfl (by first | exact .inl rfl | exact .inr (.inl rfl) | exact .inr (.inr rfl))) (x_cons (x_var (i := 5) rfl (by first | exact .inl rfl | exact .inr (.inl rfl) | exact .inr (.inr rfl))) x_nil))) x_nil)) x_nil))))
  ss_nil))))))))
theorem sc__law_made : FnScope ["grammar"] ["grammar"] (defScope (top 78)) := ⟨rfl, rfl, rfl, by decide +kernel, rfl, by decide +kernel, by decide +kernel⟩
theorem walk__law_made (F : Fx prog w K mg base k) {f : Addr} {cdv : Value} {A : Around} {outer : List PySem.Env} {s : Shared} {H : Hp} {E : XK} {n0 : Nat} (hr : Room (2 * k + 2) (A.deeper (envOfC "_law_made" (defScope (top 78)) s.heap.objs.size f cdv))) :
    XSs (Dw K) (cxOf (L2.CX prog w) prog w K mg base ["grammar"] "_law_made" (defScope (top 78)) f cdv A outer s H E) (wB E) ⟨runFn prg k, n0, prg.sub, prg.xi⟩ (defBody (top 78)) ir__law_made := by
  have nd : (["grammar"] : List Str).Nodup := sc__law_made.nd
  have O : Okx (Dw K) (cxOf (L2.CX prog w) prog w K mg base ["grammar"] "_law_made" (defScope (top 78)) f cdv A outer s H E) := ⟨rfl, by have := hr.un; show (A.deeper (envOfC "_law_made" (defScope (top 78)) s.heap.objs.size f cdv)).units + 190 < _; omega, F.cls⟩
  have tk : Takes (cxOf (L2.CX prog w) prog w K mg base ["grammar"] "_law_made" (defScope (top 78)) f cdv A outer s H E) (wB E) := takes_of rfl rfl rfl rfl
  have hp : PassesOwn (model prog w) (A.deeper (envOfC "_law_made" (defScope (top 78)) s.heap.objs.size f cdv)) (envOfC "_law_made" (defScope (top 78)) s.heap.objs.size f cdv) (cxOf (L2.CX prog w) prog w K mg base ["grammar"] "_law_made" (defScope (top 78)) f cdv A outer s H E).xe := passes_of rfl
  exact (ss_cons (s_ret (x_mk (c := 0) (by show 0 < 1; decide) F.m_Pairs (by exact FnM.mk (F.m_Pairsx_initx hr)) tk (by rfl) F.g_Pairs (x_cons (x_idx O (x_var (i := 0) rfl (by first | exact .inl rfl | exact .inr (.inl rfl) | exact .inr (.inr rfl))) x_int) (x_cons (x_idx O (x_var (i := 0) rfl (by first | exact .inl rfl | exact .inr (.inl rfl) | exact .inr (.inr rfl))) x_int) x_nil))))
  ss_nil)
theorem sc__law_is_word : FnScope ["value", "sign"] ["value"] (defScope (top 81)) := ⟨rfl, rfl, rfl, by decide +kernel, rfl, by decide +kernel, by decide +kernel⟩
theorem walk__law_is_word (F : Fx prog w K mg base k) {f : Addr} {cdv : Value} {A : Around} {outer : List PySem.Env} {s : Shared} {H : Hp} {E : XK} {n0 : Nat} (hr : Room (2 * k + 2) (A.deeper (envOfC "_law_is_word" (defScope (top 81)) s.heap.objs.size f cdv))) :
    XSs (Dw K) (cxOf (L2.CX prog w) prog w K mg base ["value", "sign"] "_law_is_word" (defScope (top 81)) f cdv A outer s H E) (wB E) ⟨runFn prg k, n0, prg.sub, prg.xi⟩ (defBody (top 81)) ir__law_is_word := by
  have nd : (["value", "sign"] : List Str).Nodup := sc__law_is_word.nd
  have O : Okx (Dw K) (cxOf (L2.CX prog w) prog w K mg base ["value", "sign"] "_law_is_word" (defScope (top 81)) f cdv A outer s H E) := ⟨rfl, by have := hr.un; show (A.deeper (envOfC "_law_is_word" (defScope (top 81)) s.heap.objs.size f cdv)).units + 190 < _; omega, F.cls⟩
  have tk : Takes (cxOf (L2.CX prog w) prog w K mg base ["value", "sign"] "_law_is_word" (defScope (top 81)) f cdv A outer s H E) (wB E) := takes_of rfl rfl rfl rfl
  have hp : PassesOwn (model prog w) (A.deeper (envOfC "_law_is_word" (defScope (top 81)) s.heap.objs.size f cdv)) (envOfC "_law_is_word" (defScope (top 81)) s.heap.objs.size f cdv) (cxOf (L2.CX prog w) prog w K mg base ["value", "sign"] "_law_is_word" (defScope (top 81)) f cdv A outer s H E).xe := passes_of rfl
  exact (ss_cons (s_ret (x_and O (x_isi O (y := .str) trivial (by rfl) F.n_isinstance (x_var (i := 0) rfl (by first | exact .inl rfl | exact .inr (.inl rfl) | exact .inr (.inr rfl))) (c_ty (by rfl) F.n_str (by rfl))) (x_and O (x_cmp O (o := .isin) (x_bf (bf_len O) (by rfl) F.n_len (by rfl) (x_cons (x_var (i := 0) rfl (by first | exact .inl rfl | exact .inr (.inl rfl) | exact .inr (.inr rfl))) x_nil)) (x_lst (m := false) (x_cons x_int (x_cons x_int (x_cons x_int x_nil)))) (by with_unfolding_all rfl)) (x_and1 (x_cmp O (o := .eq) (x_comp (own := [("sign", 1)]) rfl nd  (i_e O (x_var (i := 0) rfl (by first | exact .inl rfl | exact .inr (.inl rfl) | exact .inr (.inr rfl)))) (blkOk_by (N := ["value", "sign"]) (sc := defScope (top 81)) (by decide +kernel)) (by decide) (fun _ _ _ _ _ => (g_nm nd rfl (by first | exact .inl rfl | exact .inr rfl) (by first | exact .inl rfl | exact .inr rfl))) (fun _ _ _ _ _ => (.one (PW.pt (w_or (b_cmp (by exact O.of rfl rfl) (o := .lt) (x_var (i := 1) rfl (by first | exact .inl rfl | exact .inr (.inl rfl) | exact .inr (.inr rfl))) x_str (nomark _)) (w_or1 (b_cmp (by exact O.of rfl rfl) (o := .gt) (x_var (i := 1) rfl (by first | exact .inl rfl | exact .inr (.inl rfl) | exact .inr (.inr rfl))) x_str (nomark _))))))) (fun _ _ _ _ _ => (x_var (i := 1) rfl (by first | exact .inl rfl | exact .inr (.inl rfl) | exact .inr (.inr rfl))))) (x_lst (m := false) x_nil) (nomark _))))))
  ss_nil)
theorem sc_law : FnScope ["script", "grammar", "box", "made", "text", "other", "questions", "claims", "k", "value", "due"] ["script"] (defScope (top 87)) := ⟨rfl, rfl, rfl, by decide +kernel, rfl, by decide +kernel, by decide +kernel⟩
theorem walk_law (F : Fx prog w K mg base k) {f : Addr} {cdv : Value} {A : Around} {outer : List PySem.Env} {s : Shared} {H : Hp} {E : XK} {n0 : Nat} (hr : Room (2 * k + 2) (A.deeper (envOfC "law" (defScope (top 87)) s.heap.objs.size f cdv))) :
    XSs (Dw K) (cxOf (L2.CX prog w) prog w K mg base ["script", "grammar", "box", "made", "text", "other", "questions", "claims", "k", "value", "due"] "law" (defScope (top 87)) f cdv A outer s H E) (wB E) ⟨runFn prg k, n0, prg.sub, prg.xi⟩ (defBody (top 87)) ir_law := by
  have nd : (["script", "grammar", "box", "made", "text", "other", "questions", "claims", "k", "value", "due"] : List Str).Nodup := sc_law.nd
  have O : Okx (Dw K) (cxOf (L2.CX prog w) prog w K mg base ["script", "grammar", "box", "made", "text", "other", "questions", "claims", "k", "value", "due"] "law" (defScope (top 87)) f cdv A outer s H E) := ⟨rfl, by have := hr.un; show (A.deeper (envOfC "law" (defScope (top 87)) s.heap.objs.size f cdv)).units + 190 < _; omega, F.cls⟩
  have tk : Takes (cxOf (L2.CX prog w) prog w K mg base ["script", "grammar", "box", "made", "text", "other", "questions", "claims", "k", "value", "due"] "law" (defScope (top 87)) f cdv A outer s H E) (wB E) := takes_of rfl rfl rfl rfl
  have hp : PassesOwn (model prog w) (A.deeper (envOfC "law" (defScope (top 87)) s.heap.objs.size f cdv)) (envOfC "law" (defScope (top 87)) s.heap.objs.size f cdv) (cxOf (L2.CX prog w) prog w K mg base ["script", "grammar", "box", "made", "text", "other", "questions", "claims", "k", "value", "due"] "law" (defScope (top 87)) f cdv A outer s H E).xe := passes_of rfl
  exact (ss_cons (s_asg (x_call (by exact FnE.mk (F.e__law_grammar hr)) tk (by rfl) F.g__law_grammar F.k__law_grammar (x_cons (x_var (i := 0) rfl (by first | exact .inl rfl | exact .inr (.inl rfl) | exact .inr (.inr rfl))) (x_cons x_int x_nil))) (g_nm nd rfl (by first | exact .inl rfl | exact .inr rfl) (by first | exact .inl rfl | exact .inr rfl)))
  (ss_cons (s_asg (x_call (by exact FnE.mk (F.e__law_box hr)) tk (by rfl) F.g__law_box F.k__law_box (x_cons (x_var (i := 0) rfl (by first | exact .inl rfl | exact .inr (.inl rfl) | exact .inr (.inr rfl))) (x_cons x_int x_nil))) (g_nm nd rfl (by first | exact .inl rfl | exact .inr rfl) (by first | exact .inl rfl | exact .inr rfl)))
  (ss_cons (s_asg (x_call (by exact FnE.mk (F.e__law_made hr)) tk (by rfl) F.g__law_made F.k__law_made (x_cons (x_var (i := 1) rfl (by first | exact .inl rfl | exact .inr (.inl rfl) | exact .inr (.inr rfl))) x_nil)) (g_nm nd rfl (by first | exact .inl rfl | exact .inr rfl) (by first | exact .inl rfl | exact .inr rfl)))
  (ss_cons (s_par (j := 4) (k := 5) rfl nd rfl rfl (by decide) rfl rfl (x_cons (x_call (by exact FnE.mk (F.e__law_drawn_text hr)) tk (by rfl) F.g__law_drawn_text F.k__law_drawn_text (x_cons (x_var (i := 2) rfl (by first | exact .inl rfl | exact .inr (.inl rfl) | exact .inr (.inr rfl))) (x_cons (x_var (i := 1) rfl (by first | exact .inl rfl | exact .inr (.inl rfl) | exact .inr (.inr rfl))) (x_cons x_int x_nil)))) (x_cons (x_call (by exact FnE.mk (F.e__law_drawn_text hr)) tk (by rfl) F.g__law_drawn_text F.k__law_drawn_text (x_cons (x_var (i := 2) rfl (by first | exact .inl rfl | exact .inr (.inl rfl) | exact .inr (.inr rfl))) (x_cons (x_var (i := 1) rfl (by first | exact .inl rfl | exact .inr (.inl rfl) | exact .inr (.inr rfl))) (x_cons x_int x_nil)))) x_nil)) (by with_unfolding_all rfl))
  (ss_cons (s_asg (x_lst (m := true) (x_cons (x_tup (x_cons x_str (x_cons (x_var (i := 4) rfl (by first | exact .inl rfl | exact .inr (.inl rfl) | exact .inr (.inr rfl))) x_nil))) (x_cons (x_tup (x_cons x_str (x_cons (x_var (i := 5) rfl (by first | exact .inl rfl | exact .inr (.inl rfl) | exact .inr (.inr rfl))) x_nil))) (x_cons (x_tup (x_cons x_str x_nil)) (x_cons (x_tup (x_cons x_str (x_cons (x_tup x_nil) x_nil))) (x_cons (x_tup (x_cons x_str (x_cons (x_bin O (o := .mul) (x_tup (x_cons x_str x_nil)) x_int) x_nil))) x_nil)))))) (g_nm nd rfl (by first | exact .inl rfl | exact .inr rfl) (by first | exact .inl rfl | exact .inr rfl)))
  (ss_cons (s_asg (x_bin O (o := .add) (x_var (i := 6) rfl (by first | exact .inl rfl | exact .inr (.inl rfl) | exact .inr (.inr rfl))) (x_lst (m := false) (x_cons (x_tup (x_cons x_str (x_cons (x_bin O (o := .mul) (x_tup (x_cons x_str x_nil)) x_int) x_nil))) (x_cons (x_tup (x_cons x_str (x_cons (x_bfT (bf_list O) (by rfl) F.n_list (by rfl) (x_cons (x_var (i := 4) rfl (by first | exact .inl rfl | exact .inr (.inl rfl) | exact .inr (.inr rfl))) x_nil)) x_nil))) (x_cons (x_tup (x_cons x_str (x_cons (x_tup (x_cons x_str x_nil)) x_nil))) (x_cons (x_tup (x_cons x_str (x_cons (x_tup (x_cons x_int x_nil)) x_nil))) (x_cons (x_tup (x_cons x_str x_nil)) (x_cons (x_tup (x_cons x_str (x_cons (x_var (i := 4) rfl (by first | exact .inl rfl | exact .inr (.inl rfl) | exact .inr (.inr rfl))) (x_cons x_int x_nil)))) (x_cons (x_tup (x_cons x_str x_nil)) (x_cons (x_tup (x_cons x_str (x_cons (x_var (i := 4) rfl (by first | exact .inl rfl | exact .inr (.inl rfl) | exact .inr (.inr rfl))) (x_cons x_int x_nil)))) x_nil)))))))))) (g_nm nd rfl (by first | exact .inl rfl | exact .inr rfl) (by first | exact .inl rfl | exact .inr rfl)))
  (ss_cons (s_asg (x_bin O (o := .add) (x_var (i := 6) rfl (by first | exact .inl rfl | exact .inr (.inl rfl) | exact .inr (.inr rfl))) (x_lst (m := false) (x_cons (x_tup (x_cons x_str (x_cons x_int x_nil))) (x_cons (x_tup (x_cons x_str (x_cons (x_var (i := 4) rfl (by first | exact .inl rfl | exact .inr (.inl rfl) | exact .inr (.inr rfl))) x_nil))) (x_cons (x_tup (x_cons x_str x_nil)) (x_cons x_non (x_cons (x_tup x_nil) (x_cons (x_lst (m := false) (x_cons x_str x_nil)) (x_cons (x_tup (x_cons (x_lst (m := false) x_nil) x_nil)) (x_cons x_str (x_cons (x_tup (x_cons x_int x_nil)) (x_cons (x_tup (x_cons x_str (x_cons x_str x_nil))) (x_cons (x_tup (x_cons x_str (x_cons (x_tup (x_cons x_str x_nil)) x_nil))) (x_cons (x_tup (x_cons x_str (x_cons (x_tup (x_cons x_str x_nil)) x_nil))) (x_cons (x_tup (x_cons (x_lst (m := false) (x_cons x_str x_nil)) (x_cons (x_var (i := 4) rfl (by first | exact .inl rfl | exact .inr (.inl rfl) | exact .inr (.inr rfl))) x_nil))) x_nil))))))))))))))) (g_nm nd rfl (by first | exact .inl rfl | exact .inr rfl) (by first | exact .inl rfl | exact .inr rfl)))
  (ss_cons (s_asg (x_lst (m := true) (x_cons (x_tup (x_cons x_str (x_cons (x_var (i := 4) rfl (by first | exact .inl rfl | exact .inr (.inl rfl) | exact .inr (.inr rfl))) x_nil))) (x_cons (x_tup (x_cons x_str (x_cons (x_var (i := 5) rfl (by first | exact .inl rfl | exact .inr (.inl rfl) | exact .inr (.inr rfl))) x_nil))) (x_cons (x_tup (x_cons x_str (x_cons (x_var (i := 4) rfl (by first | exact .inl rfl | exact .inr (.inl rfl) | exact .inr (.inr rfl))) (x_cons (x_call (by exact FnE.mk (F.e__law_take hr)) tk (by rfl) F.g__law_take F.k__law_take (x_cons (x_var (i := 2) rfl (by first | exact .inl rfl | exact .inr (.inl rfl) | exact .inr (.inr rfl))) (x_cons x_int x_nil))) x_nil)))) (x_cons (x_tup (x_cons x_str (x_cons (x_call (by exact FnE.mk (F.e__law_take hr)) tk (by rfl) F.g__law_take F.k__law_take (x_cons (x_var (i := 2) rfl (by first | exact .inl rfl | exact .inr (.inl rfl) | exact .inr (.inr rfl))) (x_cons x_int x_nil))) x_nil))) (x_cons (x_tup (x_cons x_str x_nil)) (x_cons (x_tup (x_cons x_str x_nil)) (x_cons (x_tup (x_cons x_str (x_cons (x_var (i := 5) rfl (by first | exact .inl rfl | exact .inr (.inl rfl) | exact .inr (.inr rfl))) (x_cons (x_bin O (o := .pow) x_int x_int) x_nil)))) (x_cons (x_tup (x_cons x_str (x_cons (x_bin O (o := .pow) x_int x_int) x_nil))) x_nil))))))))) (g_nm nd rfl (by first | exact .inl rfl | exact .inr rfl) (by first | exact .inl rfl | exact .inr rfl)))
  (ss_cons (s_asg (x_bin O (o := .add) (x_var (i := 7) rfl (by first | exact .inl rfl | exact .inr (.inl rfl) | exact .inr (.inr rfl))) (x_lst (m := false) (x_cons (x_tup (x_cons x_str (x_cons (x_var (i := 4) rfl (by first | exact .inl rfl | exact .inr (.inl rfl) | exact .inr (.inr rfl))) (x_cons (x_neg x_int) x_nil)))) (x_cons (x_tup (x_cons x_str (x_cons (x_var (i := 4) rfl (by first | exact .inl rfl | exact .inr (.inl rfl) | exact .inr (.inr rfl))) (x_cons x_bl x_nil)))) (x_cons (x_tup (x_cons x_str (x_cons (x_var (i := 4) rfl (by first | exact .inl rfl | exact .inr (.inl rfl) | exact .inr (.inr rfl))) x_nil))) (x_cons (x_tup (x_cons x_str x_nil)) (x_cons (x_tup (x_cons x_str (x_cons (x_neg x_int) x_nil))) (x_cons (x_tup (x_cons x_str (x_cons x_bl x_nil))) (x_cons (x_tup (x_cons x_str (x_cons x_int x_nil))) (x_cons (x_tup (x_cons x_str (x_cons x_int x_nil))) (x_cons (x_tup (x_cons x_str x_nil)) x_nil))))))))))) (g_nm nd rfl (by first | exact .inl rfl | exact .inr rfl) (by first | exact .inl rfl | exact .inr rfl)))
  (ss_cons (s_asg (x_bin O (o := .add) (x_var (i := 7) rfl (by first | exact .inl rfl | exact .inr (.inl rfl) | exact .inr (.inr rfl))) (x_lst (m := false) (x_cons (x_tup (x_cons x_str (x_cons (x_bin O (o := .mul) (x_tup (x_cons x_str x_nil)) x_int) x_nil))) (x_cons (x_tup (x_cons x_str (x_cons (x_lst (m := false) (x_cons x_str x_nil)) x_nil))) (x_cons (x_tup (x_cons x_str (x_cons (x_var (i := 4) rfl (by first | exact .inl rfl | exact .inr (.inl rfl) | exact .inr (.inr rfl))) x_nil))) (x_cons x_non (x_cons (x_tup x_nil) (x_cons (x_lst (m := false) (x_cons x_str x_nil)) (x_cons (x_tup (x_cons (x_lst (m := false) x_nil) x_nil)) (x_cons x_str (x_cons (x_tup (x_cons (x_lst (m := false) (x_cons x_str x_nil)) x_nil)) (x_cons (x_tup (x_cons x_str (x_cons (x_var (i := 4) rfl (by first | exact .inl rfl | exact .inr (.inl rfl) | exact .inr (.inr rfl))) (x_cons (x_var (i := 4) rfl (by first | exact .inl rfl | exact .inr (.inl rfl) | exact .inr (.inr rfl))) x_nil)))) x_nil)))))))))))) (g_nm nd rfl (by first | exact .inl rfl | exact .inr rfl) (by first | exact .inl rfl | exact .inr rfl)))
  (ss_cons (s_for hp rfl (i_rng (by rfl) F.n_range x_int) (g_nm nd rfl (by first | exact .inl rfl | exact .inr rfl) (by first | exact .inl rfl | exact .inr rfl)) (ss_cons (s_ex (x_bm O (f := .append) (by constructor <;> (intro h; cases h)) PySem.F.slot_list_append PySem.F.type_list_append bm_append (x_var (i := 6) rfl (by first | exact .inl rfl | exact .inr (.inl rfl) | exact .inr (.inr rfl))) (x_cons (x_call (by exact FnE.mk (F.e__law_spoilt hr)) tk (by rfl) F.g__law_spoilt F.k__law_spoilt (x_cons (x_var (i := 2) rfl (by first | exact .inl rfl | exact .inr (.inl rfl) | exact .inr (.inr rfl))) (x_cons (x_call (by exact FnE.mk (F.e__law_pick hr)) tk (by rfl) F.g__law_pick F.k__law_pick (x_cons (x_var (i := 2) rfl (by first | exact .inl rfl | exact .inr (.inl rfl) | exact .inr (.inr rfl))) (x_cons (x_slc O (x_var (i := 6) rfl (by first | exact .inl rfl | exact .inr (.inl rfl) | exact .inr (.inr rfl))) o_none (o_some x_int)) x_nil))) (x_cons x_int x_nil)))) x_nil)))
  (ss_cons (s_ex (x_bm O (f := .append) (by constructor <;> (intro h; cases h)) PySem.F.slot_list_append PySem.F.type_list_append bm_append (x_var (i := 7) rfl (by first | exact .inl rfl | exact .inr (.inl rfl) | exact .inr (.inr rfl))) (x_cons (x_call (by exact FnE.mk (F.e__law_spoilt hr)) tk (by rfl) F.g__law_spoilt F.k__law_spoilt (x_cons (x_var (i := 2) rfl (by first | exact .inl rfl | exact .inr (.inl rfl) | exact .inr (.inr rfl))) (x_cons (x_call (by exact FnE.mk (F.e__law_pick hr)) tk (by rfl) F.g__law_pick F.k__law_pick (x_cons (x_var (i := 2) rfl (by first | exact .inl rfl | exact .inr (.inl rfl) | exact .inr (.inr rfl))) (x_cons (x_slc O (x_var (i := 7) rfl (by first | exact .inl rfl | exact .inr (.inl rfl) | exact .inr (.inr rfl))) o_none (o_some x_int)) x_nil))) (x_cons x_int x_nil)))) x_nil)))
  ss_nil)))
  (ss_cons (s_for hp rfl (i_e O (x_var (i := 6) rfl (by first | exact .inl rfl | exact .inr (.inl rfl) | exact .inr (.inr rfl)))) (g_nm nd rfl (by first | exact .inl rfl | exact .inr rfl) (by first | exact .inl rfl | exact .inr rfl)) (ss_cons (s_asg (x_call (by exact FnE.mk (F.e__law_is_question hr)) tk (by rfl) F.g__law_is_question F.k__law_is_question (x_cons (x_var (i := 9) rfl (by first | exact .inl rfl | exact .inr (.inl rfl) | exact .inr (.inr rfl))) x_nil)) (g_nm nd rfl (by first | exact .inl rfl | exact .inr rfl) (by first | exact .inl rfl | exact .inr rfl)))
  (ss_cons (s_if (b_not (b_val O (x_call (by exact FnE.mk (F.e__law_is_due hr)) tk (by rfl) F.g__law_is_due F.k__law_is_due (x_cons (x_call (by exact FnE.mk (F.e_is_question hr)) tk (by rfl) F.g_is_question F.k_is_question (x_cons (x_var (i := 3) rfl (by first | exact .inl rfl | exact .inr (.inl rfl) | exact .inr (.inr rfl))) (x_cons (x_var (i := 9) rfl (by first | exact .inl rfl | exact .inr (.inl rfl) | exact .inr (.inr rfl))) x_nil))) (x_cons (x_var (i := 10) rfl (by first | exact .inl rfl | exact .inr (.inl rfl) | exact .inr (.inr rfl))) x_nil))))) (ss_cons (s_retF x_bl)
  ss_nil) ss_nil)
  (ss_cons (s_if (PW.pt (w_and (b_not (b_val O (x_var (i := 10) rfl (by first | exact .inl rfl | exact .inr (.inl rfl) | exact .inr (.inr rfl))))) (w_and1 (PW.pt (w_or (b_cmp O (o := .ne) (x_call (by exact FnE.mk (F.e__law_error hr)) tk (by rfl) F.g__law_error F.k__law_error (x_cons x_int (x_cons (x_var (i := 3) rfl (by first | exact .inl rfl | exact .inr (.inl rfl) | exact .inr (.inr rfl))) (x_cons (x_var (i := 9) rfl (by first | exact .inl rfl | exact .inr (.inl rfl) | exact .inr (.inr rfl))) x_nil)))) (x_tup (x_cons x_str (x_cons (x_var (i := 9) rfl (by first | exact .inl rfl | exact .inr (.inl rfl) | exact .inr (.inr rfl))) x_nil))) (nomark _)) (w_or1 (b_cmp O (o := .ne) (x_call (by exact FnE.mk (F.e__law_error hr)) tk (by rfl) F.g__law_error F.k__law_error (x_cons x_int (x_cons (x_var (i := 3) rfl (by first | exact .inl rfl | exact .inr (.inl rfl) | exact .inr (.inr rfl))) (x_cons (x_var (i := 9) rfl (by first | exact .inl rfl | exact .inr (.inl rfl) | exact .inr (.inr rfl))) x_nil)))) (x_tup (x_cons x_str (x_cons (x_var (i := 9) rfl (by first | exact .inl rfl | exact .inr (.inl rfl) | exact .inr (.inr rfl))) x_nil))) (nomark _)))))))) (ss_cons (s_retF x_bl)
  ss_nil) ss_nil)
  ss_nil))))
  (ss_cons (s_for hp rfl (i_e O (x_var (i := 7) rfl (by first | exact .inl rfl | exact .inr (.inl rfl) | exact .inr (.inr rfl)))) (g_nm nd rfl (by first | exact .inl rfl | exact .inr rfl) (by first | exact .inl rfl | exact .inr rfl)) (ss_cons (s_asg (x_call (by exact FnE.mk (F.e__law_claim_form hr)) tk (by rfl) F.g__law_claim_form F.k__law_claim_form (x_cons (x_var (i := 9) rfl (by first | exact .inl rfl | exact .inr (.inl rfl) | exact .inr (.inr rfl))) x_nil)) (g_nm nd rfl (by first | exact .inl rfl | exact .inr rfl) (by first | exact .inl rfl | exact .inr rfl)))
  (ss_cons (s_if (b_not (b_val O (x_call (by exact FnE.mk (F.e__law_is_due hr)) tk (by rfl) F.g__law_is_due F.k__law_is_due (x_cons (x_call (by exact FnE.mk (F.e_is_claim hr)) tk (by rfl) F.g_is_claim F.k_is_claim (x_cons (x_var (i := 3) rfl (by first | exact .inl rfl | exact .inr (.inl rfl) | exact .inr (.inr rfl))) (x_cons (x_var (i := 9) rfl (by first | exact .inl rfl | exact .inr (.inl rfl) | exact .inr (.inr rfl))) x_nil))) (x_cons (x_var (i := 10) rfl (by first | exact .inl rfl | exact .inr (.inl rfl) | exact .inr (.inr rfl))) x_nil))))) (ss_cons (s_retF x_bl)
  ss_nil) ss_nil)
  (ss_cons (s_if (PW.pt (w_or (PW.pt (w_and (b_val O (x_var (i := 10) rfl (by first | exact .inl rfl | exact .inr (.inl rfl) | exact .inr (.inr rfl)))) (w_and1 (b_cmp O (o := .ne) (x_call (by exact FnE.mk (F.e_question_of hr)) tk (by rfl) F.g_question_of F.k_question_of (x_cons (x_var (i := 3) rfl (by first | exact .inl rfl | exact .inr (.inl rfl) | exact .inr (.inr rfl))) (x_cons (x_var (i := 9) rfl (by first | exact .inl rfl | exact .inr (.inl rfl) | exact .inr (.inr rfl))) x_nil))) (x_call (by exact FnE.mk (F.e__law_asked hr)) tk (by rfl) F.g__law_asked F.k__law_asked (x_cons (x_var (i := 9) rfl (by first | exact .inl rfl | exact .inr (.inl rfl) | exact .inr (.inr rfl))) x_nil)) (nomark _))))) (w_or1 (PW.pt (w_and (b_not (b_val O (x_var (i := 10) rfl (by first | exact .inl rfl | exact .inr (.inl rfl) | exact .inr (.inr rfl))))) (w_and1 (b_cmp O (o := .ne) (x_call (by exact FnE.mk (F.e__law_error hr)) tk (by rfl) F.g__law_error F.k__law_error (x_cons x_int (x_cons (x_var (i := 3) rfl (by first | exact .inl rfl | exact .inr (.inl rfl) | exact .inr (.inr rfl))) (x_cons (x_var (i := 9) rfl (by first | exact .inl rfl | exact .inr (.inl rfl) | exact .inr (.inr rfl))) x_nil)))) (x_tup (x_cons x_str (x_cons (x_var (i := 9) rfl (by first | exact .inl rfl | exact .inr (.inl rfl) | exact .inr (.inr rfl))) x_nil))) (nomark _)))))))) (ss_cons (s_retF x_bl)
  ss_nil) ss_nil)
  ss_nil))))
  (ss_cons (s_retF x_bl)
  ss_nil))))))))))))))
theorem sc_is_text : FnScope ["value", "word"] ["value"] (defScope (top 16)) := ⟨rfl, rfl, rfl, by decide +kernel, rfl, by decide +kernel, by decide +kernel⟩
theorem walk_is_text (F : Fx prog w K mg base k) {f : Addr} {cdv : Value} {A : Around} {outer : List PySem.Env} {s : Shared} {H : Hp} {E : XK} {n0 : Nat} (hr : Room (2 * k + 2) (A.deeper (envOfC "is_text" (defScope (top 16)) s.heap.objs.size f cdv))) :
    XSs (Dw K) (cxOf (L2.CX prog w) prog w K mg base ["value", "word"] "is_text" (defScope (top 16)) f cdv A outer s H E) (wB E) ⟨runFn prg k, n0, prg.sub, prg.xi⟩ (defBody (top 16)) ir_is_text := by
  have nd : (["value", "word"] : List Str).Nodup := sc_is_text.nd
  have O : Okx (Dw K) (cxOf (L2.CX prog w) prog w K mg base ["value", "word"] "is_text" (defScope (top 16)) f cdv A outer s H E) := ⟨rfl, by have := hr.un; show (A.deeper (envOfC "is_text" (defScope (top 16)) s.heap.objs.size f cdv)).units + 190 < _; omega, F.cls⟩
  have tk : Takes (cxOf (L2.CX prog w) prog w K mg base ["value", "word"] "is_text" (defScope (top 16)) f cdv A outer s H E) (wB E) := takes_of rfl rfl rfl rfl
  have hp : PassesOwn (model prog w) (A.deeper (envOfC "is_text" (defScope (top 16)) s.heap.objs.size f cdv)) (envOfC "is_text" (defScope (top 16)) s.heap.objs.size f cdv) (cxOf (L2.CX prog w) prog w K mg base ["value", "word"] "is_text" (defScope (top 16)) f cdv A outer s H E).xe := passes_of rfl
  exact (ss_cons (s_ret (x_and O (x_isi O (y := .tuple) trivial (by rfl) F.n_isinstance (x_var (i := 0) rfl (by first | exact .inl rfl | exact .inr (.inl rfl) | exact .inr (.inr rfl))) (c_ty (by rfl) F.n_tuple (by rfl))) (x_and O (x_cmp O (o := .le) (x_bf (bf_len O) (by rfl) F.n_len (by rfl) (x_cons (x_var (i := 0) rfl (by first | exact .inl rfl | exact .inr (.inl rfl) | exact .inr (.inr rfl))) x_nil)) (x_gi (by rfl) F.c_MOST_WORDS) (nomark _)) (x_and1 (x_bf (bf_all O (by rfl)) (by rfl) F.n_all (by rfl) (x_cons (x_comp (own := [("word", 1)]) rfl nd  (i_e O (x_var (i := 0) rfl (by first | exact .inl rfl | exact .inr (.inl rfl) | exact .inr (.inr rfl)))) (blkOk_by (N := ["value", "word"]) (sc := defScope (top 16)) (by decide +kernel)) (by decide) (fun _ _ _ _ _ => (g_nm nd rfl (by first | exact .inl rfl | exact .inr rfl) (by first | exact .inl rfl | exact .inr rfl))) (fun _ _ _ _ _ => .nil) (fun _ _ _ _ _ => (x_call (by exact FnE.mk (F.e_is_word hr)) takes_none5 (by rfl) F.g_is_word F.k_is_word (x_cons (x_var (i := 1) rfl (by first | exact .inl rfl | exact .inr (.inl rfl) | exact .inr (.inr rfl))) x_nil)))) x_nil))))))
  ss_nil)
theorem sc_has_word : FnScope ["value", "words"] ["value", "words"] (defScope (top 59)) := ⟨rfl, rfl, rfl, by decide +kernel, rfl, by decide +kernel, by decide +kernel⟩
theorem walk_has_word (F : Fx prog w K mg base k) {f : Addr} {cdv : Value} {A : Around} {outer : List PySem.Env} {s : Shared} {H : Hp} {E : XK} {n0 : Nat} (hr : Room (2 * k + 2) (A.deeper (envOfC "has_word" (defScope (top 59)) s.heap.objs.size f cdv))) :
    XSs (Dw K) (cxOf (L2.CX prog w) prog w K mg base ["value", "words"] "has_word" (defScope (top 59)) f cdv A outer s H E) (wB E) ⟨runFn prg k, n0, prg.sub, prg.xi⟩ (defBody (top 59)) ir_has_word := by
  have nd : (["value", "words"] : List Str).Nodup := sc_has_word.nd
  have O : Okx (Dw K) (cxOf (L2.CX prog w) prog w K mg base ["value", "words"] "has_word" (defScope (top 59)) f cdv A outer s H E) := ⟨rfl, by have := hr.un; show (A.deeper (envOfC "has_word" (defScope (top 59)) s.heap.objs.size f cdv)).units + 190 < _; omega, F.cls⟩
  have tk : Takes (cxOf (L2.CX prog w) prog w K mg base ["value", "words"] "has_word" (defScope (top 59)) f cdv A outer s H E) (wB E) := takes_of rfl rfl rfl rfl
  have hp : PassesOwn (model prog w) (A.deeper (envOfC "has_word" (defScope (top 59)) s.heap.objs.size f cdv)) (envOfC "has_word" (defScope (top 59)) s.heap.objs.size f cdv) (cxOf (L2.CX prog w) prog w K mg base ["value", "words"] "has_word" (defScope (top 59)) f cdv A outer s H E).xe := passes_of rfl
  exact (ss_cons (s_ret (x_and O (x_isi O (y := .tuple) trivial (by rfl) F.n_isinstance (x_var (i := 0) rfl (by first | exact .inl rfl | exact .inr (.inl rfl) | exact .inr (.inr rfl))) (c_ty (by rfl) F.n_tuple (by rfl))) (x_and O (x_cmp O (o := .gt) (x_bf (bf_len O) (by rfl) F.n_len (by rfl) (x_cons (x_var (i := 0) rfl (by first | exact .inl rfl | exact .inr (.inl rfl) | exact .inr (.inr rfl))) x_nil)) x_int (nomark _)) (x_and O (x_isi O (y := .str) trivial (by rfl) F.n_isinstance (x_idx O (x_var (i := 0) rfl (by first | exact .inl rfl | exact .inr (.inl rfl) | exact .inr (.inr rfl))) x_int) (c_ty (by rfl) F.n_str (by rfl))) (x_and1 (x_cmp O (o := .isin) (x_idx O (x_var (i := 0) rfl (by first | exact .inl rfl | exact .inr (.inl rfl) | exact .inr (.inr rfl))) x_int) (x_var (i := 1) rfl (by first | exact .inl rfl | exact .inr (.inl rfl) | exact .inr (.inr rfl))) (by with_unfolding_all rfl)))))))
  ss_nil)
theorem sc_is_number : FnScope ["value"] ["value"] (defScope (top 60)) := ⟨rfl, rfl, rfl, by decide +kernel, rfl, by decide +kernel, by decide +kernel⟩
theorem walk_is_number (F : Fx prog w K mg base k) {f : Addr} {cdv : Value} {A : Around} {outer : List PySem.Env} {s : Shared} {H : Hp} {E : XK} {n0 : Nat} (hr : Room (2 * k + 2) (A.deeper (envOfC "is_number" (defScope (top 60)) s.heap.objs.size f cdv))) :
    XSs (Dw K) (cxOf (L2.CX prog w) prog w K mg base ["value"] "is_number" (defScope (top 60)) f cdv A outer s H E) (wB E) ⟨runFn prg k, n0, prg.sub, prg.xi⟩ (defBody (top 60)) ir_is_number := by
  have nd : (["value"] : List Str).Nodup := sc_is_number.nd
  have O : Okx (Dw K) (cxOf (L2.CX prog w) prog w K mg base ["value"] "is_number" (defScope (top 60)) f cdv A outer s H E) := ⟨rfl, by have := hr.un; show (A.deeper (envOfC "is_number" (defScope (top 60)) s.heap.objs.size f cdv)).units + 190 < _; omega, F.cls⟩
  have tk : Takes (cxOf (L2.CX prog w) prog w K mg base ["value"] "is_number" (defScope (top 60)) f cdv A outer s H E) (wB E) := takes_of rfl rfl rfl rfl
  have hp : PassesOwn (model prog w) (A.deeper (envOfC "is_number" (defScope (top 60)) s.heap.objs.size f cdv)) (envOfC "is_number" (defScope (top 60)) s.heap.objs.size f cdv) (cxOf (L2.CX prog w) prog w K mg base ["value"] "is_number" (defScope (top 60)) f cdv A outer s H E).xe := passes_of rfl
  exact (ss_cons (s_ret (x_and O (x_call (by exact FnE.mk (F.e_is_integer hr)) tk (by rfl) F.g_is_integer F.k_is_integer (x_cons (x_var (i := 0) rfl (by first | exact .inl rfl | exact .inr (.inl rfl) | exact .inr (.inr rfl))) x_nil)) (x_and1 (x_cmp O (o := .ge) (x_var (i := 0) rfl (by first | exact .inl rfl | exact .inr (.inl rfl) | exact .inr (.inr rfl))) x_int (nomark _)))))
  ss_nil)
theorem sc_is_question : FnScope ["pairs", "value"] ["pairs", "value"] (defScope (top 61)) := ⟨rfl, rfl, rfl, by decide +kernel, rfl, by decide +kernel, by decide +kernel⟩
theorem walk_is_question (F : Fx prog w K mg base k) {f : Addr} {cdv : Value} {A : Around} {outer : List PySem.Env} {s : Shared} {H : Hp} {E : XK} {n0 : Nat} (hr : Room (2 * k + 2) (A.deeper (envOfC "is_question" (defScope (top 61)) s.heap.objs.size f cdv))) :
    XSs (Dw K) (cxOf (L2.CX prog w) prog w K mg base ["pairs", "value"] "is_question" (defScope (top 61)) f cdv A outer s H E) (wB E) ⟨runFn prg k, n0, prg.sub, prg.xi⟩ (defBody (top 61)) ir_is_question := by
  have nd : (["pairs", "value"] : List Str).Nodup := sc_is_question.nd
  have O : Okx (Dw K) (cxOf (L2.CX prog w) prog w K mg base ["pairs", "value"] "is_question" (defScope (top 61)) f cdv A outer s H E) := ⟨rfl, by have := hr.un; show (A.deeper (envOfC "is_question" (defScope (top 61)) s.heap.objs.size f cdv)).units + 190 < _; omega, F.cls⟩
  have tk : Takes (cxOf (L2.CX prog w) prog w K mg base ["pairs", "value"] "is_question" (defScope (top 61)) f cdv A outer s H E) (wB E) := takes_of rfl rfl rfl rfl
  have hp : PassesOwn (model prog w) (A.deeper (envOfC "is_question" (defScope (top 61)) s.heap.objs.size f cdv)) (envOfC "is_question" (defScope (top 61)) s.heap.objs.size f cdv) (cxOf (L2.CX prog w) prog w K mg base ["pairs", "value"] "is_question" (defScope (top 61)) f cdv A outer s H E).xe := passes_of rfl
  exact (ss_cons (s_if (b_not (b_val O (x_call (by exact FnE.mk (F.e_has_word hr)) tk (by rfl) F.g_has_word F.k_has_word (x_cons (x_var (i := 1) rfl (by first | exact .inl rfl | exact .inr (.inl rfl) | exact .inr (.inr rfl))) (x_cons (x_tup (x_cons x_str (x_cons x_str (x_cons x_str x_nil)))) x_nil))))) (ss_cons (s_ret x_bl)
  ss_nil) ss_nil)
  (ss_cons (s_if (b_cmp O (o := .eq) (x_idx O (x_var (i := 1) rfl (by first | exact .inl rfl | exact .inr (.inl rfl) | exact .inr (.inr rfl))) x_int) x_str (nomark _)) (ss_cons (s_ret (x_cmp O (o := .eq) (x_bf (bf_len O) (by rfl) F.n_len (by rfl) (x_cons (x_var (i := 1) rfl (by first | exact .inl rfl | exact .inr (.inl rfl) | exact .inr (.inr rfl))) x_nil)) x_int (nomark _)))
  ss_nil) ss_nil)
  (ss_cons (s_ret (x_and O (x_cmp O (o := .eq) (x_bf (bf_len O) (by rfl) F.n_len (by rfl) (x_cons (x_var (i := 1) rfl (by first | exact .inl rfl | exact .inr (.inl rfl) | exact .inr (.inr rfl))) x_nil)) x_int (nomark _)) (x_and1 (x_call (by exact FnE.mk (F.e_is_text hr)) tk (by rfl) F.g_is_text F.k_is_text (x_cons (x_idx O (x_var (i := 1) rfl (by first | exact .inl rfl | exact .inr (.inl rfl) | exact .inr (.inr rfl))) x_int) x_nil)))))
  ss_nil)))
theorem sc_is_claim : FnScope ["pairs", "value", "word"] ["pairs", "value"] (defScope (top 62)) := ⟨rfl, rfl, rfl, by decide +kernel, rfl, by decide +kernel, by decide +kernel⟩
theorem walk_is_claim (F : Fx prog w K mg base k) {f : Addr} {cdv : Value} {A : Around} {outer : List PySem.Env} {s : Shared} {H : Hp} {E : XK} {n0 : Nat} (hr : Room (2 * k + 2) (A.deeper (envOfC "is_claim" (defScope (top 62)) s.heap.objs.size f cdv))) :
    XSs (Dw K) (cxOf (L2.CX prog w) prog w K mg base ["pairs", "value", "word"] "is_claim" (defScope (top 62)) f cdv A outer s H E) (wB E) ⟨runFn prg k, n0, prg.sub, prg.xi⟩ (defBody (top 62)) ir_is_claim := by
  have nd : (["pairs", "value", "word"] : List Str).Nodup := sc_is_claim.nd
  have O : Okx (Dw K) (cxOf (L2.CX prog w) prog w K mg base ["pairs", "value", "word"] "is_claim" (defScope (top 62)) f cdv A outer s H E) := ⟨rfl, by have := hr.un; show (A.deeper (envOfC "is_claim" (defScope (top 62)) s.heap.objs.size f cdv)).units + 190 < _; omega, F.cls⟩
  have tk : Takes (cxOf (L2.CX prog w) prog w K mg base ["pairs", "value", "word"] "is_claim" (defScope (top 62)) f cdv A outer s H E) (wB E) := takes_of rfl rfl rfl rfl
  have hp : PassesOwn (model prog w) (A.deeper (envOfC "is_claim" (defScope (top 62)) s.heap.objs.size f cdv)) (envOfC "is_claim" (defScope (top 62)) s.heap.objs.size f cdv) (cxOf (L2.CX prog w) prog w K mg base ["pairs", "value", "word"] "is_claim" (defScope (top 62)) f cdv A outer s H E).xe := passes_of rfl
  exact (ss_cons (s_if (b_not (b_val O (x_call (by exact FnE.mk (F.e_has_word hr)) tk (by rfl) F.g_has_word F.k_has_word (x_cons (x_var (i := 1) rfl (by first | exact .inl rfl | exact .inr (.inl rfl) | exact .inr (.inr rfl))) (x_cons (x_lkeys (zs := ks_WORDS) rfl F.d_WORDS F.o_WORDS (by decide) (by rw [sizeLine_eq]; decide) (by rfl) F.n_list (by rfl) (c_cls2 (by rfl) F.g_WORDS)) x_nil))))) (ss_cons (s_ret x_bl)
  ss_nil) ss_nil)
  (ss_cons (s_asg (x_idx O (x_var (i := 1) rfl (by first | exact .inl rfl | exact .inr (.inl rfl) | exact .inr (.inr rfl))) x_int) (g_nm nd rfl (by first | exact .inl rfl | exact .inr rfl) (by first | exact .inl rfl | exact .inr rfl)))
  (ss_cons (s_if (PW.pt (w_or (b_cmp O (o := .eq) (x_var (i := 2) rfl (by first | exact .inl rfl | exact .inr (.inl rfl) | exact .inr (.inr rfl))) x_str (nomark _)) (w_or1 (b_cmp O (o := .eq) (x_var (i := 2) rfl (by first | exact .inl rfl | exact .inr (.inl rfl) | exact .inr (.inr rfl))) x_str (nomark _))))) (ss_cons (s_ret (x_cmp O (o := .eq) (x_bf (bf_len O) (by rfl) F.n_len (by rfl) (x_cons (x_var (i := 1) rfl (by first | exact .inl rfl | exact .inr (.inl rfl) | exact .inr (.inr rfl))) x_nil)) x_int (nomark _)))
  ss_nil) ss_nil)
  (ss_cons (s_if (b_cmp O (o := .eq) (x_var (i := 2) rfl (by first | exact .inl rfl | exact .inr (.inl rfl) | exact .inr (.inr rfl))) x_str (nomark _)) (ss_cons (s_ret (x_and O (x_cmp O (o := .eq) (x_bf (bf_len O) (by rfl) F.n_len (by rfl) (x_cons (x_var (i := 1) rfl (by first | exact .inl rfl | exact .inr (.inl rfl) | exact .inr (.inr rfl))) x_nil)) x_int (nomark _)) (x_and1 (x_call (by exact FnE.mk (F.e_is_number hr)) tk (by rfl) F.g_is_number F.k_is_number (x_cons (x_idx O (x_var (i := 1) rfl (by first | exact .inl rfl | exact .inr (.inl rfl) | exact .inr (.inr rfl))) x_int) x_nil)))))
  ss_nil) ss_nil)
  (ss_cons (s_if (b_cmp O (o := .eq) (x_var (i := 2) rfl (by first | exact .inl rfl | exact .inr (.inl rfl) | exact .inr (.inr rfl))) x_str (nomark _)) (ss_cons (s_ret (x_and O (x_cmp O (o := .eq) (x_bf (bf_len O) (by rfl) F.n_len (by rfl) (x_cons (x_var (i := 1) rfl (by first | exact .inl rfl | exact .inr (.inl rfl) | exact .inr (.inr rfl))) x_nil)) x_int (nomark _)) (x_and O (x_call (by exact FnE.mk (F.e_is_text hr)) tk (by rfl) F.g_is_text F.k_is_text (x_cons (x_idx O (x_var (i := 1) rfl (by first | exact .inl rfl | exact .inr (.inl rfl) | exact .inr (.inr rfl))) x_int) x_nil)) (x_and1 (x_call (by exact FnE.mk (F.e_is_number hr)) tk (by rfl) F.g_is_number F.k_is_number (x_cons (x_idx O (x_var (i := 1) rfl (by first | exact .inl rfl | exact .inr (.inl rfl) | exact .inr (.inr rfl))) x_int) x_nil))))))
  ss_nil) ss_nil)
  (ss_cons (s_ret (x_and O (x_cmp O (o := .eq) (x_bf (bf_len O) (by rfl) F.n_len (by rfl) (x_cons (x_var (i := 1) rfl (by first | exact .inl rfl | exact .inr (.inl rfl) | exact .inr (.inr rfl))) x_nil)) x_int (nomark _)) (x_and1 (x_call (by exact FnE.mk (F.e_is_text hr)) tk (by rfl) F.g_is_text F.k_is_text (x_cons (x_idx O (x_var (i := 1) rfl (by first | exact .inl rfl | exact .inr (.inl rfl) | exact .inr (.inr rfl))) x_int) x_nil)))))
  ss_nil))))))
theorem sc_question_of : FnScope ["pairs", "claim", "word"] ["pairs", "claim"] (defScope (top 63)) := ⟨rfl, rfl, rfl, by decide +kernel, rfl, by decide +kernel, by decide +kernel⟩
theorem walk_question_of (F : Fx prog w K mg base k) {f : Addr} {cdv : Value} {A : Around} {outer : List PySem.Env} {s : Shared} {H : Hp} {E : XK} {n0 : Nat} (hr : Room (2 * k + 2) (A.deeper (envOfC "question_of" (defScope (top 63)) s.heap.objs.size f cdv))) :
    XSs (Dw K) (cxOf (L2.CX prog w) prog w K mg base ["pairs", "claim", "word"] "question_of" (defScope (top 63)) f cdv A outer s H E) (wB E) ⟨runFn prg k, n0, prg.sub, prg.xi⟩ (defBody (top 63)) ir_question_of := by
  have nd : (["pairs", "claim", "word"] : List Str).Nodup := sc_question_of.nd
  have O : Okx (Dw K) (cxOf (L2.CX prog w) prog w K mg base ["pairs", "claim", "word"] "question_of" (defScope (top 63)) f cdv A outer s H E) := ⟨rfl, by have := hr.un; show (A.deeper (envOfC "question_of" (defScope (top 63)) s.heap.objs.size f cdv)).units + 190 < _; omega, F.cls⟩
  have tk : Takes (cxOf (L2.CX prog w) prog w K mg base ["pairs", "claim", "word"] "question_of" (defScope (top 63)) f cdv A outer s H E) (wB E) := takes_of rfl rfl rfl rfl
  have hp : PassesOwn (model prog w) (A.deeper (envOfC "question_of" (defScope (top 63)) s.heap.objs.size f cdv)) (envOfC "question_of" (defScope (top 63)) s.heap.objs.size f cdv) (cxOf (L2.CX prog w) prog w K mg base ["pairs", "claim", "word"] "question_of" (defScope (top 63)) f cdv A outer s H E).xe := passes_of rfl
  exact (ss_cons (s_if (b_not (b_val O (x_call (by exact FnE.mk (F.e_is_claim hr)) tk (by rfl) F.g_is_claim F.k_is_claim (x_cons (x_var (i := 0) rfl (by first | exact .inl rfl | exact .inr (.inl rfl) | exact .inr (.inr rfl))) (x_cons (x_var (i := 1) rfl (by first | exact .inl rfl | exact .inr (.inl rfl) | exact .inr (.inr rfl))) x_nil))))) (ss_cons (s_raise (c := 6) rfl tk (by exact F.x_InvalidClaim rfl rfl rfl rfl rfl hr) (x_var (i := 1) rfl (by first | exact .inl rfl | exact .inr (.inl rfl) | exact .inr (.inr rfl))) (by rfl) F.g_InvalidClaim)
  ss_nil) ss_nil)
  (ss_cons (s_asg (x_kgetS F.d_WORDS F.v_WORDS (c_cls2 (by rfl) F.g_WORDS) (x_idx O (x_var (i := 1) rfl (by first | exact .inl rfl | exact .inr (.inl rfl) | exact .inr (.inr rfl))) x_int)) (g_nm nd rfl (by first | exact .inl rfl | exact .inr rfl) (by first | exact .inl rfl | exact .inr rfl)))
  (ss_cons (s_ret (x_ite (b_cmp O (o := .eq) (x_var (i := 2) rfl (by first | exact .inl rfl | exact .inr (.inl rfl) | exact .inr (.inr rfl))) x_str (nomark _)) (x_tup (x_cons (x_var (i := 2) rfl (by first | exact .inl rfl | exact .inr (.inl rfl) | exact .inr (.inr rfl))) x_nil)) (x_tup (x_cons (x_var (i := 2) rfl (by first | exact .inl rfl | exact .inr (.inl rfl) | exact .inr (.inr rfl))) (x_cons (x_idx O (x_var (i := 1) rfl (by first | exact .inl rfl | exact .inr (.inl rfl) | exact .inr (.inr rfl))) x_int) x_nil))) (fun _ _ => evB_eq _ _ _ _)))
  ss_nil)))
theorem sc_answer_of : FnScope ["pairs", "question", "word", "many"] ["pairs", "question"] (defScope (top 64)) := ⟨rfl, rfl, rfl, by decide +kernel, rfl, by decide +kernel, by decide +kernel⟩
theorem walk_answer_of (F : Fx prog w K mg base k) {f : Addr} {cdv : Value} {A : Around} {outer : List PySem.Env} {s : Shared} {H : Hp} {E : XK} {n0 : Nat} (hr : Room (2 * k + 2) (A.deeper (envOfC "answer_of" (defScope (top 64)) s.heap.objs.size f cdv))) :
    XSs (Dw K) (cxOf (L2.CX prog w) prog w K mg base ["pairs", "question", "word", "many"] "answer_of" (defScope (top 64)) f cdv A outer s H E) (wB E) ⟨runFn prg k, n0, prg.sub, prg.xi⟩ (defBody (top 64)) ir_answer_of := by
  have nd : (["pairs", "question", "word", "many"] : List Str).Nodup := sc_answer_of.nd
  have O : Okx (Dw K) (cxOf (L2.CX prog w) prog w K mg base ["pairs", "question", "word", "many"] "answer_of" (defScope (top 64)) f cdv A outer s H E) := ⟨rfl, by have := hr.un; show (A.deeper (envOfC "answer_of" (defScope (top 64)) s.heap.objs.size f cdv)).units + 190 < _; omega, F.cls⟩
  have tk : Takes (cxOf (L2.CX prog w) prog w K mg base ["pairs", "question", "word", "many"] "answer_of" (defScope (top 64)) f cdv A outer s H E) (wB E) := takes_of rfl rfl rfl rfl
  have hp : PassesOwn (model prog w) (A.deeper (envOfC "answer_of" (defScope (top 64)) s.heap.objs.size f cdv)) (envOfC "answer_of" (defScope (top 64)) s.heap.objs.size f cdv) (cxOf (L2.CX prog w) prog w K mg base ["pairs", "question", "word", "many"] "answer_of" (defScope (top 64)) f cdv A outer s H E).xe := passes_of rfl
  exact (ss_cons (s_if (b_not (b_val O (x_call (by exact FnE.mk (F.e_is_question hr)) tk (by rfl) F.g_is_question F.k_is_question (x_cons (x_var (i := 0) rfl (by first | exact .inl rfl | exact .inr (.inl rfl) | exact .inr (.inr rfl))) (x_cons (x_var (i := 1) rfl (by first | exact .inl rfl | exact .inr (.inl rfl) | exact .inr (.inr rfl))) x_nil))))) (ss_cons (s_raise (c := 5) rfl tk (by exact F.x_InvalidQuestion rfl rfl rfl rfl rfl hr) (x_var (i := 1) rfl (by first | exact .inl rfl | exact .inr (.inl rfl) | exact .inr (.inr rfl))) (by rfl) F.g_InvalidQuestion)
  ss_nil) ss_nil)
  (ss_cons s_bad
  (ss_cons s_bad
  (ss_cons s_bad
  (ss_cons s_bad
  (ss_cons s_bad
  (ss_cons s_bad
  ss_nil)))))))
theorem sc_paper_of : FnScope ["pairs", "question", "claim", "word"] ["pairs", "question"] (defScope (top 66)) := ⟨rfl, rfl, rfl, by decide +kernel, rfl, by decide +kernel, by decide +kernel⟩
theorem walk_paper_of (F : Fx prog w K mg base k) {f : Addr} {cdv : Value} {A : Around} {outer : List PySem.Env} {s : Shared} {H : Hp} {E : XK} {n0 : Nat} (hr : Room (2 * k + 2) (A.deeper (envOfC "paper_of" (defScope (top 66)) s.heap.objs.size f cdv))) :
    XSs (Dw K) (cxOf (L2.CX prog w) prog w K mg base ["pairs", "question", "claim", "word"] "paper_of" (defScope (top 66)) f cdv A outer s H E) (wB E) ⟨runFn prg k, n0, prg.sub, prg.xi⟩ (defBody (top 66)) ir_paper_of := by
  have nd : (["pairs", "question", "claim", "word"] : List Str).Nodup := sc_paper_of.nd
  have O : Okx (Dw K) (cxOf (L2.CX prog w) prog w K mg base ["pairs", "question", "claim", "word"] "paper_of" (defScope (top 66)) f cdv A outer s H E) := ⟨rfl, by have := hr.un; show (A.deeper (envOfC "paper_of" (defScope (top 66)) s.heap.objs.size f cdv)).units + 190 < _; omega, F.cls⟩
  have tk : Takes (cxOf (L2.CX prog w) prog w K mg base ["pairs", "question", "claim", "word"] "paper_of" (defScope (top 66)) f cdv A outer s H E) (wB E) := takes_of rfl rfl rfl rfl
  have hp : PassesOwn (model prog w) (A.deeper (envOfC "paper_of" (defScope (top 66)) s.heap.objs.size f cdv)) (envOfC "paper_of" (defScope (top 66)) s.heap.objs.size f cdv) (cxOf (L2.CX prog w) prog w K mg base ["pairs", "question", "claim", "word"] "paper_of" (defScope (top 66)) f cdv A outer s H E).xe := passes_of rfl
  exact (ss_cons (s_asg (x_call (by exact FnE.mk (F.e_answer_of hr)) tk (by rfl) F.g_answer_of F.k_answer_of (x_cons (x_var (i := 0) rfl (by first | exact .inl rfl | exact .inr (.inl rfl) | exact .inr (.inr rfl))) (x_cons (x_var (i := 1) rfl (by first | exact .inl rfl | exact .inr (.inl rfl) | exact .inr (.inr rfl))) x_nil))) (g_nm nd rfl (by first | exact .inl rfl | exact .inr rfl) (by first | exact .inl rfl | exact .inr rfl)))
  (ss_cons s_bad
  (ss_cons s_bad
  (ss_cons s_bad
  (ss_cons s_bad
  (ss_cons s_bad
  (ss_cons s_bad
  ss_nil)))))))
theorem sc__law_words : FnScope ["grammar", "found", "rule"] ["grammar"] (defScope (top 79)) := ⟨rfl, rfl, rfl, by decide +kernel, rfl, by decide +kernel, by decide +kernel⟩
theorem walk__law_words (F : Fx prog w K mg base k) {f : Addr} {cdv : Value} {A : Around} {outer : List PySem.Env} {s : Shared} {H : Hp} {E : XK} {n0 : Nat} (hr : Room (2 * k + 2) (A.deeper (envOfC "_law_words" (defScope (top 79)) s.heap.objs.size f cdv))) :
    XSs (Dw K) (cxOf (L2.CX prog w) prog w K mg base ["grammar", "found", "rule"] "_law_words" (defScope (top 79)) f cdv A outer s H E) (wB E) ⟨runFn prg k, n0, prg.sub, prg.xi⟩ (defBody (top 79)) ir__law_words := by
  have nd : (["grammar", "found", "rule"] : List Str).Nodup := sc__law_words.nd
  have O : Okx (Dw K) (cxOf (L2.CX prog w) prog w K mg base ["grammar", "found", "rule"] "_law_words" (defScope (top 79)) f cdv A outer s H E) := ⟨rfl, by have := hr.un; show (A.deeper (envOfC "_law_words" (defScope (top 79)) s.heap.objs.size f cdv)).units + 190 < _; omega, F.cls⟩
  have tk : Takes (cxOf (L2.CX prog w) prog w K mg base ["grammar", "found", "rule"] "_law_words" (defScope (top 79)) f cdv A outer s H E) (wB E) := takes_of rfl rfl rfl rfl
  have hp : PassesOwn (model prog w) (A.deeper (envOfC "_law_words" (defScope (top 79)) s.heap.objs.size f cdv)) (envOfC "_law_words" (defScope (top 79)) s.heap.objs.size f cdv) (cxOf (L2.CX prog w) prog w K mg base ["grammar", "found", "rule"] "_law_words" (defScope (top 79)) f cdv A outer s H E).xe := passes_of rfl
  exact (ss_cons (s_asg (x_lst (m := true) x_nil) (g_nm nd rfl (by first | exact .inl rfl | exact .inr rfl) (by first | exact .inl rfl | exact .inr rfl)))
  (ss_cons (s_for hp rfl (i_e O (x_idx O (x_var (i := 0) rfl (by first | exact .inl rfl | exact .inr (.inl rfl) | exact .inr (.inr rfl))) x_int)) (g_nm nd rfl (by first | exact .inl rfl | exact .inr rfl) (by first | exact .inl rfl | exact .inr rfl)) (ss_cons (s_if (PW.pt (w_and (b_cmp O (o := .isin) (x_idx O (x_var (i := 2) rfl (by first | exact .inl rfl | exact .inr (.inl rfl) | exact .inr (.inr rfl))) x_int) (x_lst (m := false) (x_cons x_str (x_cons x_str x_nil))) (by with_unfolding_all rfl)) (w_and1 (b_cmp O (o := .notin) (x_idx O (x_var (i := 2) rfl (by first | exact .inl rfl | exact .inr (.inl rfl) | exact .inr (.inr rfl))) x_int) (x_var (i := 1) rfl (by first | exact .inl rfl | exact .inr (.inl rfl) | exact .inr (.inr rfl))) (by with_unfolding_all rfl))))) (ss_cons (s_ex (x_bm O (f := .append) (by constructor <;> (intro h; cases h)) PySem.F.slot_list_append PySem.F.type_list_append bm_append (x_var (i := 1) rfl (by first | exact .inl rfl | exact .inr (.inl rfl) | exact .inr (.inr rfl))) (x_cons (x_idx O (x_var (i := 2) rfl (by first | exact .inl rfl | exact .inr (.inl rfl) | exact .inr (.inr rfl))) x_int) x_nil)))
  ss_nil) ss_nil)
  ss_nil))
  (ss_cons (s_retF (x_var (i := 1) rfl (by first | exact .inl rfl | exact .inr (.inl rfl) | exact .inr (.inr rfl))))
  ss_nil)))
theorem sc__law_drawn_text : FnScope ["box", "grammar", "most", "words", "k"] ["box", "grammar", "most"] (defScope (top 80)) := ⟨rfl, rfl, rfl, by decide +kernel, rfl, by decide +kernel, by decide +kernel⟩
theorem walk__law_drawn_text (F : Fx prog w K mg base k) {f : Addr} {cdv : Value} {A : Around} {outer : List PySem.Env} {s : Shared} {H : Hp} {E : XK} {n0 : Nat} (hr : Room (2 * k + 2) (A.deeper (envOfC "_law_drawn_text" (defScope (top 80)) s.heap.objs.size f cdv))) :
    XSs (Dw K) (cxOf (L2.CX prog w) prog w K mg base ["box", "grammar", "most", "words", "k"] "_law_drawn_text" (defScope (top 80)) f cdv A outer s H E) (wB E) ⟨runFn prg k, n0, prg.sub, prg.xi⟩ (defBody (top 80)) ir__law_drawn_text := by
  have nd : (["box", "grammar", "most", "words", "k"] : List Str).Nodup := sc__law_drawn_text.nd
  have O : Okx (Dw K) (cxOf (L2.CX prog w) prog w K mg base ["box", "grammar", "most", "words", "k"] "_law_drawn_text" (defScope (top 80)) f cdv A outer s H E) := ⟨rfl, by have := hr.un; show (A.deeper (envOfC "_law_drawn_text" (defScope (top 80)) s.heap.objs.size f cdv)).units + 190 < _; omega, F.cls⟩
  have tk : Takes (cxOf (L2.CX prog w) prog w K mg base ["box", "grammar", "most", "words", "k"] "_law_drawn_text" (defScope (top 80)) f cdv A outer s H E) (wB E) := takes_of rfl rfl rfl rfl
  have hp : PassesOwn (model prog w) (A.deeper (envOfC "_law_drawn_text" (defScope (top 80)) s.heap.objs.size f cdv)) (envOfC "_law_drawn_text" (defScope (top 80)) s.heap.objs.size f cdv) (cxOf (L2.CX prog w) prog w K mg base ["box", "grammar", "most", "words", "k"] "_law_drawn_text" (defScope (top 80)) f cdv A outer s H E).xe := passes_of rfl
  exact (ss_cons (s_asg (x_bin O (o := .add) (x_call (by exact FnE.mk (F.e__law_words hr)) tk (by rfl) F.g__law_words F.k__law_words (x_cons (x_var (i := 1) rfl (by first | exact .inl rfl | exact .inr (.inl rfl) | exact .inr (.inr rfl))) x_nil)) (x_lst (m := false) (x_cons x_str x_nil))) (g_nm nd rfl (by first | exact .inl rfl | exact .inr rfl) (by first | exact .inl rfl | exact .inr rfl)))
  (ss_cons (s_ret (x_bfT (bf_tuple O) (by rfl) F.n_tuple (by rfl) (x_cons (x_comp (own := [("k", 4)]) rfl nd  (i_rng (by rfl) F.n_range (x_call (by exact FnE.mk (F.e__law_take hr)) tk (by rfl) F.g__law_take F.k__law_take (x_cons (x_var (i := 0) rfl (by first | exact .inl rfl | exact .inr (.inl rfl) | exact .inr (.inr rfl))) (x_cons (x_bin O (o := .add) (x_var (i := 2) rfl (by first | exact .inl rfl | exact .inr (.inl rfl) | exact .inr (.inr rfl))) x_int) x_nil)))) (blkOk_by (N := ["box", "grammar", "most", "words", "k"]) (sc := defScope (top 80)) (by decide +kernel)) (by decide) (fun _ _ _ _ _ => (g_nm nd rfl (by first | exact .inl rfl | exact .inr rfl) (by first | exact .inl rfl | exact .inr rfl))) (fun _ _ _ _ _ => .nil) (fun _ _ _ _ _ => (x_call (by exact FnE.mk (F.e__law_pick hr)) takes_none5 (by rfl) F.g__law_pick F.k__law_pick (x_cons (x_var (i := 0) rfl (by first | exact .inl rfl | exact .inr (.inl rfl) | exact .inr (.inr rfl))) (x_cons (x_ite (PW.pt (w_and (b_cmp (by exact O.of rfl rfl) (o := .gt) (x_bf (bf_len (by exact O.of rfl rfl)) (by rfl) F.n_len (by rfl) (x_cons (x_var (i := 3) rfl (by first | exact .inl rfl | exact .inr (.inl rfl) | exact .inr (.inr rfl))) x_nil)) x_int (nomark _)) (w_and1 (b_cmp (by exact O.of rfl rfl) (o := .gt) (x_call (by exact FnE.mk (F.e__law_take hr)) takes_none5 (by rfl) F.g__law_take F.k__law_take (x_cons (x_var (i := 0) rfl (by first | exact .inl rfl | exact .inr (.inl rfl) | exact .inr (.inr rfl))) (x_cons x_int x_nil))) x_int (nomark _))))) (x_slc (by exact O.of rfl rfl) (x_var (i := 3) rfl (by first | exact .inl rfl | exact .inr (.inl rfl) | exact .inr (.inr rfl))) o_none (o_some (x_neg x_int))) (x_var (i := 3) rfl (by first | exact .inl rfl | exact .inr (.inl rfl) | exact .inr (.inr rfl))) (fun _ _ => evB_eq _ _ _ _)) x_nil))))) x_nil)))
  ss_nil))
theorem sc__law_is_text : FnScope ["value", "most", "one"] ["value", "most"] (defScope (top 82)) := ⟨rfl, rfl, rfl, by decide +kernel, rfl, by decide +kernel, by decide +kernel⟩
theorem walk__law_is_text (F : Fx prog w K mg base k) {f : Addr} {cdv : Value} {A : Around} {outer : List PySem.Env} {s : Shared} {H : Hp} {E : XK} {n0 : Nat} (hr : Room (2 * k + 2) (A.deeper (envOfC "_law_is_text" (defScope (top 82)) s.heap.objs.size f cdv))) :
    XSs (Dw K) (cxOf (L2.CX prog w) prog w K mg base ["value", "most", "one"] "_law_is_text" (defScope (top 82)) f cdv A outer s H E) (wB E) ⟨runFn prg k, n0, prg.sub, prg.xi⟩ (defBody (top 82)) ir__law_is_text := by
  have nd : (["value", "most", "one"] : List Str).Nodup := sc__law_is_text.nd
  have O : Okx (Dw K) (cxOf (L2.CX prog w) prog w K mg base ["value", "most", "one"] "_law_is_text" (defScope (top 82)) f cdv A outer s H E) := ⟨rfl, by have := hr.un; show (A.deeper (envOfC "_law_is_text" (defScope (top 82)) s.heap.objs.size f cdv)).units + 190 < _; omega, F.cls⟩
  have tk : Takes (cxOf (L2.CX prog w) prog w K mg base ["value", "most", "one"] "_law_is_text" (defScope (top 82)) f cdv A outer s H E) (wB E) := takes_of rfl rfl rfl rfl
  have hp : PassesOwn (model prog w) (A.deeper (envOfC "_law_is_text" (defScope (top 82)) s.heap.objs.size f cdv)) (envOfC "_law_is_text" (defScope (top 82)) s.heap.objs.size f cdv) (cxOf (L2.CX prog w) prog w K mg base ["value", "most", "one"] "_law_is_text" (defScope (top 82)) f cdv A outer s H E).xe := passes_of rfl
  exact (ss_cons (s_ret (x_and O (x_isi O (y := .tuple) trivial (by rfl) F.n_isinstance (x_var (i := 0) rfl (by first | exact .inl rfl | exact .inr (.inl rfl) | exact .inr (.inr rfl))) (c_ty (by rfl) F.n_tuple (by rfl))) (x_and O (x_cmp O (o := .le) (x_bf (bf_len O) (by rfl) F.n_len (by rfl) (x_cons (x_var (i := 0) rfl (by first | exact .inl rfl | exact .inr (.inl rfl) | exact .inr (.inr rfl))) x_nil)) (x_var (i := 1) rfl (by first | exact .inl rfl | exact .inr (.inl rfl) | exact .inr (.inr rfl))) (nomark _)) (x_and1 (x_cmp O (o := .eq) (x_comp (own := [("one", 2)]) rfl nd  (i_e O (x_var (i := 0) rfl (by first | exact .inl rfl | exact .inr (.inl rfl) | exact .inr (.inr rfl)))) (blkOk_by (N := ["value", "most", "one"]) (sc := defScope (top 82)) (by decide +kernel)) (by decide) (fun _ _ _ _ _ => (g_nm nd rfl (by first | exact .inl rfl | exact .inr rfl) (by first | exact .inl rfl | exact .inr rfl))) (fun _ _ _ _ _ => (.one (b_not (b_val (by exact O.of rfl rfl) (x_call (by exact FnE.mk (F.e__law_is_word hr)) takes_none5 (by rfl) F.g__law_is_word F.k__law_is_word (x_cons (x_var (i := 2) rfl (by first | exact .inl rfl | exact .inr (.inl rfl) | exact .inr (.inr rfl))) x_nil)))))) (fun _ _ _ _ _ => (x_var (i := 2) rfl (by first | exact .inl rfl | exact .inr (.inl rfl) | exact .inr (.inr rfl))))) (x_lst (m := false) x_nil) (nomark _))))))
  ss_nil)
theorem sc__law_claim_form : FnScope ["claim"] ["claim"] (defScope (top 83)) := ⟨rfl, rfl, rfl, by decide +kernel, rfl, by decide +kernel, by decide +kernel⟩
theorem walk__law_claim_form (F : Fx prog w K mg base k) {f : Addr} {cdv : Value} {A : Around} {outer : List PySem.Env} {s : Shared} {H : Hp} {E : XK} {n0 : Nat} (hr : Room (2 * k + 2) (A.deeper (envOfC "_law_claim_form" (defScope (top 83)) s.heap.objs.size f cdv))) :
    XSs (Dw K) (cxOf (L2.CX prog w) prog w K mg base ["claim"] "_law_claim_form" (defScope (top 83)) f cdv A outer s H E) (wB E) ⟨runFn prg k, n0, prg.sub, prg.xi⟩ (defBody (top 83)) ir__law_claim_form := by
  have nd : (["claim"] : List Str).Nodup := sc__law_claim_form.nd
  have O : Okx (Dw K) (cxOf (L2.CX prog w) prog w K mg base ["claim"] "_law_claim_form" (defScope (top 83)) f cdv A outer s H E) := ⟨rfl, by have := hr.un; show (A.deeper (envOfC "_law_claim_form" (defScope (top 83)) s.heap.objs.size f cdv)).units + 190 < _; omega, F.cls⟩
  have tk : Takes (cxOf (L2.CX prog w) prog w K mg base ["claim"] "_law_claim_form" (defScope (top 83)) f cdv A outer s H E) (wB E) := takes_of rfl rfl rfl rfl
  have hp : PassesOwn (model prog w) (A.deeper (envOfC "_law_claim_form" (defScope (top 83)) s.heap.objs.size f cdv)) (envOfC "_law_claim_form" (defScope (top 83)) s.heap.objs.size f cdv) (cxOf (L2.CX prog w) prog w K mg base ["claim"] "_law_claim_form" (defScope (top 83)) f cdv A outer s H E).xe := passes_of rfl
  exact (ss_cons (s_if (PW.pt (w_or (b_not (b_val O (x_isi O (y := .tuple) trivial (by rfl) F.n_isinstance (x_var (i := 0) rfl (by first | exact .inl rfl | exact .inr (.inl rfl) | exact .inr (.inr rfl))) (c_ty (by rfl) F.n_tuple (by rfl))))) (w_or (b_cmp O (o := .eq) (x_var (i := 0) rfl (by first | exact .inl rfl | exact .inr (.inl rfl) | exact .inr (.inr rfl))) (x_tup x_nil) (nomark _)) (w_or1 (b_not (b_val O (x_isi O (y := .str) trivial (by rfl) F.n_isinstance (x_idx O (x_var (i := 0) rfl (by first | exact .inl rfl | exact .inr (.inl rfl) | exact .inr (.inr rfl))) x_int) (c_ty (by rfl) F.n_str (by rfl))))))))) (ss_cons (s_ret x_bl)
  ss_nil) ss_nil)
  (ss_cons (s_if (b_cmp O (o := .isin) (x_idx O (x_var (i := 0) rfl (by first | exact .inl rfl | exact .inr (.inl rfl) | exact .inr (.inr rfl))) x_int) (x_lst (m := false) (x_cons x_str (x_cons x_str x_nil))) (by with_unfolding_all rfl)) (ss_cons (s_ret (x_and O (x_cmp O (o := .eq) (x_bf (bf_len O) (by rfl) F.n_len (by rfl) (x_cons (x_var (i := 0) rfl (by first | exact .inl rfl | exact .inr (.inl rfl) | exact .inr (.inr rfl))) x_nil)) x_int (nomark _)) (x_and1 (x_call (by exact FnE.mk (F.e__law_is_text hr)) tk (by rfl) F.g__law_is_text F.k__law_is_text (x_cons (x_idx O (x_var (i := 0) rfl (by first | exact .inl rfl | exact .inr (.inl rfl) | exact .inr (.inr rfl))) x_int) (x_cons x_int x_nil))))))
  ss_nil) ss_nil)
  (ss_cons (s_if (b_cmp O (o := .eq) (x_idx O (x_var (i := 0) rfl (by first | exact .inl rfl | exact .inr (.inl rfl) | exact .inr (.inr rfl))) x_int) x_str (nomark _)) (ss_cons (s_ret (x_and O (x_cmp O (o := .eq) (x_bf (bf_len O) (by rfl) F.n_len (by rfl) (x_cons (x_var (i := 0) rfl (by first | exact .inl rfl | exact .inr (.inl rfl) | exact .inr (.inr rfl))) x_nil)) x_int (nomark _)) (x_and O (x_call (by exact FnE.mk (F.e__law_is_text hr)) tk (by rfl) F.g__law_is_text F.k__law_is_text (x_cons (x_idx O (x_var (i := 0) rfl (by first | exact .inl rfl | exact .inr (.inl rfl) | exact .inr (.inr rfl))) x_int) (x_cons x_int x_nil))) (x_and O (x_call (by exact FnE.mk (F.e__law_whole hr)) tk (by rfl) F.g__law_whole F.k__law_whole (x_cons (x_idx O (x_var (i := 0) rfl (by first | exact .inl rfl | exact .inr (.inl rfl) | exact .inr (.inr rfl))) x_int) x_nil)) (x_and1 (x_cmp O (o := .ge) (x_idx O (x_var (i := 0) rfl (by first | exact .inl rfl | exact .inr (.inl rfl) | exact .inr (.inr rfl))) x_int) x_int (nomark _)))))))
  ss_nil) ss_nil)
  (ss_cons (s_if (b_cmp O (o := .eq) (x_idx O (x_var (i := 0) rfl (by first | exact .inl rfl | exact .inr (.inl rfl) | exact .inr (.inr rfl))) x_int) x_str (nomark _)) (ss_cons (s_ret (x_and O (x_cmp O (o := .eq) (x_bf (bf_len O) (by rfl) F.n_len (by rfl) (x_cons (x_var (i := 0) rfl (by first | exact .inl rfl | exact .inr (.inl rfl) | exact .inr (.inr rfl))) x_nil)) x_int (nomark _)) (x_and O (x_call (by exact FnE.mk (F.e__law_whole hr)) tk (by rfl) F.g__law_whole F.k__law_whole (x_cons (x_idx O (x_var (i := 0) rfl (by first | exact .inl rfl | exact .inr (.inl rfl) | exact .inr (.inr rfl))) x_int) x_nil)) (x_and1 (x_cmp O (o := .ge) (x_idx O (x_var (i := 0) rfl (by first | exact .inl rfl | exact .inr (.inl rfl) | exact .inr (.inr rfl))) x_int) x_int (nomark _))))))
  ss_nil) ss_nil)
  (ss_cons (s_ret (x_and O (x_cmp O (o := .isin) (x_idx O (x_var (i := 0) rfl (by first | exact .inl rfl | exact .inr (.inl rfl) | exact .inr (.inr rfl))) x_int) (x_lst (m := false) (x_cons x_str (x_cons x_str x_nil))) (by with_unfolding_all rfl)) (x_and1 (x_cmp O (o := .eq) (x_bf (bf_len O) (by rfl) F.n_len (by rfl) (x_cons (x_var (i := 0) rfl (by first | exact .inl rfl | exact .inr (.inl rfl) | exact .inr (.inr rfl))) x_nil)) x_int (nomark _)))))
  ss_nil)))))
theorem sc__law_is_question : FnScope ["value"] ["value"] (defScope (top 84)) := ⟨rfl, rfl, rfl, by decide +kernel, rfl, by decide +kernel, by decide +kernel⟩
theorem walk__law_is_question (F : Fx prog w K mg base k) {f : Addr} {cdv : Value} {A : Around} {outer : List PySem.Env} {s : Shared} {H : Hp} {E : XK} {n0 : Nat} (hr : Room (2 * k + 2) (A.deeper (envOfC "_law_is_question" (defScope (top 84)) s.heap.objs.size f cdv))) :
    XSs (Dw K) (cxOf (L2.CX prog w) prog w K mg base ["value"] "_law_is_question" (defScope (top 84)) f cdv A outer s H E) (wB E) ⟨runFn prg k, n0, prg.sub, prg.xi⟩ (defBody (top 84)) ir__law_is_question := by
  have nd : (["value"] : List Str).Nodup := sc__law_is_question.nd
  have O : Okx (Dw K) (cxOf (L2.CX prog w) prog w K mg base ["value"] "_law_is_question" (defScope (top 84)) f cdv A outer s H E) := ⟨rfl, by have := hr.un; show (A.deeper (envOfC "_law_is_question" (defScope (top 84)) s.heap.objs.size f cdv)).units + 190 < _; omega, F.cls⟩
  have tk : Takes (cxOf (L2.CX prog w) prog w K mg base ["value"] "_law_is_question" (defScope (top 84)) f cdv A outer s H E) (wB E) := takes_of rfl rfl rfl rfl
  have hp : PassesOwn (model prog w) (A.deeper (envOfC "_law_is_question" (defScope (top 84)) s.heap.objs.size f cdv)) (envOfC "_law_is_question" (defScope (top 84)) s.heap.objs.size f cdv) (cxOf (L2.CX prog w) prog w K mg base ["value"] "_law_is_question" (defScope (top 84)) f cdv A outer s H E).xe := passes_of rfl
  exact (ss_cons (s_if (PW.pt (w_or (b_not (b_val O (x_isi O (y := .tuple) trivial (by rfl) F.n_isinstance (x_var (i := 0) rfl (by first | exact .inl rfl | exact .inr (.inl rfl) | exact .inr (.inr rfl))) (c_ty (by rfl) F.n_tuple (by rfl))))) (w_or (b_cmp O (o := .eq) (x_var (i := 0) rfl (by first | exact .inl rfl | exact .inr (.inl rfl) | exact .inr (.inr rfl))) (x_tup x_nil) (nomark _)) (w_or1 (b_not (b_val O (x_isi O (y := .str) trivial (by rfl) F.n_isinstance (x_idx O (x_var (i := 0) rfl (by first | exact .inl rfl | exact .inr (.inl rfl) | exact .inr (.inr rfl))) x_int) (c_ty (by rfl) F.n_str (by rfl))))))))) (ss_cons (s_ret x_bl)
  ss_nil) ss_nil)
  (ss_cons (s_if (b_cmp O (o := .eq) (x_idx O (x_var (i := 0) rfl (by first | exact .inl rfl | exact .inr (.inl rfl) | exact .inr (.inr rfl))) x_int) x_str (nomark _)) (ss_cons (s_ret (x_cmp O (o := .eq) (x_bf (bf_len O) (by rfl) F.n_len (by rfl) (x_cons (x_var (i := 0) rfl (by first | exact .inl rfl | exact .inr (.inl rfl) | exact .inr (.inr rfl))) x_nil)) x_int (nomark _)))
  ss_nil) ss_nil)
  (ss_cons (s_ret (x_and O (x_cmp O (o := .isin) (x_idx O (x_var (i := 0) rfl (by first | exact .inl rfl | exact .inr (.inl rfl) | exact .inr (.inr rfl))) x_int) (x_lst (m := false) (x_cons x_str (x_cons x_str x_nil))) (by with_unfolding_all rfl)) (x_and O (x_cmp O (o := .eq) (x_bf (bf_len O) (by rfl) F.n_len (by rfl) (x_cons (x_var (i := 0) rfl (by first | exact .inl rfl | exact .inr (.inl rfl) | exact .inr (.inr rfl))) x_nil)) x_int (nomark _)) (x_and1 (x_call (by exact FnE.mk (F.e__law_is_text hr)) tk (by rfl) F.g__law_is_text F.k__law_is_text (x_cons (x_idx O (x_var (i := 0) rfl (by first | exact .inl rfl | exact .inr (.inl rfl) | exact .inr (.inr rfl))) x_int) (x_cons x_int x_nil)))))))
  ss_nil)))
theorem sc__law_asked : FnScope ["claim"] ["claim"] (defScope (top 85)) := ⟨rfl, rfl, rfl, by decide +kernel, rfl, by decide +kernel, by decide +kernel⟩
theorem walk__law_asked (F : Fx prog w K mg base k) {f : Addr} {cdv : Value} {A : Around} {outer : List PySem.Env} {s : Shared} {H : Hp} {E : XK} {n0 : Nat} (hr : Room (2 * k + 2) (A.deeper (envOfC "_law_asked" (defScope (top 85)) s.heap.objs.size f cdv))) :
    XSs (Dw K) (cxOf (L2.CX prog w) prog w K mg base ["claim"] "_law_asked" (defScope (top 85)) f cdv A outer s H E) (wB E) ⟨runFn prg k, n0, prg.sub, prg.xi⟩ (defBody (top 85)) ir__law_asked := by
  have nd : (["claim"] : List Str).Nodup := sc__law_asked.nd
  have O : Okx (Dw K) (cxOf (L2.CX prog w) prog w K mg base ["claim"] "_law_asked" (defScope (top 85)) f cdv A outer s H E) := ⟨rfl, by have := hr.un; show (A.deeper (envOfC "_law_asked" (defScope (top 85)) s.heap.objs.size f cdv)).units + 190 < _; omega, F.cls⟩
  have tk : Takes (cxOf (L2.CX prog w) prog w K mg base ["claim"] "_law_asked" (defScope (top 85)) f cdv A outer s H E) (wB E) := takes_of rfl rfl rfl rfl
  have hp : PassesOwn (model prog w) (A.deeper (envOfC "_law_asked" (defScope (top 85)) s.heap.objs.size f cdv)) (envOfC "_law_asked" (defScope (top 85)) s.heap.objs.size f cdv) (cxOf (L2.CX prog w) prog w K mg base ["claim"] "_law_asked" (defScope (top 85)) f cdv A outer s H E).xe := passes_of rfl
  exact (ss_cons (s_if (b_cmp O (o := .isin) (x_idx O (x_var (i := 0) rfl (by first | exact .inl rfl | exact .inr (.inl rfl) | exact .inr (.inr rfl))) x_int) (x_lst (m := false) (x_cons x_str (x_cons x_str x_nil))) (by with_unfolding_all rfl)) (ss_cons (s_ret (x_tup (x_cons x_str (x_cons (x_idx O (x_var (i := 0) rfl (by first | exact .inl rfl | exact .inr (.inl rfl) | exact .inr (.inr rfl))) x_int) x_nil))))
  ss_nil) ss_nil)
  (ss_cons (s_ret (x_ite (b_cmp O (o := .eq) (x_idx O (x_var (i := 0) rfl (by first | exact .inl rfl | exact .inr (.inl rfl) | exact .inr (.inr rfl))) x_int) x_str (nomark _)) (x_slc O (x_var (i := 0) rfl (by first | exact .inl rfl | exact .inr (.inl rfl) | exact .inr (.inr rfl))) o_none (o_some x_int)) (x_tup (x_cons x_str x_nil)) (fun _ _ => evB_eq _ _ _ _)))
  ss_nil))
theorem sc__law_error : FnScope ["kind", "made", "value", "e"] ["kind", "made", "value"] (defScope (top 86)) := ⟨rfl, rfl, rfl, by decide +kernel, rfl, by decide +kernel, by decide +kernel⟩
theorem walk__law_error (F : Fx prog w K mg base k) {f : Addr} {cdv : Value} {A : Around} {outer : List PySem.Env} {s : Shared} {H : Hp} {E : XK} {n0 : Nat} (hr : Room (2 * k + 2) (A.deeper (envOfC "_law_error" (defScope (top 86)) s.heap.objs.size f cdv))) :
    XSs (Dw K) (cxOf (L2.CX prog w) prog w K mg base ["kind", "made", "value", "e"] "_law_error" (defScope (top 86)) f cdv A outer s H E) (wB E) ⟨runFn prg k, n0, prg.sub, prg.xi⟩ (defBody (top 86)) ir__law_error := by
  have nd : (["kind", "made", "value", "e"] : List Str).Nodup := sc__law_error.nd
  have O : Okx (Dw K) (cxOf (L2.CX prog w) prog w K mg base ["kind", "made", "value", "e"] "_law_error" (defScope (top 86)) f cdv A outer s H E) := ⟨rfl, by have := hr.un; show (A.deeper (envOfC "_law_error" (defScope (top 86)) s.heap.objs.size f cdv)).units + 190 < _; omega, F.cls⟩
  have tk : Takes (cxOf (L2.CX prog w) prog w K mg base ["kind", "made", "value", "e"] "_law_error" (defScope (top 86)) f cdv A outer s H E) (wB E) := takes_of rfl rfl rfl rfl
  have hp : PassesOwn (model prog w) (A.deeper (envOfC "_law_error" (defScope (top 86)) s.heap.objs.size f cdv)) (envOfC "_law_error" (defScope (top 86)) s.heap.objs.size f cdv) (cxOf (L2.CX prog w) prog w K mg base ["kind", "made", "value", "e"] "_law_error" (defScope (top 86)) f cdv A outer s H E).xe := passes_of rfl
  exact (ss_cons (s_try rfl rfl nd tk (fun W2 pn xe tk2 hp2 => (ss_cons (s_if (b_cmp (by exact O.of rfl rfl) (o := .eq) (x_var (i := 0) rfl (by first | exact .inl rfl | exact .inr (.inl rfl) | exact .inr (.inr rfl))) x_int (nomark _)) (ss_cons (s_ex (x_call (by exact FnE.mk (F.e_answer_of hr)) tk2 (by rfl) F.g_answer_of F.k_answer_of (x_cons (x_var (i := 1) rfl (by first | exact .inl rfl | exact .inr (.inl rfl) | exact .inr (.inr rfl))) (x_cons (x_var (i := 2) rfl (by first | exact .inl rfl | exact .inr (.inl rfl) | exact .inr (.inr rfl))) x_nil))))
  ss_nil) (ss_cons (s_if (b_cmp (by exact O.of rfl rfl) (o := .eq) (x_var (i := 0) rfl (by first | exact .inl rfl | exact .inr (.inl rfl) | exact .inr (.inr rfl))) x_int (nomark _)) (ss_cons (s_ex (x_call (by exact FnE.mk (F.e_paper_of hr)) tk2 (by rfl) F.g_paper_of F.k_paper_of (x_cons (x_var (i := 1) rfl (by first | exact .inl rfl | exact .inr (.inl rfl) | exact .inr (.inr rfl))) (x_cons (x_var (i := 2) rfl (by first | exact .inl rfl | exact .inr (.inl rfl) | exact .inr (.inr rfl))) x_nil))))
  ss_nil) (ss_cons (s_ex (x_call (by exact FnE.mk (F.e_question_of hr)) tk2 (by rfl) F.g_question_of F.k_question_of (x_cons (x_var (i := 1) rfl (by first | exact .inl rfl | exact .inr (.inl rfl) | exact .inr (.inr rfl))) (x_cons (x_var (i := 2) rfl (by first | exact .inl rfl | exact .inr (.inl rfl) | exact .inr (.inr rfl))) x_nil))))
  ss_nil))
  ss_nil))
  ss_nil)) (.cons (i := 3) rfl rfl ⟨rfl, by decide, .inl F.g_InvalidQuestion⟩ F.y_InvalidQuestion (fun a oe cls d pn hz hfl => (ss_cons (s_retF (x_tup (x_cons x_str (x_cons (x_fle F.xf_value hz hfl (x_var (i := 3) rfl (by first | exact .inl rfl | exact .inr (.inl rfl) | exact .inr (.inr rfl)))) x_nil))))
  ss_nil)) (.cons (i := 3) rfl rfl ⟨rfl, by decide, .inl F.g_InvalidClaim⟩ F.y_InvalidClaim (fun a oe cls d pn hz hfl => (ss_cons (s_retF (x_tup (x_cons x_str (x_cons (x_fle F.xf_value hz hfl (x_var (i := 3) rfl (by first | exact .inl rfl | exact .inr (.inl rfl) | exact .inr (.inr rfl)))) x_nil))))
  ss_nil)) .nil)))
  (ss_cons (s_ret (x_tup (x_cons x_str (x_cons x_non x_nil))))
  ss_nil))
end
end LW
end
section
set_option maxRecDepth 100000
set_option maxHeartbeats 4000000
namespace LW
open PySem PySem.Spec PyProof.Rows L2 PS
section
variable {prog : Program} {w : World} {K : PySem.W.Frag} {mg : Str → Option Value} {base : Heap} {k : Nat}
structure Ih (prog : Program) (w : World) (K : PySem.W.Frag) (mg : Str → Option Value) (base : Heap) (k : Nat) : Prop where
  h_is_integer : ∃ fd ps, FnOk prog w K mg base (L2.CX prog w) (2 * k + 1) (He.fAd K ("is_integer", none)) fd ps (spR (Dw K) (runFn prg k 0)) ∧ Binds K fd ps []
  h_is_integer_in : ∃ fd ps, FnOk prog w K mg base (L2.CX prog w) (2 * k + 1) (He.fAd K ("is_integer_in", none)) fd ps (spR (Dw K) (runFn prg k 1)) ∧ Binds K fd ps []
  h_is_word : ∃ fd ps, FnOk prog w K mg base (L2.CX prog w) (2 * k + 1) (He.fAd K ("is_word", none)) fd ps (spR (Dw K) (runFn prg k 2)) ∧ Binds K fd ps []
  h_reached : ∃ fd ps, FnOk prog w K mg base (L2.CX prog w) (2 * k + 1) (He.fAd K ("reached", none)) fd ps (spR (Dw K) (runFn prg k 3)) ∧ Binds K fd ps []
  h_least_back : ∃ fd ps, FnOk prog w K mg base (L2.CX prog w) (2 * k + 1) (He.fAd K ("least_back", none)) fd ps (spR (Dw K) (runFn prg k 4)) ∧ Binds K fd ps []
  h_is_rule : ∃ fd ps, FnOk prog w K mg base (L2.CX prog w) (2 * k + 1) (He.fAd K ("is_rule", none)) fd ps (spR (Dw K) (runFn prg k 5)) ∧ Binds K fd ps []
  h_single_steps : ∃ fd ps, FnOk prog w K mg base (L2.CX prog w) (2 * k + 1) (He.fAd K ("single_steps", none)) fd ps (spR (Dw K) (runFn prg k 6)) ∧ Binds K fd ps []
  h_Pairsx_initx : ∃ fd ps, FnOk prog w K mg base (L2.CX prog w) (2 * k + 1) (He.fAd K ("Pairs", some "__init__")) fd ps (spR (Dw K) (runFn prg k 7)) ∧ Binds K fd ps []
  h_Pairsx_eqx : ∃ fd ps, FnOk prog w K mg base (L2.CX prog w) (2 * k + 1) (He.fAd K ("Pairs", some "__eq__")) fd ps (spR (Dw K) (runFn prg k 8)) ∧ Binds K fd ps []
  h__law_box : ∃ fd ps, FnOk prog w K mg base (L2.CX prog w) (2 * k + 1) (He.fAd K ("_law_box", none)) fd ps (spR (Dw K) (runFn prg k 9)) ∧ Binds K fd ps []
  h__law_take : ∃ fd ps, FnOk prog w K mg base (L2.CX prog w) (2 * k + 1) (He.fAd K ("_law_take", none)) fd ps (spR (Dw K) (runFn prg k 10)) ∧ Binds K fd ps []
  h__law_pick : ∃ fd ps, FnOk prog w K mg base (L2.CX prog w) (2 * k + 1) (He.fAd K ("_law_pick", none)) fd ps (spR (Dw K) (runFn prg k 11)) ∧ Binds K fd ps []
  h__law_whole : ∃ fd ps, FnOk prog w K mg base (L2.CX prog w) (2 * k + 1) (He.fAd K ("_law_whole", none)) fd ps (spR (Dw K) (runFn prg k 12)) ∧ Binds K fd ps []
  h__law_is_due : ∃ fd ps, FnOk prog w K mg base (L2.CX prog w) (2 * k + 1) (He.fAd K ("_law_is_due", none)) fd ps (spR (Dw K) (runFn prg k 14)) ∧ Binds K fd ps []
  h__law_spoilt : ∃ fd ps, FnOk prog w K mg base (L2.CX prog w) (2 * k + 1) (He.fAd K ("_law_spoilt", none)) fd ps (spR (Dw K) (runFn prg k 15)) ∧ Binds K fd ps []
  h__law_shuffled : ∃ fd ps, FnOk prog w K mg base (L2.CX prog w) (2 * k + 1) (He.fAd K ("_law_shuffled", none)) fd ps (spR (Dw K) (runFn prg k 16)) ∧ Binds K fd ps []
  h__law_back_kind : ∃ fd ps, FnOk prog w K mg base (L2.CX prog w) (2 * k + 1) (He.fAd K ("_law_back_kind", none)) fd ps (spR (Dw K) (runFn prg k 17)) ∧ Binds K fd ps []
  h__law_unary : ∃ fd ps, FnOk prog w K mg base (L2.CX prog w) (2 * k + 1) (He.fAd K ("_law_unary", none)) fd ps (spR (Dw K) (runFn prg k 18)) ∧ Binds K fd ps []
  h__law_grammar : ∃ fd ps, FnOk prog w K mg base (L2.CX prog w) (2 * k + 1) (He.fAd K ("_law_grammar", none)) fd ps (spR (Dw K) (runFn prg k 19)) ∧ Binds K fd ps []
  h__law_made : ∃ fd ps, FnOk prog w K mg base (L2.CX prog w) (2 * k + 1) (He.fAd K ("_law_made", none)) fd ps (spR (Dw K) (runFn prg k 20)) ∧ Binds K fd ps []
  h__law_is_word : ∃ fd ps, FnOk prog w K mg base (L2.CX prog w) (2 * k + 1) (He.fAd K ("_law_is_word", none)) fd ps (spR (Dw K) (runFn prg k 21)) ∧ Binds K fd ps []
  h_law : ∃ fd ps, FnOk prog w K mg base (L2.CX prog w) (2 * k + 1) (He.fAd K ("law", none)) fd ps (spR (Dw K) (runFn prg k 25)) ∧ Binds K fd ps []
  h_is_text : ∃ fd ps, FnOk prog w K mg base (L2.CX prog w) (2 * k + 1) (He.fAd K ("is_text", none)) fd ps (spR (Dw K) (runFn prg k 26)) ∧ Binds K fd ps []
  h_has_word : ∃ fd ps, FnOk prog w K mg base (L2.CX prog w) (2 * k + 1) (He.fAd K ("has_word", none)) fd ps (spR (Dw K) (runFn prg k 27)) ∧ Binds K fd ps []
  h_is_number : ∃ fd ps, FnOk prog w K mg base (L2.CX prog w) (2 * k + 1) (He.fAd K ("is_number", none)) fd ps (spR (Dw K) (runFn prg k 28)) ∧ Binds K fd ps []
  h_is_question : ∃ fd ps, FnOk prog w K mg base (L2.CX prog w) (2 * k + 1) (He.fAd K ("is_question", none)) fd ps (spR (Dw K) (runFn prg k 29)) ∧ Binds K fd ps []
  h_is_claim : ∃ fd ps, FnOk prog w K mg base (L2.CX prog w) (2 * k + 1) (He.fAd K ("is_claim", none)) fd ps (spR (Dw K) (runFn prg k 30)) ∧ Binds K fd ps []
  h_question_of : ∃ fd ps, FnOk prog w K mg base (L2.CX prog w) (2 * k + 1) (He.fAd K ("question_of", none)) fd ps (spR (Dw K) (runFn prg k 31)) ∧ Binds K fd ps []
  h_answer_of : ∃ fd ps, FnOk prog w K mg base (L2.CX prog w) (2 * k + 1) (He.fAd K ("answer_of", none)) fd ps (spR (Dw K) (runFn prg k 32)) ∧ Binds K fd ps []
  h_paper_of : ∃ fd ps, FnOk prog w K mg base (L2.CX prog w) (2 * k + 1) (He.fAd K ("paper_of", none)) fd ps (spR (Dw K) (runFn prg k 33)) ∧ Binds K fd ps []
  h__law_words : ∃ fd ps, FnOk prog w K mg base (L2.CX prog w) (2 * k + 1) (He.fAd K ("_law_words", none)) fd ps (spR (Dw K) (runFn prg k 34)) ∧ Binds K fd ps []
  h__law_drawn_text : ∃ fd ps, FnOk prog w K mg base (L2.CX prog w) (2 * k + 1) (He.fAd K ("_law_drawn_text", none)) fd ps (spR (Dw K) (runFn prg k 35)) ∧ Binds K fd ps []
  h__law_is_text : ∃ fd ps, FnOk prog w K mg base (L2.CX prog w) (2 * k + 1) (He.fAd K ("_law_is_text", none)) fd ps (spR (Dw K) (runFn prg k 36)) ∧ Binds K fd ps []
  h__law_claim_form : ∃ fd ps, FnOk prog w K mg base (L2.CX prog w) (2 * k + 1) (He.fAd K ("_law_claim_form", none)) fd ps (spR (Dw K) (runFn prg k 37)) ∧ Binds K fd ps []
  h__law_is_question : ∃ fd ps, FnOk prog w K mg base (L2.CX prog w) (2 * k + 1) (He.fAd K ("_law_is_question", none)) fd ps (spR (Dw K) (runFn prg k 38)) ∧ Binds K fd ps []
  h__law_asked : ∃ fd ps, FnOk prog w K mg base (L2.CX prog w) (2 * k + 1) (He.fAd K ("_law_asked", none)) fd ps (spR (Dw K) (runFn prg k 39)) ∧ Binds K fd ps []
  h__law_error : ∃ fd ps, FnOk prog w K mg base (L2.CX prog w) (2 * k + 1) (He.fAd K ("_law_error", none)) fd ps (spR (Dw K) (runFn prg k 40)) ∧ Binds K fd ps []
end
def fnL : List He.DefD := [
  ⟨("is_integer", none), "is_integer", "is_integer", defArgs (top 13), defBody (top 13), defScope (top 13), [], []⟩,
  ⟨("is_integer_in", none), "is_integer_in", "is_integer_in", defArgs (top 14), defBody (top 14), defScope (top 14), [], []⟩,
  ⟨("is_word", none), "is_word", "is_word", defArgs (top 15), defBody (top 15), defScope (top 15), [], []⟩,
  ⟨("reached", none), "reached", "reached", defArgs (top 17), defBody (top 17), defScope (top 17), [], []⟩,
  ⟨("least_back", none), "least_back", "least_back", defArgs (top 18), defBody (top 18), defScope (top 18), [], []⟩,
  ⟨("is_rule", none), "is_rule", "is_rule", defArgs (top 23), defBody (top 23), defScope (top 23), [], []⟩,
  ⟨("single_steps", none), "single_steps", "single_steps", defArgs (top 24), defBody (top 24), defScope (top 24), [], []⟩,
  ⟨("Pairs", some "__init__"), "__init__", "Pairs.__init__", defArgs (mth 25 0), defBody (mth 25 0), defScope (mth 25 0), [], []⟩,
  ⟨("Pairs", some "__eq__"), "__eq__", "Pairs.__eq__", defArgs (mth 25 1), defBody (mth 25 1), defScope (mth 25 1), [], []⟩,
  ⟨("_law_box", none), "_law_box", "_law_box", defArgs (top 68), defBody (top 68), defScope (top 68), [], []⟩,
  ⟨("_law_take", none), "_law_take", "_law_take", defArgs (top 69), defBody (top 69), defScope (top 69), [], []⟩,
  ⟨("_law_pick", none), "_law_pick", "_law_pick", defArgs (top 70), defBody (top 70), defScope (top 70), [], []⟩,
  ⟨("_law_whole", none), "_law_whole", "_law_whole", defArgs (top 71), defBody (top 71), defScope (top 71), [], []⟩,
  ⟨("_law_is_due", none), "_law_is_due", "_law_is_due", defArgs (top 72), defBody (top 72), defScope (top 72), [], []⟩,
  ⟨("_law_spoilt", none), "_law_spoilt", "_law_spoilt", defArgs (top 73), defBody (top 73), defScope (top 73), [], []⟩,
  ⟨("_law_shuffled", none), "_law_shuffled", "_law_shuffled", defArgs (top 74), defBody (top 74), defScope (top 74), [], []⟩,
  ⟨("_law_back_kind", none), "_law_back_kind", "_law_back_kind", defArgs (top 75), defBody (top 75), defScope (top 75), [], []⟩,
  ⟨("_law_unary", none), "_law_unary", "_law_unary", defArgs (top 76), defBody (top 76), defScope (top 76), [], []⟩,
  ⟨("_law_grammar", none), "_law_grammar", "_law_grammar", defArgs (top 77), defBody (top 77), defScope (top 77), [], []⟩,
  ⟨("_law_made", none), "_law_made", "_law_made", defArgs (top 78), defBody (top 78), defScope (top 78), [], []⟩,
  ⟨("_law_is_word", none), "_law_is_word", "_law_is_word", defArgs (top 81), defBody (top 81), defScope (top 81), [], []⟩,
  ⟨("law", none), "law", "law", defArgs (top 87), defBody (top 87), defScope (top 87), [], []⟩,
  ⟨("is_text", none), "is_text", "is_text", defArgs (top 16), defBody (top 16), defScope (top 16), [], []⟩,
  ⟨("has_word", none), "has_word", "has_word", defArgs (top 59), defBody (top 59), defScope (top 59), [], []⟩,
  ⟨("is_number", none), "is_number", "is_number", defArgs (top 60), defBody (top 60), defScope (top 60), [], []⟩,
  ⟨("is_question", none), "is_question", "is_question", defArgs (top 61), defBody (top 61), defScope (top 61), [], []⟩,
  ⟨("is_claim", none), "is_claim", "is_claim", defArgs (top 62), defBody (top 62), defScope (top 62), [], []⟩,
  ⟨("question_of", none), "question_of", "question_of", defArgs (top 63), defBody (top 63), defScope (top 63), [], []⟩,
  ⟨("answer_of", none), "answer_of", "answer_of", defArgs (top 64), defBody (top 64), defScope (top 64), [], []⟩,
  ⟨("paper_of", none), "paper_of", "paper_of", defArgs (top 66), defBody (top 66), defScope (top 66), [], []⟩,
  ⟨("_law_words", none), "_law_words", "_law_words", defArgs (top 79), defBody (top 79), defScope (top 79), [], []⟩,
  ⟨("_law_drawn_text", none), "_law_drawn_text", "_law_drawn_text", defArgs (top 80), defBody (top 80), defScope (top 80), [], []⟩,
  ⟨("_law_is_text", none), "_law_is_text", "_law_is_text", defArgs (top 82), defBody (top 82), defScope (top 82), [], []⟩,
  ⟨("_law_claim_form", none), "_law_claim_form", "_law_claim_form", defArgs (top 83), defBody (top 83), defScope (top 83), [], []⟩,
  ⟨("_law_is_question", none), "_law_is_question", "_law_is_question", defArgs (top 84), defBody (top 84), defScope (top 84), [], []⟩,
  ⟨("_law_asked", none), "_law_asked", "_law_asked", defArgs (top 85), defBody (top 85), defScope (top 85), [], []⟩,
  ⟨("_law_error", none), "_law_error", "_law_error", defArgs (top 86), defBody (top 86), defScope (top 86), [], []⟩,
  ⟨("InvalidNumber", some "__init__"), "__init__", "InvalidNumber.__init__", defArgs (mth 2 0), defBody (mth 2 0), defScope (mth 2 0), [], []⟩,
  ⟨("InvalidRules", some "__init__"), "__init__", "InvalidRules.__init__", defArgs (mth 3 0), defBody (mth 3 0), defScope (mth 3 0), [], []⟩,
  ⟨("Endless", some "__init__"), "__init__", "Endless.__init__", defArgs (mth 7 0), defBody (mth 7 0), defScope (mth 7 0), [], []⟩,
  ⟨("InvalidText", some "__init__"), "__init__", "InvalidText.__init__", defArgs (mth 4 0), defBody (mth 4 0), defScope (mth 4 0), [], []⟩,
  ⟨("InvalidQuestion", some "__init__"), "__init__", "InvalidQuestion.__init__", defArgs (mth 5 0), defBody (mth 5 0), defScope (mth 5 0), [], []⟩,
  ⟨("InvalidClaim", some "__init__"), "__init__", "InvalidClaim.__init__", defArgs (mth 6 0), defBody (mth 6 0), defScope (mth 6 0), [], []⟩,
  ⟨("Undefined", some "__init__"), "__init__", "Undefined.__init__", defArgs (mth 8 0), defBody (mth 8 0), defScope (mth 8 0), [], []⟩]
def faL : List He.Fa := [.glo "is_integer", .keep "is_integer", .glo "is_integer_in", .keep "is_integer_in", .glo "is_word", .keep "is_word", .glo "reached", .keep "reached", .glo "least_back", .keep "least_back", .glo "is_rule", .keep "is_rule", .glo "single_steps", .keep "single_steps", .glo "_law_box", .keep "_law_box", .glo "_law_take", .keep "_law_take", .glo "_law_pick", .keep "_law_pick", .glo "_law_whole", .keep "_law_whole", .glo "_law_is_due", .keep "_law_is_due", .glo "_law_spoilt", .keep "_law_spoilt", .glo "_law_shuffled", .keep "_law_shuffled", .glo "_law_back_kind", .keep "_law_back_kind", .glo "_law_unary", .keep "_law_unary", .glo "_law_grammar", .keep "_law_grammar", .glo "_law_made", .keep "_law_made", .glo "_law_is_word", .keep "_law_is_word", .glo "law", .keep "law"] ++ [.glo "is_text", .keep "is_text", .glo "has_word", .keep "has_word", .glo "is_number", .keep "is_number", .glo "is_question", .keep "is_question", .glo "is_claim", .keep "is_claim", .glo "question_of", .keep "question_of", .glo "answer_of", .keep "answer_of", .glo "paper_of", .keep "paper_of", .glo "_law_words", .keep "_law_words", .glo "_law_drawn_text", .keep "_law_drawn_text", .glo "_law_is_text", .keep "_law_is_text", .glo "_law_claim_form", .keep "_law_claim_form", .glo "_law_is_question", .keep "_law_is_question", .glo "_law_asked", .keep "_law_asked", .glo "_law_error", .keep "_law_error", .glo "Pairs", .glo "GraftError", .glo "InvalidNumber", .glo "InvalidRules", .glo "Endless", .glo "InvalidText", .glo "InvalidQuestion", .glo "InvalidClaim", .glo "Undefined", .glo "PARTS"] ++ [.glo "WORDS", .free "abs", .free "all", .free "bool", .free "int", .free "isinstance", .free "len", .free "list", .free "range", .free "str", .free "tuple", .int "MOST_KINDS" 40, .int "MOST_LETTERS" 3, .int "MOST_RULES" 90, .int "MOST_WORDS" 8, .str "LETTERS" "abcdefghijklmnopqrstuvwxyz", .cls "Pairs", .mkr "Pairs", .noat "Pairs" "kinds", .noat "Pairs" "rules", .exm "GraftError" "GraftError" true, .exm "GraftError" "InvalidNumber" false, .exm "GraftError" "InvalidRules" false, .exm "GraftError" "Endless" false, .exm "GraftError" "InvalidText" false, .exm "GraftError" "InvalidQuestion" false, .exm "GraftError" "InvalidClaim" false, .exm "GraftError" "Undefined" false, .exm "InvalidNumber" "GraftError" true, .exm "InvalidNumber" "InvalidNumber" true, .exm "InvalidNumber" "InvalidRules" false, .exm "InvalidNumber" "Endless" false, .exm "InvalidNumber" "InvalidText" false, .exm "InvalidNumber" "InvalidQuestion" false, .exm "InvalidNumber" "InvalidClaim" false, .exm "InvalidNumber" "Undefined" false, .exm "InvalidRules" "GraftError" true, .exm "InvalidRules" "InvalidNumber" false, .exm "InvalidRules" "InvalidRules" true, .exm "InvalidRules" "Endless" false] ++ [.exm "InvalidRules" "InvalidText" false, .exm "InvalidRules" "InvalidQuestion" false, .exm "InvalidRules" "InvalidClaim" false, .exm "InvalidRules" "Undefined" false, .exm "Endless" "GraftError" true, .exm "Endless" "InvalidNumber" false, .exm "Endless" "InvalidRules" false, .exm "Endless" "Endless" true, .exm "Endless" "InvalidText" false, .exm "Endless" "InvalidQuestion" false, .exm "Endless" "InvalidClaim" false, .exm "Endless" "Undefined" false, .exm "InvalidText" "GraftError" true, .exm "InvalidText" "InvalidNumber" false, .exm "InvalidText" "InvalidRules" false, .exm "InvalidText" "Endless" false, .exm "InvalidText" "InvalidText" true, .exm "InvalidText" "InvalidQuestion" false, .exm "InvalidText" "InvalidClaim" false, .exm "InvalidText" "Undefined" false, .exm "InvalidQuestion" "GraftError" true, .exm "InvalidQuestion" "InvalidNumber" false, .exm "InvalidQuestion" "InvalidRules" false, .exm "InvalidQuestion" "Endless" false, .exm "InvalidQuestion" "InvalidText" false, .exm "InvalidQuestion" "InvalidQuestion" true, .exm "InvalidQuestion" "InvalidClaim" false, .exm "InvalidQuestion" "Undefined" false, .exm "InvalidClaim" "GraftError" true, .exm "InvalidClaim" "InvalidNumber" false, .exm "InvalidClaim" "InvalidRules" false, .exm "InvalidClaim" "Endless" false, .exm "InvalidClaim" "InvalidText" false, .exm "InvalidClaim" "InvalidQuestion" false, .exm "InvalidClaim" "InvalidClaim" true, .exm "InvalidClaim" "Undefined" false, .exm "Undefined" "GraftError" true, .exm "Undefined" "InvalidNumber" false, .exm "Undefined" "InvalidRules" false, .exm "Undefined" "Endless" false] ++ [.exm "Undefined" "InvalidText" false, .exm "Undefined" "InvalidQuestion" false, .exm "Undefined" "InvalidClaim" false, .exm "Undefined" "Undefined" true]
def tsL : List He.Tab := [((fun K => He.ga K "PARTS"), ["left", "right", "same", "first", "last", "wrap", "ahead", "behind"]), ((fun K => He.ga K "WORDS"), ["told", "not told", "readings", "longest", "any", "nothing"])]
def vs_PARTS : List (Str × Int) := [("left", 0), ("right", 0), ("same", 1), ("first", 1), ("last", 1), ("wrap", 2), ("ahead", 2), ("behind", 2)]
def vs_WORDS : List (Str × Str) := [("told", "text"), ("not told", "text"), ("readings", "readings"), ("longest", "longest"), ("any", "longest"), ("nothing", "longest")]
def ex0 (K : PySem.W.Frag) : Bool := noList K
def ex1 (K : PySem.W.Frag) : Bool := clsOkB (Dw K) 0
def ex2 (K : PySem.W.Frag) : Bool := (decide (PySem.W.findIn K (.ref (He.ga K "Pairs")) "__eq__" = some (some (.ref (He.fAd K ("Pairs", some "__eq__"))))) && PySem.W.isFn K (.ref (He.fAd K ("Pairs", some "__eq__"))))
def ex3 (K : PySem.W.Frag) : Bool := (oexB K (He.ga K "InvalidNumber") && (xfB K (He.ga K "InvalidNumber") && (decide (PySem.W.findIn K (.ref (He.ga K "InvalidNumber")) "value" = some none) && (decide (PySem.W.findIn K (.ref (He.ga K "InvalidNumber")) "__init__" = some (some (.ref (He.fAd K ("InvalidNumber", some "__init__"))))) && decide (PySem.W.typeIn K (.ref (He.fAd K ("InvalidNumber", some "__init__"))) = some (.type "function"))))))
def ex4 (K : PySem.W.Frag) : Bool := (oexB K (He.ga K "InvalidRules") && (xfB K (He.ga K "InvalidRules") && (decide (PySem.W.findIn K (.ref (He.ga K "InvalidRules")) "value" = some none) && (decide (PySem.W.findIn K (.ref (He.ga K "InvalidRules")) "__init__" = some (some (.ref (He.fAd K ("InvalidRules", some "__init__"))))) && decide (PySem.W.typeIn K (.ref (He.fAd K ("InvalidRules", some "__init__"))) = some (.type "function"))))))
def ex5 (K : PySem.W.Frag) : Bool := (oexB K (He.ga K "Endless") && (xfB K (He.ga K "Endless") && (decide (PySem.W.findIn K (.ref (He.ga K "Endless")) "kind" = some none) && (decide (PySem.W.findIn K (.ref (He.ga K "Endless")) "__init__" = some (some (.ref (He.fAd K ("Endless", some "__init__"))))) && decide (PySem.W.typeIn K (.ref (He.fAd K ("Endless", some "__init__"))) = some (.type "function"))))))
def ex6 (K : PySem.W.Frag) : Bool := (oexB K (He.ga K "InvalidText") && (xfB K (He.ga K "InvalidText") && (decide (PySem.W.findIn K (.ref (He.ga K "InvalidText")) "value" = some none) && (decide (PySem.W.findIn K (.ref (He.ga K "InvalidText")) "__init__" = some (some (.ref (He.fAd K ("InvalidText", some "__init__"))))) && decide (PySem.W.typeIn K (.ref (He.fAd K ("InvalidText", some "__init__"))) = some (.type "function"))))))
def ex7 (K : PySem.W.Frag) : Bool := (oexB K (He.ga K "InvalidQuestion") && (xfB K (He.ga K "InvalidQuestion") && (decide (PySem.W.findIn K (.ref (He.ga K "InvalidQuestion")) "value" = some none) && (decide (PySem.W.findIn K (.ref (He.ga K "InvalidQuestion")) "__init__" = some (some (.ref (He.fAd K ("InvalidQuestion", some "__init__"))))) && decide (PySem.W.typeIn K (.ref (He.fAd K ("InvalidQuestion", some "__init__"))) = some (.type "function"))))))
def ex8 (K : PySem.W.Frag) : Bool := (oexB K (He.ga K "InvalidClaim") && (xfB K (He.ga K "InvalidClaim") && (decide (PySem.W.findIn K (.ref (He.ga K "InvalidClaim")) "value" = some none) && (decide (PySem.W.findIn K (.ref (He.ga K "InvalidClaim")) "__init__" = some (some (.ref (He.fAd K ("InvalidClaim", some "__init__"))))) && decide (PySem.W.typeIn K (.ref (He.fAd K ("InvalidClaim", some "__init__"))) = some (.type "function"))))))
def ex9 (K : PySem.W.Frag) : Bool := (oexB K (He.ga K "Undefined") && (xfB K (He.ga K "Undefined") && (decide (PySem.W.findIn K (.ref (He.ga K "Undefined")) "what" = some none) && (decide (PySem.W.findIn K (.ref (He.ga K "Undefined")) "__init__" = some (some (.ref (He.fAd K ("Undefined", some "__init__"))))) && decide (PySem.W.typeIn K (.ref (He.fAd K ("Undefined", some "__init__"))) = some (.type "function"))))))
def ex10 (K : PySem.W.Frag) : Bool := keysB K (He.ga K "PARTS") ks_PARTS
def ex11 (K : PySem.W.Frag) : Bool := valsB K (He.ga K "PARTS") vs_PARTS
def ex12 (K : PySem.W.Frag) : Bool := keysB K (He.ga K "WORDS") ks_WORDS
def ex13 (K : PySem.W.Frag) : Bool := valsSB K (He.ga K "WORDS") vs_WORDS
def exB (K : PySem.W.Frag) : Bool := (ex0 K && (ex1 K && (ex2 K && (ex3 K && (ex4 K && (ex5 K && (ex6 K && (ex7 K && (ex8 K && (ex9 K && (ex10 K && (ex11 K && (ex12 K && ex13 K)))))))))))))
section
variable {prog : Program} {w : World} {K : PySem.W.Frag} {mg : Str → Option Value} {base h : Heap} {k : Nat}
theorem exB_ok (e : exB K = true) : ex0 K = true ∧ ex1 K = true ∧ ex2 K = true ∧ ex3 K = true ∧ ex4 K = true ∧ ex5 K = true ∧ ex6 K = true ∧ ex7 K = true ∧ ex8 K = true ∧ ex9 K = true ∧ ex10 K = true ∧ ex11 K = true ∧ ex12 K = true ∧ ex13 K = true := by
  unfold exB at e
  simp only [Bool.and_eq_true] at e
  exact e
theorem nox_imp {F : List T → AH → R T} {vs : List V} {H : Hp} {Q : VK} {E : XK} (h : spR (Dw K) (fun ts h => (F ts h).nox) vs H Q E) : spR (Dw K) F vs H Q E := by
  obtain ⟨rho, h, ts, R, l, q⟩ := h
  refine ⟨rho, h, ts, R, l, ?_⟩
  have q : outE (Dw K) none _ [] H rho Q ((F ts h).nox) := q
  generalize F ts h = r at q ⊢
  cases r <;> first | exact q | exact q.elim
theorem flOf_inj : ∀ i j, flOf i = flOf j → i = j := by
  intro i j e
  have key : ∀ n, fN.length ≤ n → (flOf n).length = n + 100 := fun n hn => by
    unfold flOf
    rw [List.getElem?_eq_none hn]
    show (Array.replicate (n + 100) 0).size = _
    simp
  have low : ∀ n, n < fN.length → (flOf n).length < 100 := by decide
  by_cases hi : i < fN.length
  · by_cases hj : j < fN.length
    · exact (by decide : ∀ i < fN.length, ∀ j < fN.length, flOf i = flOf j → i = j) i hi j hj e
    · have a := low i hi
      have b := key j (by omega)
      rw [e] at a; omega
  · have a := key i (by omega)
    by_cases hj : j < fN.length
    · have b := low j hj
      rw [← e] at b; omega
    · have b := key j (by omega)
      rw [e] at a; omega
theorem fx_of (X : K.In h) (G : h.Ns mainGlobals mg) (c : He.SaysX faL fnL tsL [] exB w h K) (I : Ih prog w K mg base k) : Fx prog w K mg base k := by
  obtain ⟨z0, z1, z2, z3, z4, z5, z6, z7, z8, z9, z10, z11, z12, z13⟩ := exB_ok c.more
  have z3 : ex3 K = true := z3
  unfold ex3 at z3
  simp only [Bool.and_eq_true, decide_eq_true_eq] at z3
  obtain ⟨o_InvalidNumber, xf_InvalidNumber, no_InvalidNumber, in_InvalidNumber, ty_InvalidNumber⟩ := z3
  have z4 : ex4 K = true := z4
  unfold ex4 at z4
  simp only [Bool.and_eq_true, decide_eq_true_eq] at z4
  obtain ⟨o_InvalidRules, xf_InvalidRules, no_InvalidRules, in_InvalidRules, ty_InvalidRules⟩ := z4
  have z5 : ex5 K = true := z5
  unfold ex5 at z5
  simp only [Bool.and_eq_true, decide_eq_true_eq] at z5
  obtain ⟨o_Endless, xf_Endless, no_Endless, in_Endless, ty_Endless⟩ := z5
  have z6 : ex6 K = true := z6
  unfold ex6 at z6
  simp only [Bool.and_eq_true, decide_eq_true_eq] at z6
  obtain ⟨o_InvalidText, xf_InvalidText, no_InvalidText, in_InvalidText, ty_InvalidText⟩ := z6
  have z7 : ex7 K = true := z7
  unfold ex7 at z7
  simp only [Bool.and_eq_true, decide_eq_true_eq] at z7
  obtain ⟨o_InvalidQuestion, xf_InvalidQuestion, no_InvalidQuestion, in_InvalidQuestion, ty_InvalidQuestion⟩ := z7
  have z8 : ex8 K = true := z8
  unfold ex8 at z8
  simp only [Bool.and_eq_true, decide_eq_true_eq] at z8
  obtain ⟨o_InvalidClaim, xf_InvalidClaim, no_InvalidClaim, in_InvalidClaim, ty_InvalidClaim⟩ := z8
  have z9 : ex9 K = true := z9
  unfold ex9 at z9
  simp only [Bool.and_eq_true, decide_eq_true_eq] at z9
  obtain ⟨o_Undefined, xf_Undefined, no_Undefined, in_Undefined, ty_Undefined⟩ := z9
  have z2 : ex2 K = true := z2
  unfold ex2 at z2
  simp only [Bool.and_eq_true, decide_eq_true_eq] at z2
  exact {
    n_abs := He.free_ok X G (c.t.d.fact 81 (f := .free "abs") rfl),
    n_all := He.free_ok X G (c.t.d.fact 82 (f := .free "all") rfl),
    n_bool := He.free_ok X G (c.t.d.fact 83 (f := .free "bool") rfl),
    n_int := He.free_ok X G (c.t.d.fact 84 (f := .free "int") rfl),
    n_isinstance := He.free_ok X G (c.t.d.fact 85 (f := .free "isinstance") rfl),
    n_len := He.free_ok X G (c.t.d.fact 86 (f := .free "len") rfl),
    n_list := He.free_ok X G (c.t.d.fact 87 (f := .free "list") rfl),
    n_range := He.free_ok X G (c.t.d.fact 88 (f := .free "range") rfl),
    n_str := He.free_ok X G (c.t.d.fact 89 (f := .free "str") rfl),
    n_tuple := He.free_ok X G (c.t.d.fact 90 (f := .free "tuple") rfl),
    c_MOST_KINDS := He.int_ok X G (c.t.d.fact 91 (f := .int "MOST_KINDS" 40) rfl),
    c_MOST_LETTERS := He.int_ok X G (c.t.d.fact 92 (f := .int "MOST_LETTERS" 3) rfl),
    c_MOST_RULES := He.int_ok X G (c.t.d.fact 93 (f := .int "MOST_RULES" 90) rfl),
    c_MOST_WORDS := He.int_ok X G (c.t.d.fact 94 (f := .int "MOST_WORDS" 8) rfl),
    c_LETTERS := He.str_ok X G (c.t.d.fact 95 (f := .str "LETTERS" "abcdefghijklmnopqrstuvwxyz") rfl),
    g_is_integer := He.glo_ok X G (c.t.d.fact 0 (f := .glo "is_integer") rfl),
    k_is_integer := He.keep_ok (c.t.d.fact 1 (f := .keep "is_integer") rfl),
    g_is_integer_in := He.glo_ok X G (c.t.d.fact 2 (f := .glo "is_integer_in") rfl),
    k_is_integer_in := He.keep_ok (c.t.d.fact 3 (f := .keep "is_integer_in") rfl),
    g_is_word := He.glo_ok X G (c.t.d.fact 4 (f := .glo "is_word") rfl),
    k_is_word := He.keep_ok (c.t.d.fact 5 (f := .keep "is_word") rfl),
    g_reached := He.glo_ok X G (c.t.d.fact 6 (f := .glo "reached") rfl),
    k_reached := He.keep_ok (c.t.d.fact 7 (f := .keep "reached") rfl),
    g_least_back := He.glo_ok X G (c.t.d.fact 8 (f := .glo "least_back") rfl),
    k_least_back := He.keep_ok (c.t.d.fact 9 (f := .keep "least_back") rfl),
    g_is_rule := He.glo_ok X G (c.t.d.fact 10 (f := .glo "is_rule") rfl),
    k_is_rule := He.keep_ok (c.t.d.fact 11 (f := .keep "is_rule") rfl),
    g_single_steps := He.glo_ok X G (c.t.d.fact 12 (f := .glo "single_steps") rfl),
    k_single_steps := He.keep_ok (c.t.d.fact 13 (f := .keep "single_steps") rfl),
    g__law_box := He.glo_ok X G (c.t.d.fact 14 (f := .glo "_law_box") rfl),
    k__law_box := He.keep_ok (c.t.d.fact 15 (f := .keep "_law_box") rfl),
    g__law_take := He.glo_ok X G (c.t.d.fact 16 (f := .glo "_law_take") rfl),
    k__law_take := He.keep_ok (c.t.d.fact 17 (f := .keep "_law_take") rfl),
    g__law_pick := He.glo_ok X G (c.t.d.fact 18 (f := .glo "_law_pick") rfl),
    k__law_pick := He.keep_ok (c.t.d.fact 19 (f := .keep "_law_pick") rfl),
    g__law_whole := He.glo_ok X G (c.t.d.fact 20 (f := .glo "_law_whole") rfl),
    k__law_whole := He.keep_ok (c.t.d.fact 21 (f := .keep "_law_whole") rfl),
    g__law_is_due := He.glo_ok X G (c.t.d.fact 22 (f := .glo "_law_is_due") rfl),
    k__law_is_due := He.keep_ok (c.t.d.fact 23 (f := .keep "_law_is_due") rfl),
    g__law_spoilt := He.glo_ok X G (c.t.d.fact 24 (f := .glo "_law_spoilt") rfl),
    k__law_spoilt := He.keep_ok (c.t.d.fact 25 (f := .keep "_law_spoilt") rfl),
    g__law_shuffled := He.glo_ok X G (c.t.d.fact 26 (f := .glo "_law_shuffled") rfl),
    k__law_shuffled := He.keep_ok (c.t.d.fact 27 (f := .keep "_law_shuffled") rfl),
    g__law_back_kind := He.glo_ok X G (c.t.d.fact 28 (f := .glo "_law_back_kind") rfl),
    k__law_back_kind := He.keep_ok (c.t.d.fact 29 (f := .keep "_law_back_kind") rfl),
    g__law_unary := He.glo_ok X G (c.t.d.fact 30 (f := .glo "_law_unary") rfl),
    k__law_unary := He.keep_ok (c.t.d.fact 31 (f := .keep "_law_unary") rfl),
    g__law_grammar := He.glo_ok X G (c.t.d.fact 32 (f := .glo "_law_grammar") rfl),
    k__law_grammar := He.keep_ok (c.t.d.fact 33 (f := .keep "_law_grammar") rfl),
    g__law_made := He.glo_ok X G (c.t.d.fact 34 (f := .glo "_law_made") rfl),
    k__law_made := He.keep_ok (c.t.d.fact 35 (f := .keep "_law_made") rfl),
    g__law_is_word := He.glo_ok X G (c.t.d.fact 36 (f := .glo "_law_is_word") rfl),
    k__law_is_word := He.keep_ok (c.t.d.fact 37 (f := .keep "_law_is_word") rfl),
    g_law := He.glo_ok X G (c.t.d.fact 38 (f := .glo "law") rfl),
    k_law := He.keep_ok (c.t.d.fact 39 (f := .keep "law") rfl),
    g_is_text := He.glo_ok X G (c.t.d.fact 40 (f := .glo "is_text") rfl),
    k_is_text := He.keep_ok (c.t.d.fact 41 (f := .keep "is_text") rfl),
    g_has_word := He.glo_ok X G (c.t.d.fact 42 (f := .glo "has_word") rfl),
    k_has_word := He.keep_ok (c.t.d.fact 43 (f := .keep "has_word") rfl),
    g_is_number := He.glo_ok X G (c.t.d.fact 44 (f := .glo "is_number") rfl),
    k_is_number := He.keep_ok (c.t.d.fact 45 (f := .keep "is_number") rfl),
    g_is_question := He.glo_ok X G (c.t.d.fact 46 (f := .glo "is_question") rfl),
    k_is_question := He.keep_ok (c.t.d.fact 47 (f := .keep "is_question") rfl),
    g_is_claim := He.glo_ok X G (c.t.d.fact 48 (f := .glo "is_claim") rfl),
    k_is_claim := He.keep_ok (c.t.d.fact 49 (f := .keep "is_claim") rfl),
    g_question_of := He.glo_ok X G (c.t.d.fact 50 (f := .glo "question_of") rfl),
    k_question_of := He.keep_ok (c.t.d.fact 51 (f := .keep "question_of") rfl),
    g_answer_of := He.glo_ok X G (c.t.d.fact 52 (f := .glo "answer_of") rfl),
    k_answer_of := He.keep_ok (c.t.d.fact 53 (f := .keep "answer_of") rfl),
    g_paper_of := He.glo_ok X G (c.t.d.fact 54 (f := .glo "paper_of") rfl),
    k_paper_of := He.keep_ok (c.t.d.fact 55 (f := .keep "paper_of") rfl),
    g__law_words := He.glo_ok X G (c.t.d.fact 56 (f := .glo "_law_words") rfl),
    k__law_words := He.keep_ok (c.t.d.fact 57 (f := .keep "_law_words") rfl),
    g__law_drawn_text := He.glo_ok X G (c.t.d.fact 58 (f := .glo "_law_drawn_text") rfl),
    k__law_drawn_text := He.keep_ok (c.t.d.fact 59 (f := .keep "_law_drawn_text") rfl),
    g__law_is_text := He.glo_ok X G (c.t.d.fact 60 (f := .glo "_law_is_text") rfl),
    k__law_is_text := He.keep_ok (c.t.d.fact 61 (f := .keep "_law_is_text") rfl),
    g__law_claim_form := He.glo_ok X G (c.t.d.fact 62 (f := .glo "_law_claim_form") rfl),
    k__law_claim_form := He.keep_ok (c.t.d.fact 63 (f := .keep "_law_claim_form") rfl),
    g__law_is_question := He.glo_ok X G (c.t.d.fact 64 (f := .glo "_law_is_question") rfl),
    k__law_is_question := He.keep_ok (c.t.d.fact 65 (f := .keep "_law_is_question") rfl),
    g__law_asked := He.glo_ok X G (c.t.d.fact 66 (f := .glo "_law_asked") rfl),
    k__law_asked := He.keep_ok (c.t.d.fact 67 (f := .keep "_law_asked") rfl),
    g__law_error := He.glo_ok X G (c.t.d.fact 68 (f := .glo "_law_error") rfl),
    k__law_error := He.keep_ok (c.t.d.fact 69 (f := .keep "_law_error") rfl),
    g_Pairs := He.glo_ok X G (c.t.d.fact 70 (f := .glo "Pairs") rfl),
    g_GraftError := He.glo_ok X G (c.t.d.fact 71 (f := .glo "GraftError") rfl),
    g_InvalidNumber := He.glo_ok X G (c.t.d.fact 72 (f := .glo "InvalidNumber") rfl),
    g_InvalidRules := He.glo_ok X G (c.t.d.fact 73 (f := .glo "InvalidRules") rfl),
    g_Endless := He.glo_ok X G (c.t.d.fact 74 (f := .glo "Endless") rfl),
    g_InvalidText := He.glo_ok X G (c.t.d.fact 75 (f := .glo "InvalidText") rfl),
    g_InvalidQuestion := He.glo_ok X G (c.t.d.fact 76 (f := .glo "InvalidQuestion") rfl),
    g_InvalidClaim := He.glo_ok X G (c.t.d.fact 77 (f := .glo "InvalidClaim") rfl),
    g_Undefined := He.glo_ok X G (c.t.d.fact 78 (f := .glo "Undefined") rfl),
    g_PARTS := He.glo_ok X G (c.t.d.fact 79 (f := .glo "PARTS") rfl),
    g_WORDS := He.glo_ok X G (c.t.d.fact 80 (f := .glo "WORDS") rfl),
    d_PARTS := c.t.tab 0 rfl,
    w_PARTS := fun z => keysB_ok z10 z,
    v_PARTS := fun z t e => valsB_ok (zs := vs_PARTS) z11 e,
    o_PARTS := fun es n kd => keysB_ord kd z10,
    d_WORDS := c.t.tab 1 rfl,
    w_WORDS := fun z => keysB_ok z12 z,
    v_WORDS := fun z t e => valsSB_ok (zs := vs_WORDS) z13 e,
    o_WORDS := fun es n kd => keysB_ord kd z12,
    e_is_integer := fun {A} hr => by
      obtain ⟨fd, ps, F, b⟩ := I.h_is_integer
      exact ⟨_, fd, ps, F, hr.mono (by omega), b⟩,
    m_is_integer := fun {A} hr => by
      obtain ⟨fd, ps, F, b⟩ := I.h_is_integer
      exact ⟨_, fd, ps, F, hr, b⟩,
    e_is_integer_in := fun {A} hr => by
      obtain ⟨fd, ps, F, b⟩ := I.h_is_integer_in
      exact ⟨_, fd, ps, F, hr.mono (by omega), b⟩,
    m_is_integer_in := fun {A} hr => by
      obtain ⟨fd, ps, F, b⟩ := I.h_is_integer_in
      exact ⟨_, fd, ps, F, hr, b⟩,
    e_is_word := fun {A} hr => by
      obtain ⟨fd, ps, F, b⟩ := I.h_is_word
      exact ⟨_, fd, ps, F, hr.mono (by omega), b⟩,
    m_is_word := fun {A} hr => by
      obtain ⟨fd, ps, F, b⟩ := I.h_is_word
      exact ⟨_, fd, ps, F, hr, b⟩,
    e_reached := fun {A} hr => by
      obtain ⟨fd, ps, F, b⟩ := I.h_reached
      exact ⟨_, fd, ps, F, hr.mono (by omega), b⟩,
    m_reached := fun {A} hr => by
      obtain ⟨fd, ps, F, b⟩ := I.h_reached
      exact ⟨_, fd, ps, F, hr, b⟩,
    e_least_back := fun {A} hr => by
      obtain ⟨fd, ps, F, b⟩ := I.h_least_back
      exact ⟨_, fd, ps, F, hr.mono (by omega), b⟩,
    m_least_back := fun {A} hr => by
      obtain ⟨fd, ps, F, b⟩ := I.h_least_back
      exact ⟨_, fd, ps, F, hr, b⟩,
    e_is_rule := fun {A} hr => by
      obtain ⟨fd, ps, F, b⟩ := I.h_is_rule
      exact ⟨_, fd, ps, F, hr.mono (by omega), b⟩,
    m_is_rule := fun {A} hr => by
      obtain ⟨fd, ps, F, b⟩ := I.h_is_rule
      exact ⟨_, fd, ps, F, hr, b⟩,
    e_single_steps := fun {A} hr => by
      obtain ⟨fd, ps, F, b⟩ := I.h_single_steps
      exact ⟨_, fd, ps, F, hr.mono (by omega), b⟩,
    m_single_steps := fun {A} hr => by
      obtain ⟨fd, ps, F, b⟩ := I.h_single_steps
      exact ⟨_, fd, ps, F, hr, b⟩,
    e_Pairsx_initx := fun {A} hr => by
      obtain ⟨fd, ps, F, b⟩ := I.h_Pairsx_initx
      exact ⟨_, fd, ps, F, hr.mono (by omega), b⟩,
    m_Pairsx_initx := fun {A} hr => by
      obtain ⟨fd, ps, F, b⟩ := I.h_Pairsx_initx
      exact ⟨_, fd, ps, F, hr, b⟩,
    e_Pairsx_eqx := fun {A} hr => by
      obtain ⟨fd, ps, F, b⟩ := I.h_Pairsx_eqx
      exact ⟨_, fd, ps, F, hr.mono (by omega), b⟩,
    m_Pairsx_eqx := fun {A} hr => by
      obtain ⟨fd, ps, F, b⟩ := I.h_Pairsx_eqx
      exact ⟨_, fd, ps, F, hr, b⟩,
    q_Pairsx_eqx := fun {A} hr => by
      obtain ⟨fd, ps, F, b⟩ := I.h_Pairsx_eqx
      exact ⟨_, fd, ps, F.imp fun _ _ _ _ => nox_imp, hr.mono (by omega), b⟩,
    s_Pairs := z2.1,
    t_Pairs := z2.2,
    e__law_box := fun {A} hr => by
      obtain ⟨fd, ps, F, b⟩ := I.h__law_box
      exact ⟨_, fd, ps, F, hr.mono (by omega), b⟩,
    m__law_box := fun {A} hr => by
      obtain ⟨fd, ps, F, b⟩ := I.h__law_box
      exact ⟨_, fd, ps, F, hr, b⟩,
    e__law_take := fun {A} hr => by
      obtain ⟨fd, ps, F, b⟩ := I.h__law_take
      exact ⟨_, fd, ps, F, hr.mono (by omega), b⟩,
    m__law_take := fun {A} hr => by
      obtain ⟨fd, ps, F, b⟩ := I.h__law_take
      exact ⟨_, fd, ps, F, hr, b⟩,
    e__law_pick := fun {A} hr => by
      obtain ⟨fd, ps, F, b⟩ := I.h__law_pick
      exact ⟨_, fd, ps, F, hr.mono (by omega), b⟩,
    m__law_pick := fun {A} hr => by
      obtain ⟨fd, ps, F, b⟩ := I.h__law_pick
      exact ⟨_, fd, ps, F, hr, b⟩,
    e__law_whole := fun {A} hr => by
      obtain ⟨fd, ps, F, b⟩ := I.h__law_whole
      exact ⟨_, fd, ps, F, hr.mono (by omega), b⟩,
    m__law_whole := fun {A} hr => by
      obtain ⟨fd, ps, F, b⟩ := I.h__law_whole
      exact ⟨_, fd, ps, F, hr, b⟩,
    e__law_is_due := fun {A} hr => by
      obtain ⟨fd, ps, F, b⟩ := I.h__law_is_due
      exact ⟨_, fd, ps, F, hr.mono (by omega), b⟩,
    m__law_is_due := fun {A} hr => by
      obtain ⟨fd, ps, F, b⟩ := I.h__law_is_due
      exact ⟨_, fd, ps, F, hr, b⟩,
    e__law_spoilt := fun {A} hr => by
      obtain ⟨fd, ps, F, b⟩ := I.h__law_spoilt
      exact ⟨_, fd, ps, F, hr.mono (by omega), b⟩,
    m__law_spoilt := fun {A} hr => by
      obtain ⟨fd, ps, F, b⟩ := I.h__law_spoilt
      exact ⟨_, fd, ps, F, hr, b⟩,
    e__law_shuffled := fun {A} hr => by
      obtain ⟨fd, ps, F, b⟩ := I.h__law_shuffled
      exact ⟨_, fd, ps, F, hr.mono (by omega), b⟩,
    m__law_shuffled := fun {A} hr => by
      obtain ⟨fd, ps, F, b⟩ := I.h__law_shuffled
      exact ⟨_, fd, ps, F, hr, b⟩,
    e__law_back_kind := fun {A} hr => by
      obtain ⟨fd, ps, F, b⟩ := I.h__law_back_kind
      exact ⟨_, fd, ps, F, hr.mono (by omega), b⟩,
    m__law_back_kind := fun {A} hr => by
      obtain ⟨fd, ps, F, b⟩ := I.h__law_back_kind
      exact ⟨_, fd, ps, F, hr, b⟩,
    e__law_unary := fun {A} hr => by
      obtain ⟨fd, ps, F, b⟩ := I.h__law_unary
      exact ⟨_, fd, ps, F, hr.mono (by omega), b⟩,
    m__law_unary := fun {A} hr => by
      obtain ⟨fd, ps, F, b⟩ := I.h__law_unary
      exact ⟨_, fd, ps, F, hr, b⟩,
    e__law_grammar := fun {A} hr => by
      obtain ⟨fd, ps, F, b⟩ := I.h__law_grammar
      exact ⟨_, fd, ps, F, hr.mono (by omega), b⟩,
    m__law_grammar := fun {A} hr => by
      obtain ⟨fd, ps, F, b⟩ := I.h__law_grammar
      exact ⟨_, fd, ps, F, hr, b⟩,
    e__law_made := fun {A} hr => by
      obtain ⟨fd, ps, F, b⟩ := I.h__law_made
      exact ⟨_, fd, ps, F, hr.mono (by omega), b⟩,
    m__law_made := fun {A} hr => by
      obtain ⟨fd, ps, F, b⟩ := I.h__law_made
      exact ⟨_, fd, ps, F, hr, b⟩,
    e__law_is_word := fun {A} hr => by
      obtain ⟨fd, ps, F, b⟩ := I.h__law_is_word
      exact ⟨_, fd, ps, F, hr.mono (by omega), b⟩,
    m__law_is_word := fun {A} hr => by
      obtain ⟨fd, ps, F, b⟩ := I.h__law_is_word
      exact ⟨_, fd, ps, F, hr, b⟩,
    e_law := fun {A} hr => by
      obtain ⟨fd, ps, F, b⟩ := I.h_law
      exact ⟨_, fd, ps, F, hr.mono (by omega), b⟩,
    m_law := fun {A} hr => by
      obtain ⟨fd, ps, F, b⟩ := I.h_law
      exact ⟨_, fd, ps, F, hr, b⟩,
    e_is_text := fun {A} hr => by
      obtain ⟨fd, ps, F, b⟩ := I.h_is_text
      exact ⟨_, fd, ps, F, hr.mono (by omega), b⟩,
    m_is_text := fun {A} hr => by
      obtain ⟨fd, ps, F, b⟩ := I.h_is_text
      exact ⟨_, fd, ps, F, hr, b⟩,
    e_has_word := fun {A} hr => by
      obtain ⟨fd, ps, F, b⟩ := I.h_has_word
      exact ⟨_, fd, ps, F, hr.mono (by omega), b⟩,
    m_has_word := fun {A} hr => by
      obtain ⟨fd, ps, F, b⟩ := I.h_has_word
      exact ⟨_, fd, ps, F, hr, b⟩,
    e_is_number := fun {A} hr => by
      obtain ⟨fd, ps, F, b⟩ := I.h_is_number
      exact ⟨_, fd, ps, F, hr.mono (by omega), b⟩,
    m_is_number := fun {A} hr => by
      obtain ⟨fd, ps, F, b⟩ := I.h_is_number
      exact ⟨_, fd, ps, F, hr, b⟩,
    e_is_question := fun {A} hr => by
      obtain ⟨fd, ps, F, b⟩ := I.h_is_question
      exact ⟨_, fd, ps, F, hr.mono (by omega), b⟩,
    m_is_question := fun {A} hr => by
      obtain ⟨fd, ps, F, b⟩ := I.h_is_question
      exact ⟨_, fd, ps, F, hr, b⟩,
    e_is_claim := fun {A} hr => by
      obtain ⟨fd, ps, F, b⟩ := I.h_is_claim
      exact ⟨_, fd, ps, F, hr.mono (by omega), b⟩,
    m_is_claim := fun {A} hr => by
      obtain ⟨fd, ps, F, b⟩ := I.h_is_claim
      exact ⟨_, fd, ps, F, hr, b⟩,
    e_question_of := fun {A} hr => by
      obtain ⟨fd, ps, F, b⟩ := I.h_question_of
      exact ⟨_, fd, ps, F, hr.mono (by omega), b⟩,
    m_question_of := fun {A} hr => by
      obtain ⟨fd, ps, F, b⟩ := I.h_question_of
      exact ⟨_, fd, ps, F, hr, b⟩,
    e_answer_of := fun {A} hr => by
      obtain ⟨fd, ps, F, b⟩ := I.h_answer_of
      exact ⟨_, fd, ps, F, hr.mono (by omega), b⟩,
    m_answer_of := fun {A} hr => by
      obtain ⟨fd, ps, F, b⟩ := I.h_answer_of
      exact ⟨_, fd, ps, F, hr, b⟩,
    e_paper_of := fun {A} hr => by
      obtain ⟨fd, ps, F, b⟩ := I.h_paper_of
      exact ⟨_, fd, ps, F, hr.mono (by omega), b⟩,
    m_paper_of := fun {A} hr => by
      obtain ⟨fd, ps, F, b⟩ := I.h_paper_of
      exact ⟨_, fd, ps, F, hr, b⟩,
    e__law_words := fun {A} hr => by
      obtain ⟨fd, ps, F, b⟩ := I.h__law_words
      exact ⟨_, fd, ps, F, hr.mono (by omega), b⟩,
    m__law_words := fun {A} hr => by
      obtain ⟨fd, ps, F, b⟩ := I.h__law_words
      exact ⟨_, fd, ps, F, hr, b⟩,
    e__law_drawn_text := fun {A} hr => by
      obtain ⟨fd, ps, F, b⟩ := I.h__law_drawn_text
      exact ⟨_, fd, ps, F, hr.mono (by omega), b⟩,
    m__law_drawn_text := fun {A} hr => by
      obtain ⟨fd, ps, F, b⟩ := I.h__law_drawn_text
      exact ⟨_, fd, ps, F, hr, b⟩,
    e__law_is_text := fun {A} hr => by
      obtain ⟨fd, ps, F, b⟩ := I.h__law_is_text
      exact ⟨_, fd, ps, F, hr.mono (by omega), b⟩,
    m__law_is_text := fun {A} hr => by
      obtain ⟨fd, ps, F, b⟩ := I.h__law_is_text
      exact ⟨_, fd, ps, F, hr, b⟩,
    e__law_claim_form := fun {A} hr => by
      obtain ⟨fd, ps, F, b⟩ := I.h__law_claim_form
      exact ⟨_, fd, ps, F, hr.mono (by omega), b⟩,
    m__law_claim_form := fun {A} hr => by
      obtain ⟨fd, ps, F, b⟩ := I.h__law_claim_form
      exact ⟨_, fd, ps, F, hr, b⟩,
    e__law_is_question := fun {A} hr => by
      obtain ⟨fd, ps, F, b⟩ := I.h__law_is_question
      exact ⟨_, fd, ps, F, hr.mono (by omega), b⟩,
    m__law_is_question := fun {A} hr => by
      obtain ⟨fd, ps, F, b⟩ := I.h__law_is_question
      exact ⟨_, fd, ps, F, hr, b⟩,
    e__law_asked := fun {A} hr => by
      obtain ⟨fd, ps, F, b⟩ := I.h__law_asked
      exact ⟨_, fd, ps, F, hr.mono (by omega), b⟩,
    m__law_asked := fun {A} hr => by
      obtain ⟨fd, ps, F, b⟩ := I.h__law_asked
      exact ⟨_, fd, ps, F, hr, b⟩,
    e__law_error := fun {A} hr => by
      obtain ⟨fd, ps, F, b⟩ := I.h__law_error
      exact ⟨_, fd, ps, F, hr.mono (by omega), b⟩,
    m__law_error := fun {A} hr => by
      obtain ⟨fd, ps, F, b⟩ := I.h__law_error
      exact ⟨_, fd, ps, F, hr, b⟩,
    m_Pairs := He.mkr_ok (c.t.d.fact 97 (f := .mkr "Pairs") rfl),
    inj := flOf_inj,
    a_Pairs_kinds := He.noat_ok (c.t.d.fact 98 (f := .noat "Pairs" "kinds") rfl),
    a_Pairs_rules := He.noat_ok (c.t.d.fact 99 (f := .noat "Pairs" "rules") rfl),
    cls := fun c0 h0 => match c0, h0 with | 0, _ => clsOkB_ok (D := Dw K) (c := 0) (He.cls_ok (c.t.d.fact 96 (f := .cls "Pairs") rfl)) z1 | _ + 1, h0 => absurd h0 (by show ¬ _ < 1; omega),
    y_GraftError := fun c0 h0 => match c0, h0 with | 0, _ => He.exm_ok (c.t.d.fact 100 (f := .exm "GraftError" "GraftError" true) rfl) | 1, _ => He.exm_ok (c.t.d.fact 108 (f := .exm "InvalidNumber" "GraftError" true) rfl) | 2, _ => He.exm_ok (c.t.d.fact 116 (f := .exm "InvalidRules" "GraftError" true) rfl) | 3, _ => He.exm_ok (c.t.d.fact 124 (f := .exm "Endless" "GraftError" true) rfl) | 4, _ => He.exm_ok (c.t.d.fact 132 (f := .exm "InvalidText" "GraftError" true) rfl) | 5, _ => He.exm_ok (c.t.d.fact 140 (f := .exm "InvalidQuestion" "GraftError" true) rfl) | 6, _ => He.exm_ok (c.t.d.fact 148 (f := .exm "InvalidClaim" "GraftError" true) rfl) | 7, _ => He.exm_ok (c.t.d.fact 156 (f := .exm "Undefined" "GraftError" true) rfl) | _ + 8, h0 => absurd h0 (by show ¬ _ < 8; omega),
    x_InvalidNumber := fun {Y} e1 e2 e3 e4 e5 hr => by
      subst e1 e2 e3 e4 e5
      obtain ⟨fd, F⟩ := c.t.d.def_ 37 rfl
      exact ⟨by show 1 < 8; decide, oexB_ok o_InvalidNumber, _, in_InvalidNumber, ty_InvalidNumber, 1, fd, ["self", "value"], err_ok F ⟨rfl, rfl, rfl, by decide +kernel, rfl, by decide +kernel, by decide +kernel⟩ rfl (oexB_ok o_InvalidNumber) no_InvalidNumber (.inl rfl) (.inl rfl), hr.mono (by omega), FunD.bindsN F fun _ _ _ _ _ _ us hl => match us, hl with | [_, _], _ => rfl⟩,
    y_InvalidNumber := fun c0 h0 => match c0, h0 with | 0, _ => He.exm_ok (c.t.d.fact 101 (f := .exm "GraftError" "InvalidNumber" false) rfl) | 1, _ => He.exm_ok (c.t.d.fact 109 (f := .exm "InvalidNumber" "InvalidNumber" true) rfl) | 2, _ => He.exm_ok (c.t.d.fact 117 (f := .exm "InvalidRules" "InvalidNumber" false) rfl) | 3, _ => He.exm_ok (c.t.d.fact 125 (f := .exm "Endless" "InvalidNumber" false) rfl) | 4, _ => He.exm_ok (c.t.d.fact 133 (f := .exm "InvalidText" "InvalidNumber" false) rfl) | 5, _ => He.exm_ok (c.t.d.fact 141 (f := .exm "InvalidQuestion" "InvalidNumber" false) rfl) | 6, _ => He.exm_ok (c.t.d.fact 149 (f := .exm "InvalidClaim" "InvalidNumber" false) rfl) | 7, _ => He.exm_ok (c.t.d.fact 157 (f := .exm "Undefined" "InvalidNumber" false) rfl) | _ + 8, h0 => absurd h0 (by show ¬ _ < 8; omega),
    x_InvalidRules := fun {Y} e1 e2 e3 e4 e5 hr => by
      subst e1 e2 e3 e4 e5
      obtain ⟨fd, F⟩ := c.t.d.def_ 38 rfl
      exact ⟨by show 2 < 8; decide, oexB_ok o_InvalidRules, _, in_InvalidRules, ty_InvalidRules, 1, fd, ["self", "value"], err_ok F ⟨rfl, rfl, rfl, by decide +kernel, rfl, by decide +kernel, by decide +kernel⟩ rfl (oexB_ok o_InvalidRules) no_InvalidRules (.inl rfl) (.inl rfl), hr.mono (by omega), FunD.bindsN F fun _ _ _ _ _ _ us hl => match us, hl with | [_, _], _ => rfl⟩,
    y_InvalidRules := fun c0 h0 => match c0, h0 with | 0, _ => He.exm_ok (c.t.d.fact 102 (f := .exm "GraftError" "InvalidRules" false) rfl) | 1, _ => He.exm_ok (c.t.d.fact 110 (f := .exm "InvalidNumber" "InvalidRules" false) rfl) | 2, _ => He.exm_ok (c.t.d.fact 118 (f := .exm "InvalidRules" "InvalidRules" true) rfl) | 3, _ => He.exm_ok (c.t.d.fact 126 (f := .exm "Endless" "InvalidRules" false) rfl) | 4, _ => He.exm_ok (c.t.d.fact 134 (f := .exm "InvalidText" "InvalidRules" false) rfl) | 5, _ => He.exm_ok (c.t.d.fact 142 (f := .exm "InvalidQuestion" "InvalidRules" false) rfl) | 6, _ => He.exm_ok (c.t.d.fact 150 (f := .exm "InvalidClaim" "InvalidRules" false) rfl) | 7, _ => He.exm_ok (c.t.d.fact 158 (f := .exm "Undefined" "InvalidRules" false) rfl) | _ + 8, h0 => absurd h0 (by show ¬ _ < 8; omega),
    x_Endless := fun {Y} e1 e2 e3 e4 e5 hr => by
      subst e1 e2 e3 e4 e5
      obtain ⟨fd, F⟩ := c.t.d.def_ 39 rfl
      exact ⟨by show 3 < 8; decide, oexB_ok o_Endless, _, in_Endless, ty_Endless, 1, fd, ["self", "kind"], err_ok F ⟨rfl, rfl, rfl, by decide +kernel, rfl, by decide +kernel, by decide +kernel⟩ rfl (oexB_ok o_Endless) no_Endless (.inl rfl) (.inl rfl), hr.mono (by omega), FunD.bindsN F fun _ _ _ _ _ _ us hl => match us, hl with | [_, _], _ => rfl⟩,
    y_Endless := fun c0 h0 => match c0, h0 with | 0, _ => He.exm_ok (c.t.d.fact 103 (f := .exm "GraftError" "Endless" false) rfl) | 1, _ => He.exm_ok (c.t.d.fact 111 (f := .exm "InvalidNumber" "Endless" false) rfl) | 2, _ => He.exm_ok (c.t.d.fact 119 (f := .exm "InvalidRules" "Endless" false) rfl) | 3, _ => He.exm_ok (c.t.d.fact 127 (f := .exm "Endless" "Endless" true) rfl) | 4, _ => He.exm_ok (c.t.d.fact 135 (f := .exm "InvalidText" "Endless" false) rfl) | 5, _ => He.exm_ok (c.t.d.fact 143 (f := .exm "InvalidQuestion" "Endless" false) rfl) | 6, _ => He.exm_ok (c.t.d.fact 151 (f := .exm "InvalidClaim" "Endless" false) rfl) | 7, _ => He.exm_ok (c.t.d.fact 159 (f := .exm "Undefined" "Endless" false) rfl) | _ + 8, h0 => absurd h0 (by show ¬ _ < 8; omega),
    x_InvalidText := fun {Y} e1 e2 e3 e4 e5 hr => by
      subst e1 e2 e3 e4 e5
      obtain ⟨fd, F⟩ := c.t.d.def_ 40 rfl
      exact ⟨by show 4 < 8; decide, oexB_ok o_InvalidText, _, in_InvalidText, ty_InvalidText, 1, fd, ["self", "value"], err_ok F ⟨rfl, rfl, rfl, by decide +kernel, rfl, by decide +kernel, by decide +kernel⟩ rfl (oexB_ok o_InvalidText) no_InvalidText (.inl rfl) (.inl rfl), hr.mono (by omega), FunD.bindsN F fun _ _ _ _ _ _ us hl => match us, hl with | [_, _], _ => rfl⟩,
    y_InvalidText := fun c0 h0 => match c0, h0 with | 0, _ => He.exm_ok (c.t.d.fact 104 (f := .exm "GraftError" "InvalidText" false) rfl) | 1, _ => He.exm_ok (c.t.d.fact 112 (f := .exm "InvalidNumber" "InvalidText" false) rfl) | 2, _ => He.exm_ok (c.t.d.fact 120 (f := .exm "InvalidRules" "InvalidText" false) rfl) | 3, _ => He.exm_ok (c.t.d.fact 128 (f := .exm "Endless" "InvalidText" false) rfl) | 4, _ => He.exm_ok (c.t.d.fact 136 (f := .exm "InvalidText" "InvalidText" true) rfl) | 5, _ => He.exm_ok (c.t.d.fact 144 (f := .exm "InvalidQuestion" "InvalidText" false) rfl) | 6, _ => He.exm_ok (c.t.d.fact 152 (f := .exm "InvalidClaim" "InvalidText" false) rfl) | 7, _ => He.exm_ok (c.t.d.fact 160 (f := .exm "Undefined" "InvalidText" false) rfl) | _ + 8, h0 => absurd h0 (by show ¬ _ < 8; omega),
    x_InvalidQuestion := fun {Y} e1 e2 e3 e4 e5 hr => by
      subst e1 e2 e3 e4 e5
      obtain ⟨fd, F⟩ := c.t.d.def_ 41 rfl
      exact ⟨by show 5 < 8; decide, oexB_ok o_InvalidQuestion, _, in_InvalidQuestion, ty_InvalidQuestion, 1, fd, ["self", "value"], err_ok F ⟨rfl, rfl, rfl, by decide +kernel, rfl, by decide +kernel, by decide +kernel⟩ rfl (oexB_ok o_InvalidQuestion) no_InvalidQuestion (.inl rfl) (.inl rfl), hr.mono (by omega), FunD.bindsN F fun _ _ _ _ _ _ us hl => match us, hl with | [_, _], _ => rfl⟩,
    y_InvalidQuestion := fun c0 h0 => match c0, h0 with | 0, _ => He.exm_ok (c.t.d.fact 105 (f := .exm "GraftError" "InvalidQuestion" false) rfl) | 1, _ => He.exm_ok (c.t.d.fact 113 (f := .exm "InvalidNumber" "InvalidQuestion" false) rfl) | 2, _ => He.exm_ok (c.t.d.fact 121 (f := .exm "InvalidRules" "InvalidQuestion" false) rfl) | 3, _ => He.exm_ok (c.t.d.fact 129 (f := .exm "Endless" "InvalidQuestion" false) rfl) | 4, _ => He.exm_ok (c.t.d.fact 137 (f := .exm "InvalidText" "InvalidQuestion" false) rfl) | 5, _ => He.exm_ok (c.t.d.fact 145 (f := .exm "InvalidQuestion" "InvalidQuestion" true) rfl) | 6, _ => He.exm_ok (c.t.d.fact 153 (f := .exm "InvalidClaim" "InvalidQuestion" false) rfl) | 7, _ => He.exm_ok (c.t.d.fact 161 (f := .exm "Undefined" "InvalidQuestion" false) rfl) | _ + 8, h0 => absurd h0 (by show ¬ _ < 8; omega),
    x_InvalidClaim := fun {Y} e1 e2 e3 e4 e5 hr => by
      subst e1 e2 e3 e4 e5
      obtain ⟨fd, F⟩ := c.t.d.def_ 42 rfl
      exact ⟨by show 6 < 8; decide, oexB_ok o_InvalidClaim, _, in_InvalidClaim, ty_InvalidClaim, 1, fd, ["self", "value"], err_ok F ⟨rfl, rfl, rfl, by decide +kernel, rfl, by decide +kernel, by decide +kernel⟩ rfl (oexB_ok o_InvalidClaim) no_InvalidClaim (.inl rfl) (.inl rfl), hr.mono (by omega), FunD.bindsN F fun _ _ _ _ _ _ us hl => match us, hl with | [_, _], _ => rfl⟩,
    y_InvalidClaim := fun c0 h0 => match c0, h0 with | 0, _ => He.exm_ok (c.t.d.fact 106 (f := .exm "GraftError" "InvalidClaim" false) rfl) | 1, _ => He.exm_ok (c.t.d.fact 114 (f := .exm "InvalidNumber" "InvalidClaim" false) rfl) | 2, _ => He.exm_ok (c.t.d.fact 122 (f := .exm "InvalidRules" "InvalidClaim" false) rfl) | 3, _ => He.exm_ok (c.t.d.fact 130 (f := .exm "Endless" "InvalidClaim" false) rfl) | 4, _ => He.exm_ok (c.t.d.fact 138 (f := .exm "InvalidText" "InvalidClaim" false) rfl) | 5, _ => He.exm_ok (c.t.d.fact 146 (f := .exm "InvalidQuestion" "InvalidClaim" false) rfl) | 6, _ => He.exm_ok (c.t.d.fact 154 (f := .exm "InvalidClaim" "InvalidClaim" true) rfl) | 7, _ => He.exm_ok (c.t.d.fact 162 (f := .exm "Undefined" "InvalidClaim" false) rfl) | _ + 8, h0 => absurd h0 (by show ¬ _ < 8; omega),
    x_Undefined := fun {Y} e1 e2 e3 e4 e5 hr => by
      subst e1 e2 e3 e4 e5
      obtain ⟨fd, F⟩ := c.t.d.def_ 43 rfl
      exact ⟨by show 7 < 8; decide, oexB_ok o_Undefined, _, in_Undefined, ty_Undefined, 1, fd, ["self", "what"], err_ok F ⟨rfl, rfl, rfl, by decide +kernel, rfl, by decide +kernel, by decide +kernel⟩ rfl (oexB_ok o_Undefined) no_Undefined (.inl rfl) (.inl rfl), hr.mono (by omega), FunD.bindsN F fun _ _ _ _ _ _ us hl => match us, hl with | [_, _], _ => rfl⟩,
    y_Undefined := fun c0 h0 => match c0, h0 with | 0, _ => He.exm_ok (c.t.d.fact 107 (f := .exm "GraftError" "Undefined" false) rfl) | 1, _ => He.exm_ok (c.t.d.fact 115 (f := .exm "InvalidNumber" "Undefined" false) rfl) | 2, _ => He.exm_ok (c.t.d.fact 123 (f := .exm "InvalidRules" "Undefined" false) rfl) | 3, _ => He.exm_ok (c.t.d.fact 131 (f := .exm "Endless" "Undefined" false) rfl) | 4, _ => He.exm_ok (c.t.d.fact 139 (f := .exm "InvalidText" "Undefined" false) rfl) | 5, _ => He.exm_ok (c.t.d.fact 147 (f := .exm "InvalidQuestion" "Undefined" false) rfl) | 6, _ => He.exm_ok (c.t.d.fact 155 (f := .exm "InvalidClaim" "Undefined" false) rfl) | 7, _ => He.exm_ok (c.t.d.fact 163 (f := .exm "Undefined" "Undefined" true) rfl) | _ + 8, h0 => absurd h0 (by show ¬ _ < 8; omega),
    xf_kind := fun c0 h0 => match c0, h0 with | 0, _ => fun hc => absurd hc (by decide) | 1, _ => fun hc => absurd hc (by decide) | 2, _ => fun hc => absurd hc (by decide) | 3, _ => fun _ => ⟨rfl, xfB_ok xf_Endless, no_Endless⟩ | 4, _ => fun hc => absurd hc (by decide) | 5, _ => fun hc => absurd hc (by decide) | 6, _ => fun hc => absurd hc (by decide) | 7, _ => fun hc => absurd hc (by decide) | _ + 8, h0 => absurd h0 (by show ¬ _ < 8; omega),
    xf_value := fun c0 h0 => match c0, h0 with | 0, _ => fun hc => absurd hc (by decide) | 1, _ => fun _ => ⟨rfl, xfB_ok xf_InvalidNumber, no_InvalidNumber⟩ | 2, _ => fun _ => ⟨rfl, xfB_ok xf_InvalidRules, no_InvalidRules⟩ | 3, _ => fun hc => absurd hc (by decide) | 4, _ => fun _ => ⟨rfl, xfB_ok xf_InvalidText, no_InvalidText⟩ | 5, _ => fun _ => ⟨rfl, xfB_ok xf_InvalidQuestion, no_InvalidQuestion⟩ | 6, _ => fun _ => ⟨rfl, xfB_ok xf_InvalidClaim, no_InvalidClaim⟩ | 7, _ => fun hc => absurd hc (by decide) | _ + 8, h0 => absurd h0 (by show ¬ _ < 8; omega),
    xf_what := fun c0 h0 => match c0, h0 with | 0, _ => fun hc => absurd hc (by decide) | 1, _ => fun hc => absurd hc (by decide) | 2, _ => fun hc => absurd hc (by decide) | 3, _ => fun hc => absurd hc (by decide) | 4, _ => fun hc => absurd hc (by decide) | 5, _ => fun hc => absurd hc (by decide) | 6, _ => fun hc => absurd hc (by decide) | 7, _ => fun _ => ⟨rfl, xfB_ok xf_Undefined, no_Undefined⟩ | _ + 8, h0 => absurd h0 (by show ¬ _ < 8; omega) }
theorem ih_of (X : K.In h) (G : h.Ns mainGlobals mg) (c : He.SaysX faL fnL tsL [] exB w h K) : ∀ k, Ih prog w K mg base k
  | 0 => by
    obtain ⟨fd0, F0⟩ := c.t.d.def_ 0 rfl
    obtain ⟨fd1, F1⟩ := c.t.d.def_ 1 rfl
    obtain ⟨fd2, F2⟩ := c.t.d.def_ 2 rfl
    obtain ⟨fd3, F3⟩ := c.t.d.def_ 3 rfl
    obtain ⟨fd4, F4⟩ := c.t.d.def_ 4 rfl
    obtain ⟨fd5, F5⟩ := c.t.d.def_ 5 rfl
    obtain ⟨fd6, F6⟩ := c.t.d.def_ 6 rfl
    obtain ⟨fd7, F7⟩ := c.t.d.def_ 7 rfl
    obtain ⟨fd8, F8⟩ := c.t.d.def_ 8 rfl
    obtain ⟨fd9, F9⟩ := c.t.d.def_ 9 rfl
    obtain ⟨fd10, F10⟩ := c.t.d.def_ 10 rfl
    obtain ⟨fd11, F11⟩ := c.t.d.def_ 11 rfl
    obtain ⟨fd12, F12⟩ := c.t.d.def_ 12 rfl
    obtain ⟨fd13, F13⟩ := c.t.d.def_ 13 rfl
    obtain ⟨fd14, F14⟩ := c.t.d.def_ 14 rfl
    obtain ⟨fd15, F15⟩ := c.t.d.def_ 15 rfl
    obtain ⟨fd16, F16⟩ := c.t.d.def_ 16 rfl
    obtain ⟨fd17, F17⟩ := c.t.d.def_ 17 rfl
    obtain ⟨fd18, F18⟩ := c.t.d.def_ 18 rfl
    obtain ⟨fd19, F19⟩ := c.t.d.def_ 19 rfl
    obtain ⟨fd20, F20⟩ := c.t.d.def_ 20 rfl
    obtain ⟨fd21, F21⟩ := c.t.d.def_ 21 rfl
    obtain ⟨fd22, F22⟩ := c.t.d.def_ 22 rfl
    obtain ⟨fd23, F23⟩ := c.t.d.def_ 23 rfl
    obtain ⟨fd24, F24⟩ := c.t.d.def_ 24 rfl
    obtain ⟨fd25, F25⟩ := c.t.d.def_ 25 rfl
    obtain ⟨fd26, F26⟩ := c.t.d.def_ 26 rfl
    obtain ⟨fd27, F27⟩ := c.t.d.def_ 27 rfl
    obtain ⟨fd28, F28⟩ := c.t.d.def_ 28 rfl
    obtain ⟨fd29, F29⟩ := c.t.d.def_ 29 rfl
    obtain ⟨fd30, F30⟩ := c.t.d.def_ 30 rfl
    obtain ⟨fd31, F31⟩ := c.t.d.def_ 31 rfl
    obtain ⟨fd32, F32⟩ := c.t.d.def_ 32 rfl
    obtain ⟨fd33, F33⟩ := c.t.d.def_ 33 rfl
    obtain ⟨fd34, F34⟩ := c.t.d.def_ 34 rfl
    obtain ⟨fd35, F35⟩ := c.t.d.def_ 35 rfl
    obtain ⟨fd36, F36⟩ := c.t.d.def_ 36 rfl
    exact {
      h_is_integer := ⟨fd0, ["value"], fn_ok0, FunD.bindsN F0 fun _ _ _ _ _ _ us hl => match us, hl with | [_], _ => rfl⟩,
      h_is_integer_in := ⟨fd1, ["value", "least", "most"], fn_ok0, FunD.bindsN F1 fun _ _ _ _ _ _ us hl => match us, hl with | [_, _, _], _ => rfl⟩,
      h_is_word := ⟨fd2, ["value"], fn_ok0, FunD.bindsN F2 fun _ _ _ _ _ _ us hl => match us, hl with | [_], _ => rfl⟩,
      h_reached := ⟨fd3, ["leads", "start"], fn_ok0, FunD.bindsN F3 fun _ _ _ _ _ _ us hl => match us, hl with | [_, _], _ => rfl⟩,
      h_least_back := ⟨fd4, ["leads"], fn_ok0, FunD.bindsN F4 fun _ _ _ _ _ _ us hl => match us, hl with | [_], _ => rfl⟩,
      h_is_rule := ⟨fd5, ["value", "kinds"], fn_ok0, FunD.bindsN F5 fun _ _ _ _ _ _ us hl => match us, hl with | [_, _], _ => rfl⟩,
      h_single_steps := ⟨fd6, ["kinds", "rules"], fn_ok0, FunD.bindsN F6 fun _ _ _ _ _ _ us hl => match us, hl with | [_, _], _ => rfl⟩,
      h_Pairsx_initx := ⟨fd7, ["self", "kinds", "rules"], fn_ok0, FunD.bindsN F7 fun _ _ _ _ _ _ us hl => match us, hl with | [_, _, _], _ => rfl⟩,
      h_Pairsx_eqx := ⟨fd8, ["self", "other"], fn_ok0, FunD.bindsN F8 fun _ _ _ _ _ _ us hl => match us, hl with | [_, _], _ => rfl⟩,
      h__law_box := ⟨fd9, ["script", "k"], fn_ok0, FunD.bindsN F9 fun _ _ _ _ _ _ us hl => match us, hl with | [_, _], _ => rfl⟩,
      h__law_take := ⟨fd10, ["box", "many"], fn_ok0, FunD.bindsN F10 fun _ _ _ _ _ _ us hl => match us, hl with | [_, _], _ => rfl⟩,
      h__law_pick := ⟨fd11, ["box", "some"], fn_ok0, FunD.bindsN F11 fun _ _ _ _ _ _ us hl => match us, hl with | [_, _], _ => rfl⟩,
      h__law_whole := ⟨fd12, ["value"], fn_ok0, FunD.bindsN F12 fun _ _ _ _ _ _ us hl => match us, hl with | [_], _ => rfl⟩,
      h__law_is_due := ⟨fd13, ["told", "due"], fn_ok0, FunD.bindsN F13 fun _ _ _ _ _ _ us hl => match us, hl with | [_, _], _ => rfl⟩,
      h__law_spoilt := ⟨fd14, ["box", "value", "deep"], fn_ok0, FunD.bindsN F14 fun _ _ _ _ _ _ us hl => match us, hl with | [_, _, _], _ => rfl⟩,
      h__law_shuffled := ⟨fd15, ["box", "some"], fn_ok0, FunD.bindsN F15 fun _ _ _ _ _ _ us hl => match us, hl with | [_, _], _ => rfl⟩,
      h__law_back_kind := ⟨fd16, ["steps", "kinds"], fn_ok0, FunD.bindsN F16 fun _ _ _ _ _ _ us hl => match us, hl with | [_, _], _ => rfl⟩,
      h__law_unary := ⟨fd17, ["rules"], fn_ok0, FunD.bindsN F17 fun _ _ _ _ _ _ us hl => match us, hl with | [_], _ => rfl⟩,
      h__law_grammar := ⟨fd18, ["script", "most"], fn_ok0, FunD.bindsN F18 fun _ _ _ _ _ _ us hl => match us, hl with | [_, _], _ => rfl⟩,
      h__law_made := ⟨fd19, ["grammar"], fn_ok0, FunD.bindsN F19 fun _ _ _ _ _ _ us hl => match us, hl with | [_], _ => rfl⟩,
      h__law_is_word := ⟨fd20, ["value"], fn_ok0, FunD.bindsN F20 fun _ _ _ _ _ _ us hl => match us, hl with | [_], _ => rfl⟩,
      h_law := ⟨fd21, ["script"], fn_ok0, FunD.bindsN F21 fun _ _ _ _ _ _ us hl => match us, hl with | [_], _ => rfl⟩,
      h_is_text := ⟨fd22, ["value"], fn_ok0, FunD.bindsN F22 fun _ _ _ _ _ _ us hl => match us, hl with | [_], _ => rfl⟩,
      h_has_word := ⟨fd23, ["value", "words"], fn_ok0, FunD.bindsN F23 fun _ _ _ _ _ _ us hl => match us, hl with | [_, _], _ => rfl⟩,
      h_is_number := ⟨fd24, ["value"], fn_ok0, FunD.bindsN F24 fun _ _ _ _ _ _ us hl => match us, hl with | [_], _ => rfl⟩,
      h_is_question := ⟨fd25, ["pairs", "value"], fn_ok0, FunD.bindsN F25 fun _ _ _ _ _ _ us hl => match us, hl with | [_, _], _ => rfl⟩,
      h_is_claim := ⟨fd26, ["pairs", "value"], fn_ok0, FunD.bindsN F26 fun _ _ _ _ _ _ us hl => match us, hl with | [_, _], _ => rfl⟩,
      h_question_of := ⟨fd27, ["pairs", "claim"], fn_ok0, FunD.bindsN F27 fun _ _ _ _ _ _ us hl => match us, hl with | [_, _], _ => rfl⟩,
      h_answer_of := ⟨fd28, ["pairs", "question"], fn_ok0, FunD.bindsN F28 fun _ _ _ _ _ _ us hl => match us, hl with | [_, _], _ => rfl⟩,
      h_paper_of := ⟨fd29, ["pairs", "question"], fn_ok0, FunD.bindsN F29 fun _ _ _ _ _ _ us hl => match us, hl with | [_, _], _ => rfl⟩,
      h__law_words := ⟨fd30, ["grammar"], fn_ok0, FunD.bindsN F30 fun _ _ _ _ _ _ us hl => match us, hl with | [_], _ => rfl⟩,
      h__law_drawn_text := ⟨fd31, ["box", "grammar", "most"], fn_ok0, FunD.bindsN F31 fun _ _ _ _ _ _ us hl => match us, hl with | [_, _, _], _ => rfl⟩,
      h__law_is_text := ⟨fd32, ["value", "most"], fn_ok0, FunD.bindsN F32 fun _ _ _ _ _ _ us hl => match us, hl with | [_, _], _ => rfl⟩,
      h__law_claim_form := ⟨fd33, ["claim"], fn_ok0, FunD.bindsN F33 fun _ _ _ _ _ _ us hl => match us, hl with | [_], _ => rfl⟩,
      h__law_is_question := ⟨fd34, ["value"], fn_ok0, FunD.bindsN F34 fun _ _ _ _ _ _ us hl => match us, hl with | [_], _ => rfl⟩,
      h__law_asked := ⟨fd35, ["claim"], fn_ok0, FunD.bindsN F35 fun _ _ _ _ _ _ us hl => match us, hl with | [_], _ => rfl⟩,
      h__law_error := ⟨fd36, ["kind", "made", "value"], fn_ok0, FunD.bindsN F36 fun _ _ _ _ _ _ us hl => match us, hl with | [_, _, _], _ => rfl⟩ }
  | k + 1 => by
    have F := fx_of (prog := prog) (base := base) X G c (ih_of X G c k)
    obtain ⟨fd0, F0⟩ := c.t.d.def_ 0 rfl
    obtain ⟨fd1, F1⟩ := c.t.d.def_ 1 rfl
    obtain ⟨fd2, F2⟩ := c.t.d.def_ 2 rfl
    obtain ⟨fd3, F3⟩ := c.t.d.def_ 3 rfl
    obtain ⟨fd4, F4⟩ := c.t.d.def_ 4 rfl
    obtain ⟨fd5, F5⟩ := c.t.d.def_ 5 rfl
    obtain ⟨fd6, F6⟩ := c.t.d.def_ 6 rfl
    obtain ⟨fd7, F7⟩ := c.t.d.def_ 7 rfl
    obtain ⟨fd8, F8⟩ := c.t.d.def_ 8 rfl
    obtain ⟨fd9, F9⟩ := c.t.d.def_ 9 rfl
    obtain ⟨fd10, F10⟩ := c.t.d.def_ 10 rfl
    obtain ⟨fd11, F11⟩ := c.t.d.def_ 11 rfl
    obtain ⟨fd12, F12⟩ := c.t.d.def_ 12 rfl
    obtain ⟨fd13, F13⟩ := c.t.d.def_ 13 rfl
    obtain ⟨fd14, F14⟩ := c.t.d.def_ 14 rfl
    obtain ⟨fd15, F15⟩ := c.t.d.def_ 15 rfl
    obtain ⟨fd16, F16⟩ := c.t.d.def_ 16 rfl
    obtain ⟨fd17, F17⟩ := c.t.d.def_ 17 rfl
    obtain ⟨fd18, F18⟩ := c.t.d.def_ 18 rfl
    obtain ⟨fd19, F19⟩ := c.t.d.def_ 19 rfl
    obtain ⟨fd20, F20⟩ := c.t.d.def_ 20 rfl
    obtain ⟨fd21, F21⟩ := c.t.d.def_ 21 rfl
    obtain ⟨fd22, F22⟩ := c.t.d.def_ 22 rfl
    obtain ⟨fd23, F23⟩ := c.t.d.def_ 23 rfl
    obtain ⟨fd24, F24⟩ := c.t.d.def_ 24 rfl
    obtain ⟨fd25, F25⟩ := c.t.d.def_ 25 rfl
    obtain ⟨fd26, F26⟩ := c.t.d.def_ 26 rfl
    obtain ⟨fd27, F27⟩ := c.t.d.def_ 27 rfl
    obtain ⟨fd28, F28⟩ := c.t.d.def_ 28 rfl
    obtain ⟨fd29, F29⟩ := c.t.d.def_ 29 rfl
    obtain ⟨fd30, F30⟩ := c.t.d.def_ 30 rfl
    obtain ⟨fd31, F31⟩ := c.t.d.def_ 31 rfl
    obtain ⟨fd32, F32⟩ := c.t.d.def_ 32 rfl
    obtain ⟨fd33, F33⟩ := c.t.d.def_ 33 rfl
    obtain ⟨fd34, F34⟩ := c.t.d.def_ 34 rfl
    obtain ⟨fd35, F35⟩ := c.t.d.def_ 35 rfl
    obtain ⟨fd36, F36⟩ := c.t.d.def_ 36 rfl
    exact {
      h_is_integer := ⟨fd0, ["value"], fn_ok (P := prg) (f := 0) rfl F0 sc_is_integer rfl rfl k (2 * k + 2) (fun cdv A outer s H E n0 hr => walk_is_integer F hr), FunD.bindsN F0 fun _ _ _ _ _ _ us hl => match us, hl with | [_], _ => rfl⟩,
      h_is_integer_in := ⟨fd1, ["value", "least", "most"], fn_ok (P := prg) (f := 1) rfl F1 sc_is_integer_in rfl rfl k (2 * k + 2) (fun cdv A outer s H E n0 hr => walk_is_integer_in F hr), FunD.bindsN F1 fun _ _ _ _ _ _ us hl => match us, hl with | [_, _, _], _ => rfl⟩,
      h_is_word := ⟨fd2, ["value"], fn_ok (P := prg) (f := 2) rfl F2 sc_is_word rfl rfl k (2 * k + 2) (fun cdv A outer s H E n0 hr => walk_is_word F hr), FunD.bindsN F2 fun _ _ _ _ _ _ us hl => match us, hl with | [_], _ => rfl⟩,
      h_reached := ⟨fd3, ["leads", "start"], fn_ok (P := prg) (f := 3) rfl F3 sc_reached rfl rfl k (2 * k + 2) (fun cdv A outer s H E n0 hr => walk_reached F hr), FunD.bindsN F3 fun _ _ _ _ _ _ us hl => match us, hl with | [_, _], _ => rfl⟩,
      h_least_back := ⟨fd4, ["leads"], fn_ok (P := prg) (f := 4) rfl F4 sc_least_back rfl rfl k (2 * k + 2) (fun cdv A outer s H E n0 hr => walk_least_back F hr), FunD.bindsN F4 fun _ _ _ _ _ _ us hl => match us, hl with | [_], _ => rfl⟩,
      h_is_rule := ⟨fd5, ["value", "kinds"], fn_ok (P := prg) (f := 5) rfl F5 sc_is_rule rfl rfl k (2 * k + 2) (fun cdv A outer s H E n0 hr => walk_is_rule F hr), FunD.bindsN F5 fun _ _ _ _ _ _ us hl => match us, hl with | [_, _], _ => rfl⟩,
      h_single_steps := ⟨fd6, ["kinds", "rules"], fn_ok (P := prg) (f := 6) rfl F6 sc_single_steps rfl rfl k (2 * k + 2) (fun cdv A outer s H E n0 hr => walk_single_steps F hr), FunD.bindsN F6 fun _ _ _ _ _ _ us hl => match us, hl with | [_, _], _ => rfl⟩,
      h_Pairsx_initx := ⟨fd7, ["self", "kinds", "rules"], fn_ok (P := prg) (f := 7) rfl F7 sc_Pairsx_initx rfl rfl k (2 * k + 2) (fun cdv A outer s H E n0 hr => walk_Pairsx_initx F hr), FunD.bindsN F7 fun _ _ _ _ _ _ us hl => match us, hl with | [_, _, _], _ => rfl⟩,
      h_Pairsx_eqx := ⟨fd8, ["self", "other"], fn_ok (P := prg) (f := 8) rfl F8 sc_Pairsx_eqx rfl rfl k (2 * k + 2) (fun cdv A outer s H E n0 hr => walk_Pairsx_eqx F hr), FunD.bindsN F8 fun _ _ _ _ _ _ us hl => match us, hl with | [_, _], _ => rfl⟩,
      h__law_box := ⟨fd9, ["script", "k"], fn_ok (P := prg) (f := 9) rfl F9 sc__law_box rfl rfl k (2 * k + 2) (fun cdv A outer s H E n0 hr => walk__law_box F hr), FunD.bindsN F9 fun _ _ _ _ _ _ us hl => match us, hl with | [_, _], _ => rfl⟩,
      h__law_take := ⟨fd10, ["box", "many"], fn_ok (P := prg) (f := 10) rfl F10 sc__law_take rfl rfl k (2 * k + 2) (fun cdv A outer s H E n0 hr => walk__law_take F hr), FunD.bindsN F10 fun _ _ _ _ _ _ us hl => match us, hl with | [_, _], _ => rfl⟩,
      h__law_pick := ⟨fd11, ["box", "some"], fn_ok (P := prg) (f := 11) rfl F11 sc__law_pick rfl rfl k (2 * k + 2) (fun cdv A outer s H E n0 hr => walk__law_pick F hr), FunD.bindsN F11 fun _ _ _ _ _ _ us hl => match us, hl with | [_, _], _ => rfl⟩,
      h__law_whole := ⟨fd12, ["value"], fn_ok (P := prg) (f := 12) rfl F12 sc__law_whole rfl rfl k (2 * k + 2) (fun cdv A outer s H E n0 hr => walk__law_whole F hr), FunD.bindsN F12 fun _ _ _ _ _ _ us hl => match us, hl with | [_], _ => rfl⟩,
      h__law_is_due := ⟨fd13, ["told", "due"], fn_ok (P := prg) (f := 14) rfl F13 sc__law_is_due rfl rfl k (2 * k + 2) (fun cdv A outer s H E n0 hr => walk__law_is_due F hr), FunD.bindsN F13 fun _ _ _ _ _ _ us hl => match us, hl with | [_, _], _ => rfl⟩,
      h__law_spoilt := ⟨fd14, ["box", "value", "deep"], fn_ok (P := prg) (f := 15) rfl F14 sc__law_spoilt rfl rfl k (2 * k + 2) (fun cdv A outer s H E n0 hr => walk__law_spoilt F hr), FunD.bindsN F14 fun _ _ _ _ _ _ us hl => match us, hl with | [_, _, _], _ => rfl⟩,
      h__law_shuffled := ⟨fd15, ["box", "some"], fn_ok (P := prg) (f := 16) rfl F15 sc__law_shuffled rfl rfl k (2 * k + 2) (fun cdv A outer s H E n0 hr => walk__law_shuffled F hr), FunD.bindsN F15 fun _ _ _ _ _ _ us hl => match us, hl with | [_, _], _ => rfl⟩,
      h__law_back_kind := ⟨fd16, ["steps", "kinds"], fn_ok (P := prg) (f := 17) rfl F16 sc__law_back_kind rfl rfl k (2 * k + 2) (fun cdv A outer s H E n0 hr => walk__law_back_kind F hr), FunD.bindsN F16 fun _ _ _ _ _ _ us hl => match us, hl with | [_, _], _ => rfl⟩,
      h__law_unary := ⟨fd17, ["rules"], fn_ok (P := prg) (f := 18) rfl F17 sc__law_unary rfl rfl k (2 * k + 2) (fun cdv A outer s H E n0 hr => walk__law_unary F hr), FunD.bindsN F17 fun _ _ _ _ _ _ us hl => match us, hl with | [_], _ => rfl⟩,
      h__law_grammar := ⟨fd18, ["script", "most"], fn_ok (P := prg) (f := 19) rfl F18 sc__law_grammar rfl rfl k (2 * k + 2) (fun cdv A outer s H E n0 hr => walk__law_grammar F hr), FunD.bindsN F18 fun _ _ _ _ _ _ us hl => match us, hl with | [_, _], _ => rfl⟩,
      h__law_made := ⟨fd19, ["grammar"], fn_ok (P := prg) (f := 20) rfl F19 sc__law_made rfl rfl k (2 * k + 2) (fun cdv A outer s H E n0 hr => walk__law_made F hr), FunD.bindsN F19 fun _ _ _ _ _ _ us hl => match us, hl with | [_], _ => rfl⟩,
      h__law_is_word := ⟨fd20, ["value"], fn_ok (P := prg) (f := 21) rfl F20 sc__law_is_word rfl rfl k (2 * k + 2) (fun cdv A outer s H E n0 hr => walk__law_is_word F hr), FunD.bindsN F20 fun _ _ _ _ _ _ us hl => match us, hl with | [_], _ => rfl⟩,
      h_law := ⟨fd21, ["script"], fn_ok (P := prg) (f := 25) rfl F21 sc_law rfl rfl k (2 * k + 2) (fun cdv A outer s H E n0 hr => walk_law F hr), FunD.bindsN F21 fun _ _ _ _ _ _ us hl => match us, hl with | [_], _ => rfl⟩,
      h_is_text := ⟨fd22, ["value"], fn_ok (P := prg) (f := 26) rfl F22 sc_is_text rfl rfl k (2 * k + 2) (fun cdv A outer s H E n0 hr => walk_is_text F hr), FunD.bindsN F22 fun _ _ _ _ _ _ us hl => match us, hl with | [_], _ => rfl⟩,
      h_has_word := ⟨fd23, ["value", "words"], fn_ok (P := prg) (f := 27) rfl F23 sc_has_word rfl rfl k (2 * k + 2) (fun cdv A outer s H E n0 hr => walk_has_word F hr), FunD.bindsN F23 fun _ _ _ _ _ _ us hl => match us, hl with | [_, _], _ => rfl⟩,
      h_is_number := ⟨fd24, ["value"], fn_ok (P := prg) (f := 28) rfl F24 sc_is_number rfl rfl k (2 * k + 2) (fun cdv A outer s H E n0 hr => walk_is_number F hr), FunD.bindsN F24 fun _ _ _ _ _ _ us hl => match us, hl with | [_], _ => rfl⟩,
      h_is_question := ⟨fd25, ["pairs", "value"], fn_ok (P := prg) (f := 29) rfl F25 sc_is_question rfl rfl k (2 * k + 2) (fun cdv A outer s H E n0 hr => walk_is_question F hr), FunD.bindsN F25 fun _ _ _ _ _ _ us hl => match us, hl with | [_, _], _ => rfl⟩,
      h_is_claim := ⟨fd26, ["pairs", "value"], fn_ok (P := prg) (f := 30) rfl F26 sc_is_claim rfl rfl k (2 * k + 2) (fun cdv A outer s H E n0 hr => walk_is_claim F hr), FunD.bindsN F26 fun _ _ _ _ _ _ us hl => match us, hl with | [_, _], _ => rfl⟩,
      h_question_of := ⟨fd27, ["pairs", "claim"], fn_ok (P := prg) (f := 31) rfl F27 sc_question_of rfl rfl k (2 * k + 2) (fun cdv A outer s H E n0 hr => walk_question_of F hr), FunD.bindsN F27 fun _ _ _ _ _ _ us hl => match us, hl with | [_, _], _ => rfl⟩,
      h_answer_of := ⟨fd28, ["pairs", "question"], fn_ok (P := prg) (f := 32) rfl F28 sc_answer_of rfl rfl k (2 * k + 2) (fun cdv A outer s H E n0 hr => walk_answer_of F hr), FunD.bindsN F28 fun _ _ _ _ _ _ us hl => match us, hl with | [_, _], _ => rfl⟩,
      h_paper_of := ⟨fd29, ["pairs", "question"], fn_ok (P := prg) (f := 33) rfl F29 sc_paper_of rfl rfl k (2 * k + 2) (fun cdv A outer s H E n0 hr => walk_paper_of F hr), FunD.bindsN F29 fun _ _ _ _ _ _ us hl => match us, hl with | [_, _], _ => rfl⟩,
      h__law_words := ⟨fd30, ["grammar"], fn_ok (P := prg) (f := 34) rfl F30 sc__law_words rfl rfl k (2 * k + 2) (fun cdv A outer s H E n0 hr => walk__law_words F hr), FunD.bindsN F30 fun _ _ _ _ _ _ us hl => match us, hl with | [_], _ => rfl⟩,
      h__law_drawn_text := ⟨fd31, ["box", "grammar", "most"], fn_ok (P := prg) (f := 35) rfl F31 sc__law_drawn_text rfl rfl k (2 * k + 2) (fun cdv A outer s H E n0 hr => walk__law_drawn_text F hr), FunD.bindsN F31 fun _ _ _ _ _ _ us hl => match us, hl with | [_, _, _], _ => rfl⟩,
      h__law_is_text := ⟨fd32, ["value", "most"], fn_ok (P := prg) (f := 36) rfl F32 sc__law_is_text rfl rfl k (2 * k + 2) (fun cdv A outer s H E n0 hr => walk__law_is_text F hr), FunD.bindsN F32 fun _ _ _ _ _ _ us hl => match us, hl with | [_, _], _ => rfl⟩,
      h__law_claim_form := ⟨fd33, ["claim"], fn_ok (P := prg) (f := 37) rfl F33 sc__law_claim_form rfl rfl k (2 * k + 2) (fun cdv A outer s H E n0 hr => walk__law_claim_form F hr), FunD.bindsN F33 fun _ _ _ _ _ _ us hl => match us, hl with | [_], _ => rfl⟩,
      h__law_is_question := ⟨fd34, ["value"], fn_ok (P := prg) (f := 38) rfl F34 sc__law_is_question rfl rfl k (2 * k + 2) (fun cdv A outer s H E n0 hr => walk__law_is_question F hr), FunD.bindsN F34 fun _ _ _ _ _ _ us hl => match us, hl with | [_], _ => rfl⟩,
      h__law_asked := ⟨fd35, ["claim"], fn_ok (P := prg) (f := 39) rfl F35 sc__law_asked rfl rfl k (2 * k + 2) (fun cdv A outer s H E n0 hr => walk__law_asked F hr), FunD.bindsN F35 fun _ _ _ _ _ _ us hl => match us, hl with | [_], _ => rfl⟩,
      h__law_error := ⟨fd36, ["kind", "made", "value"], fn_ok (P := prg) (f := 40) rfl F36 sc__law_error rfl rfl k (2 * k + 2) (fun cdv A outer s H E n0 hr => walk__law_error F hr), FunD.bindsN F36 fun _ _ _ _ _ _ us hl => match us, hl with | [_, _, _], _ => rfl⟩ }
theorem law_fd (c : He.SaysX faL fnL tsL [] exB w h K) : ∃ fd, FunD K "law" "law" (defArgs (top 87)) (defBody (top 87)) (defScope (top 87)) [] [] (He.ga K "law") fd ∧ ∀ (s : Shared) (u : Value), BindsTo s fd ⟨[u], []⟩ [("script", u)] := by
  obtain ⟨fd, F⟩ := c.t.d.def_ 21 rfl
  have F2 : FunD K "law" "law" (defArgs (top 87)) (defBody (top 87)) (defScope (top 87)) [] [] (He.ga K "law") fd := F
  exact ⟨fd, F2, fun s u => FunD.bindsA (ps := ["script"]) F2 (fun _ _ _ _ _ _ us hl => match us, hl with | [_], _ => rfl) s [u] rfl⟩
theorem law_at (X : K.In h) (G : h.Ns mainGlobals mg) (c : He.SaysX faL fnL tsL [] exB w h K) {fd : FuncData} (FL : FunD K "law" "law" (defArgs (top 87)) (defBody (top 87)) (defScope (top 87)) [] [] (He.ga K "law") fd) :
    ∀ k, FnOk prog w K mg base (L2.CX prog w) (2 * k + 1) (He.ga K "law") fd ["script"] (spR (Dw K) (runFn prg k 25))
  | 0 => fn_ok0
  | k + 1 => fn_ok (P := prg) (f := 25) rfl FL sc_law rfl rfl k (2 * k + 2) (fun cdv A outer s H E n0 hr => walk_law (fx_of (prog := prog) (base := base) X G c (ih_of X G c k)) hr)
end
abbrev lw : PySem.W.OpenLaw := PySem.Challenge.rw_treestacks_k40_questions_and_claims_by_f
abbrev rw_ : PySem.W.OpenRow := PySem.W.OpenLaw.row lw
abbrev hk : PySem.W.Hook := He.hookX 4 faL fnL tsL [] exB
def ob (s : PySem.W.SharedT) : He.AlX := He.obsX 4 faL fnL tsL [] exB (HandSHeadRun.getT s)
theorem ob_eq (s : PySem.W.SharedT) : ob s = hk.obs s.abs := He.obsX_eq (HandSHeadRun.getT_eq s)
def loose : List Str := (["GraftError", "InvalidNumber", "InvalidRules", "InvalidText", "InvalidQuestion", "InvalidClaim", "Endless", "Undefined", "LETTERS", "MOST_LETTERS", "MOST_WORDS", "is_integer", "is_integer_in", "is_word", "is_text"] : List Str) ++ (["reached", "least_back", "MOST_KINDS", "MOST_RULES", "PARTS", "is_rule", "single_steps", "Pairs", "words_in", "word_items", "single_items", "partner_key", "keys_of", "double_item", "kinds_up"] : List Str) ++ (["Chart", "check_whole_text", "bars", "tally", "tallied", "is_whole", "NONE_LIVE", "NO_END", "parts_of_rule", "live_kinds", "live_rules", "live_leads", "most_words", "lengths", "used_kinds"] : List Str) ++ (["way_back", "loop", "some_by", "reading_found", "some_reading", "WORDS", "has_word", "is_number", "is_question", "is_claim", "question_of", "answer_of", "paper_of", "_law_box", "_law_take"] : List Str) ++ (["_law_pick", "_law_whole", "_law_is_due", "_law_spoilt", "_law_shuffled", "_law_back_kind", "_law_unary", "_law_grammar", "_law_made", "_law_words", "_law_drawn_text", "_law_is_word", "_law_is_text", "_law_claim_form", "_law_is_question"] : List Str) ++ (["_law_asked", "_law_error"] : List Str)
end LW
end
section
set_option maxRecDepth 100000
set_option maxHeartbeats 0
namespace LW
open PySem PySem.Spec PyProof.Rows L2 PS PySem.W PySem.Calls
theorem run_false (w : World) : HandSHeadRun.RunEq rw_ (PySem.W.view rw_.prog [87]) hk ob 40000 loose (w.withFollow "special-get-raises" false) := by
  intro os
  kernel_rfl
theorem run_true (w : World) : HandSHeadRun.RunEq rw_ (PySem.W.view rw_.prog [87]) hk ob 40000 loose (w.withFollow "special-get-raises" true) := by
  intro os
  kernel_rfl
theorem run (w : World) : HandSHeadRun.RunEq rw_ (PySem.W.view rw_.prog [87]) hk ob 40000 loose w := PySem.W.byRow2 "special-get-raises" (P := fun w => HandSHeadRun.RunEq rw_ (PySem.W.view rw_.prog [87]) hk ob 40000 loose w) run_false run_true w
abbrev vw : Program := PySem.W.view rw_.prog [87]
abbrev td : DefRec := HandSHeadRun.topDef rw_.prog 87
theorem a1 : opening rw_.prog = PySem.W.plainProg rw_.prog.main.scope.names := by kernel_rfl
theorem a2 (s : Shared) : fenceModules? rw_.prog s = some s := by kernel_rfl
theorem a3 : PySem.W.defOf vw rw_.name = some (td, []) := by kernel_rfl
theorem a4 : rw_.prog.theDef rw_.name = some (td.params, td.body, td.scope) := by kernel_rfl
theorem a5 : PySem.W.kwWritten? td.params.kwonlyargs td.params.kw_defaults = some [] := by kernel_rfl
theorem a6 : td.params.defaults = [] := by kernel_rfl
theorem a7 : td.name = ("law" : PySem.Str) := by kernel_rfl
theorem a8 : (PySem.W.chainsOk vw && PySem.W.opensWell rw_.prog && (PySem.W.frees rw_.toRowW && rw_.within.isEmpty)) = true := by decide +kernel
theorem walk_ {k : Nat} (hr : Room (2 * k + 1) callerA) (pure_ : ∀ ns : List Int, ns.length ≤ 63 → ∃ h', runFn prg k 25 [.lst (ns.map T.int)] [] = .ok (.bl true) h') :
    PySem.W.WalkO vw loose (PySem.W.XL vw []) hk.says rw_.toRowW td [] (fun f vs => PySem.call f vs) := by
  refine L2.walk_ofE (l := lw) (n := 63) (k := 2 * k + 1) (x := "script") (CX := L2.CX0) rfl (by decide) a6 hr ?F (fun _ _ _ _ z => z)
  intro w mg fa h Y G hmg0
  obtain ⟨K, KX, c⟩ := Y
  have hmg : mg ("law" : PySem.Str) = some (.ref fa) := by
    rw [← a7]
    exact hmg0
  obtain ⟨fdL, FL, bL⟩ := law_fd c
  have ga : fa = He.ga K "law" := by
    have g := He.glo_ok KX G (c.t.d.fact 38 (f := .glo "law") rfl)
    rw [hmg] at g
    injection g with g
    injection g
  subst ga
  refine ⟨K, fdL, fun vs H Q _ => spR (Dw K) (runFn prg k 25) vs H Q fun _ _ _ => False, KX, bL, fun H a ns hl hO hS => law_sp (exB_ok c.more).1 hO hS (pure_ ns hl), fun base hK hG => ?_⟩
  exact fn_cx0 (law_at (prog := lw.prog) (base := base) KX G c FL k)
theorem holds_of {k : Nat} (hr : Room (2 * k + 1) callerA) (pure_ : ∀ ns : List Int, ns.length ≤ 63 → ∃ h', runFn prg k 25 [.lst (ns.map T.int)] [] = .ok (.bl true) h') : PySem.Challenge.rw_treestacks_k40_questions_and_claims_by_f.Holds := by
  w_on; o_law
  refine HandSHeadRun.head_any (r := rw_) (q := vw) (H := hk) (ob := ob) (M := 40000) (loose := loose) (d := td) (kwd := []) ob_eq
    a1 a2 run a3 a4 a5 (by rfl) (by first | assumption | decide +kernel) a8 ⟨rfl, rfl, rfl, rfl, rfl, by decide +kernel⟩ ?hw (walk_ hr pure_)
  case hw => w_witness2
end LW
end
section
set_option maxRecDepth 100000
set_option maxHeartbeats 1000000
namespace LW
open PySem PS
def isI : T → Bool
  | .int _ => true
  | _ => false
theorem p_is_integer (k : Nat) (h : AH) (t : T) (hp : t.pl = true) : runFn prg (k + 1) 0 [t] h = .ok (.bl (isI t)) h := by
  rw [run_eq (fn := ⟨1, 1, true, ir_is_integer⟩) rfl rfl]
  have e : evSs ⟨runFn prg k, h.length, prg.sub, prg.xi⟩ ir_is_integer ([t].map some ++ List.replicate (1 - 1) none) h = .ret none (.bl (isI t)) h := by
    simp [ir_is_integer, evSs, evS, evE, isTy_pl _ hp]
    cases t <;> simp [isTyP, isI]
  rw [e]
  exact end_ret0 (.inl rfl) rfl
def inI (t : T) (a b : Int) : Bool := match t with
  | .int i => decide (a ≤ i) && decide (i ≤ b)
  | _ => false
theorem p_is_integer_in (k : Nat) (h : AH) (t : T) (a b : Int) (hp : t.pl = true) : runFn prg (k + 2) 1 [t, .int a, .int b] h = .ok (.bl (inI t a b)) h := by
  rw [run_eq (fn := ⟨3, 3, true, ir_is_integer_in⟩) rfl rfl]
  have e : evSs ⟨runFn prg (k + 1), h.length, prg.sub, prg.xi⟩ ir_is_integer_in ([t, .int a, .int b].map some ++ List.replicate (3 - 3) none) h = .ret none (.bl (inI t a b)) h := by
    simp [ir_is_integer_in, evSs, evS, evE, evL, p_is_integer k h t hp]
    cases t <;> simp [isI, inI]
    rename_i i
    by_cases c : a ≤ i <;> simp [c]
  rw [e]
  exact end_ret0 (.inl rfl) rfl
def Box (h : AH) (n : Nat) : Prop := ∃ g s : Int, 0 ≤ g ∧ 0 ≤ s ∧ h[n]? = some (.lst [.int g, .int s])
def BoxOnly (n : Nat) (h h' : AH) : Prop := ∃ g s : Int, 0 ≤ g ∧ 0 ≤ s ∧ h' = h.set n (.lst [.int g, .int s])
theorem p_take (k : Nat) (h : AH) (n : Nat) (many : Int) (hb : Box h n) (h1 : 0 < many) (h2 : many < 1073741824) :
    ∃ r h', runFn prg (k + 1) 10 [.ref n, .int many] h = .ok (.int r) h' ∧ 0 ≤ r ∧ r < many ∧ BoxOnly n h h' := by
  obtain ⟨g, s, hg, hs, hb⟩ := hb
  rw [run_eq (fn := ⟨2, 3, true, ir__law_take⟩) rfl rfl]
  have hn : n < h.length := (List.getElem?_eq_some_iff.mp hb).1
  by_cases c : 0 < g
  · have e : evSs ⟨runFn prg k, h.length, prg.sub, prg.xi⟩ ir__law_take ([.ref n, .int many].map some ++ List.replicate (3 - 2) none) h = .ret none (.int (g % many)) (h.set n (.lst [.int (g / many), .int s])) := by
      simp [ir__law_take, evSs, evS, evE, evL, evB, idx_cell hb, set_cell hb, L2.atI, L2.ixN, c, h1, h2, TG.asg]
    rw [e, end_set (.inl rfl) rfl rfl]
    exact ⟨_, _, rfl, Int.emod_nonneg _ (by omega), Int.emod_lt_of_pos _ h1, _, _, Int.ediv_nonneg hg (by omega), hs, rfl⟩
  · have e : evSs ⟨runFn prg k, h.length, prg.sub, prg.xi⟩ ir__law_take ([.ref n, .int many].map some ++ List.replicate (3 - 2) none) h = .ret none (.int (((s * 39373 + 69621) % 2147483647) / 8191 % many)) (h.set n (.lst [.int g, .int ((s * 39373 + 69621) % 2147483647)])) := by
      simp [ir__law_take, evSs, evS, evE, evL, evB, idx_cell hb, set_cell hb, L2.atI, L2.ixN, c, h1, h2, TG.asg, idx_cell, hn]
    rw [e, end_set (.inl rfl) rfl rfl]
    exact ⟨_, _, rfl, Int.emod_nonneg _ (by omega), Int.emod_lt_of_pos _ h1, _, _, hg, Int.emod_nonneg _ (by omega), rfl⟩
theorem foldl_id {α β γ : Type} (l : List α) (b : β × γ) : List.foldl (fun (b : β × γ) (_ : α) => (b.fst, b.snd)) b l = b := by
  induction l with
  | nil => rfl
  | cons a l ih => exact ih
theorem occ_nil {s sub : Str} {lo hi lim : Nat} (H : ∀ i, Builtin.Str.subAt s sub i = false) : Builtin.Str.occurrences s sub lo hi lim = [] := by
  simp [Builtin.Str.occurrences, H]
  rw [foldl_id]
theorem letters_lo : ∀ c : Nat, c < 130 → subStr ⟨#[c]⟩ "abcdefghijklmnopqrstuvwxyz" = decide (97 ≤ c ∧ c ≤ 122) := by decide +kernel
theorem letters (c : Nat) : subStr ⟨#[c]⟩ "abcdefghijklmnopqrstuvwxyz" = decide (97 ≤ c ∧ c ≤ 122) := by
  by_cases h : c < 130
  · exact letters_lo c h
  · have e : decide (97 ≤ c ∧ c ≤ 122) = false := by simp; omega
    rw [e]
    unfold subStr
    rw [occ_nil]
    · rfl
    · intro i
      unfold Builtin.Str.subAt
      cases hq : (("abcdefghijklmnopqrstuvwxyz" : Str).cps.extract i (i + (⟨#[c]⟩ : Str).length) == (⟨#[c]⟩ : Str).cps) with
      | false => rfl
      | true =>
        exfalso
        have hq := eq_of_beq hq
        have hm : c ∈ ("abcdefghijklmnopqrstuvwxyz" : Str).cps.extract i (i + (⟨#[c]⟩ : Str).length) := by rw [hq]; simp
        have hm2 : c ∈ ("abcdefghijklmnopqrstuvwxyz" : Str).cps.toList := by
          rw [Array.mem_toList_iff]
          obtain ⟨q, hq1, hq2⟩ := Array.mem_extract_iff_getElem.mp hm
          rw [← hq2]; simp
        have all : ∀ x ∈ ("abcdefghijklmnopqrstuvwxyz" : Str).cps.toList, x < 130 := by decide +kernel
        exact h (all c hm2)
theorem undL_get {n : Nat} : ∀ {xs : List T} {i : Nat} {x : T}, T.undL n xs = true → xs[i]? = some x → x.und n = true
  | [], _, _, _, e => by simp at e
  | y :: ys, 0, _, h, e => by
    simp only [T.undL, Bool.and_eq_true] at h
    simp at e; subst e; exact h.1
  | y :: ys, i + 1, _, h, e => by
    simp only [T.undL, Bool.and_eq_true] at h
    exact undL_get h.2 (by simpa using e)
theorem p_pick (k : Nat) (h : AH) (n : Nat) (xs : List T) (tup : Bool) (hb : Box h n) (h1 : xs ≠ []) (h2 : xs.length < 1073741824) (hx : T.undL h.length xs = true) :
    ∃ r x h', runFn prg (k + 2) 11 [.ref n, if tup then .tup xs else .lst xs] h = .ok x h' ∧ xs[(r : Nat)]? = some (x : T) ∧ BoxOnly n h h' := by
  have hl : 0 < xs.length := List.length_pos_iff.mpr h1
  obtain ⟨r, h', e1, e2, e3, e4⟩ := p_take k h n xs.length hb (by omega) (by omega)
  rw [run_eq (fn := ⟨2, 2, true, ir__law_pick⟩) rfl rfl]
  have hr : r.toNat < xs.length := by omega
  have at1 : L2.atI xs r = some xs[r.toNat] := by
    have := L2.atI_nat (List.getElem?_eq_getElem hr)
    rwa [Int.toNat_of_nonneg e2] at this
  have e : evSs ⟨runFn prg (k + 1), h.length, prg.sub, prg.xi⟩ ir__law_pick ([.ref n, if tup then .tup xs else .lst xs].map some ++ List.replicate (2 - 2) none) h = .ret none xs[r.toNat] h' := by
    cases tup <;> simp [ir__law_pick, evSs, evS, evE, evL, evB, e1, idx_lst, idx_tup, at1]
  rw [e]
  obtain ⟨g, s, hg, hs, rfl⟩ := e4
  rw [end_set (.inl rfl) (undL_get hx (List.getElem?_eq_getElem hr)) rfl]
  exact ⟨r.toNat, _, _, rfl, List.getElem?_eq_getElem hr, g, s, hg, hs, rfl⟩
theorem p_whole (k : Nat) (h : AH) (t : T) (hp : t.pl = true) : runFn prg (k + 1) 12 [t] h = .ok (.bl (isI t)) h := by
  rw [run_eq (fn := ⟨1, 1, true, ir__law_whole⟩) rfl rfl]
  have e : evSs ⟨runFn prg k, h.length, prg.sub, prg.xi⟩ ir__law_whole ([t].map some ++ List.replicate (1 - 1) none) h = .ret none (.bl (isI t)) h := by
    simp [ir__law_whole, evSs, evS, evE, isTy_pl _ hp]
    cases t <;> simp [isTyP, isI]
  rw [e]
  exact end_ret0 (.inl rfl) rfl
theorem p_is_due (k : Nat) (h : AH) (a b : Bool) : runFn prg (k + 1) 14 [.bl a, .bl b] h = .ok (.bl (a == b)) h := by
  rw [run_eq (fn := ⟨2, 2, true, ir__law_is_due⟩) rfl rfl]
  have e : evSs ⟨runFn prg k, h.length, prg.sub, prg.xi⟩ ir__law_is_due ([T.bl a, .bl b].map some ++ List.replicate (2 - 2) none) h = .ret none (.bl (a == b)) h := by
    cases a <;> cases b <;> simp [ir__law_is_due, evSs, evS, evE, evB, cmpT, isT]
  rw [e]
  exact end_ret0 (.inl rfl) rfl
def isW : T → Bool
  | .str x => decide (1 ≤ x.length) && decide (x.length ≤ 3) && x.cps.toList.all fun c => decide (97 ≤ c ∧ c ≤ 122)
  | _ => false
theorem thou_line {n : Nat} (h : n ≤ 1000) : n ≤ sizeLine := Nat.le_trans h (by rw [sizeLine_eq]; decide)
theorem chars_in (x : Str) (f : T → Bool) (g : Nat → Bool) (hf : ∀ c, f (.str ⟨#[c]⟩) = g c) : (chars x).map f = x.cps.toList.map g := by
  unfold chars
  rw [List.map_map]
  exact List.map_congr_left fun c _ => hf c
theorem chars_len (x : Str) : (chars x).length = x.length := by
  unfold chars
  rw [List.length_map, Array.length_toList]
  rfl
theorem blsT_map (l : List Bool) : blsT (l.map T.bl) = some l := by
  induction l with
  | nil => rfl
  | cons b l ih => show (blsT (l.map T.bl)).map (b :: ·) = _; rw [ih]; rfl
theorem all_id {α : Type} (l : List α) (g : α → Bool) : (l.map g).all id = l.all g := by
  induction l with
  | nil => rfl
  | cons a l ih => simp [ih]
theorem bf_all_bls {m : Bool} {h : AH} (l : List Bool) : bfT m .all [.lst (l.map T.bl)] h = .ok (.bl (l.all id)) h := by
  show (match isList h (.lst (l.map T.bl)) with
    | some ys => match blsT ys with
      | some bs => R.ok (T.bl (bs.all id)) h
      | none => .stuck
    | none => .stuck) = _
  rw [isList_lst]
  dsimp only
  rw [blsT_map]
theorem p_is_word (k : Nat) (h : AH) (t : T) (hp : t.pl = true) : runFn prg (k + 1) 2 [t] h = .ok (.bl (isW t)) h := by
  rw [run_eq (fn := ⟨1, 2, true, ir_is_word⟩) rfl rfl]
  have e : evSs ⟨runFn prg k, h.length, prg.sub, prg.xi⟩ ir_is_word ([t].map some ++ List.replicate (2 - 1) none) h = .ret none (.bl (isW t)) h := by
    cases t with
    | str x =>
      have hx : x.length ≤ sizeLine := thou_line (by simpa [T.pl] using hp)
      simp [ir_is_word, evSs, evS, evE, evL, evB, evI, isTy_pl _ hp, isTyP, hx]
      have ew : isW (.str x) = (decide ((1 : Int) ≤ x.length) && decide ((x.length : Int) ≤ 3) && x.cps.toList.all fun c => decide (97 ≤ c ∧ c ≤ 122)) := by
        have a : decide ((1 : Int) ≤ x.length) = decide (1 ≤ x.length) := by simp; omega
        have b : decide ((x.length : Int) ≤ 3) = decide (x.length ≤ 3) := by simp; omega
        rw [a, b]; rfl
      rw [ew]
      by_cases c1 : (1 : Int) ≤ x.length
      · by_cases c2 : (x.length : Int) ≤ 3
        · have cl := compL_pure (g := TG.nm 1) (cond := fun _ h => .ok true h) (elt := fun env h => (evE ⟨runFn prg k, h.length, prg.sub, prg.xi⟩ (.cmp .isin (.var 1) (.glb 0 (.str "abcdefghijklmnopqrstuvwxyz"))) env h).nox) (chk := (⟨chars x, none⟩ : Items).chk) (c := fun _ => true) (f := fun t => match t with | .str a => .bl (subStr a "abcdefghijklmnopqrstuvwxyz") | _ => .non) (env := wipeE [some (.str x), none] [1]) (h := h) trivial (xs := chars x) (fun y hy => by
            unfold chars at hy
            obtain ⟨c, hc, rfl⟩ := List.mem_map.mp hy
            exact ⟨_, rfl, rfl, fun _ => rfl⟩)
          have ec : (chars x).map (fun t => match t with | .str a => .bl (subStr a "abcdefghijklmnopqrstuvwxyz") | _ => .non) = (x.cps.toList.map fun c => decide (97 ≤ c ∧ c ≤ 122)).map T.bl := by
            unfold chars
            rw [List.map_map, List.map_map]
            refine List.map_congr_left fun c _ => ?_
            show T.bl (subStr ⟨#[c]⟩ _) = T.bl _
            rw [letters]
          rw [show (chars x).filter (fun _ => true) = chars x from by simp, ec] at cl
          have hz : ((x.cps.toList.map fun c => decide (97 ≤ c ∧ c ≤ 122)).map T.bl).length ≤ sizeLine := by
            rw [List.length_map, List.length_map, Array.length_toList]; exact hx
          simp [c1, c2, evE] at cl ⊢
          rw [cl]
          simp only [R.nox_ok, R.bind_ok]
          rw [show ∀ (l : List T) (h : AH), l.length ≤ sizeLine → PS.fresh false l h = .ok (.lst l) h from fun l h hl => fresh_f hl]
          · simp only [R.bind_ok]
            rw [← List.map_map, bf_all_bls, all_id]
            simp
          · rw [List.length_map, Array.length_toList]; exact hx
        · simp [c1, c2]
      · simp [c1]
    | _ => simp [ir_is_word, evSs, evS, evE, evL, evB, isTy_pl _ hp, isTyP, isW]
  rw [e]
  exact end_ret0 (.inl rfl) rfl
theorem find_int (i : Int) : ∀ F : List Int, (findK (.num i) (F.map T.int)).isSome = F.contains i
  | [] => rfl
  | x :: F => by
    have ih := find_int i F
    rw [List.map_cons, List.contains_cons]
    unfold findK
    by_cases e : x = i
    · subst e
      rw [if_pos (by simp [T.key])]; simp
    · have h1 : ¬ (T.int x).key = some (.num i) := by simp [T.key, e]
      rw [if_neg h1]
      have h2 : (i == x) = false := by simp [Ne.symm e]
      rw [h2, Bool.false_or, ← ih]
      cases findK (.num i) (F.map T.int) <;> rfl
def two (h : AH) (F W : List Int) : AH := h ++ [.dct false (F.map T.int) (F.map fun _ => T.bl true), .lst (W.map T.int)]
theorem two0 (h : AH) (F W : List Int) : (two h F W)[h.length]? = some (.dct false (F.map T.int) (F.map fun _ => T.bl true)) := by simp [two]
theorem two1 (h : AH) (F W : List Int) : (two h F W)[h.length + 1]? = some (.lst (W.map T.int)) := by simp [two]
theorem two_set1 (h : AH) (F W V : List Int) : (two h F W).set (h.length + 1) (.lst (V.map T.int)) = two h F V := by simp [two, List.set_append]
theorem two_set0 (h : AH) (F W G : List Int) : (two h F W).set h.length (.dct false (G.map T.int) (G.map fun _ => T.bl true)) = two h G W := by simp [two, List.set_append]
abbrev rE (ls : List (List Int)) (s : Int) (n : Nat) (c : Option T) : PS.Env := [some (.lst (ls.map fun l => .lst (l.map T.int))), some (.int s), some (.ref n), some (.ref (n + 1)), c]
theorem reached_turn (k : Nat) (n0 : Nat) (h : AH) (ls : List (List Int)) (s x : Int) (F W : List Int) (c : Option T) (Lx : List Int) (hx : L2.atI ls x = some Lx) (hF : F.length < sizeLine) (hW : x ∉ F → W.length + Lx.length ≤ sizeLine) :
    evSs ⟨runFn prg k, n0, prg.sub, prg.xi⟩ (.cons (.asg (.nm 4) (.bm false .pop (.var 3) .nil)) (.cons (.ife (.cmp .notin (.var 4) (.var 2)) (.cons (.seti (.var 2) (.var 4) (.cst (.bl true))) (.cons (.ex (.bm false .extend (.var 3) (.cons (.idx (.var 0) (.var 4)) .nil))) .nil)) .nil) .nil)) (rE ls s h.length c) (two h F (W ++ [x])) =
      if x ∈ F then .next (rE ls s h.length (some (.int x))) (two h F W) else .next (rE ls s h.length (some (.int x))) (two h (F ++ [x]) (W ++ Lx)) := by
  have g1 := two1 h F (W ++ [x])
  have l1 : isList (two h F (W ++ [x])) (.ref (h.length + 1)) = some ((W ++ [x]).map T.int) := by
    unfold isList; rw [snap_cell g1]
  have pop1 : bmT false .pop (.ref (h.length + 1)) [] (two h F (W ++ [x])) = .ok (.int x) (two h F W) := by
    rw [pop_cell (xs := W.map T.int) (t := .int x) (by rw [g1]; simp), two_set1]
  have in1 : cmpT .notin (two h F W) (.int x) (.ref h.length) = some (!F.contains x) := by
    show (inT (two h F W) (.int x) (.ref h.length)).map (!·) = _
    have : inT (two h F W) (.int x) (.ref h.length) = some (F.contains x) := by
      unfold inT
      rw [snap_ref, two0]
      dsimp only [keyOk]
      rw [find_int]
    rw [this]; rfl
  simp [evSs, evS, evE, evL, evB, bmOk, l1, pop1, TG.asg, in1]
  by_cases hc : x ∈ F
  · simp [hc]
  · simp [hc]
    have ix : idxT (two h (F ++ [x]) W) (.lst (ls.map fun l => .lst (l.map T.int))) (.int x) = some (.lst (Lx.map T.int)) := by
      rw [idx_lst, atI_map, hx]; rfl
    have nf : findK (.num x) (F.map T.int) = none := by
      have := find_int x F
      cases hf : findK (.num x) (F.map T.int) with
      | none => rfl
      | some j => rw [hf] at this; simp [hc] at this
    have st : setT (.ref h.length) (.int x) (.bl true) (two h F W) = .ok () (two h (F ++ [x]) W) := by
      rw [set_dct (two0 h F W) nf (by simpa using hF), ← two_set0 h F W (F ++ [x])]
      simp
    have l2 : isList (two h (F ++ [x]) W) (.ref (h.length + 1)) = some (W.map T.int) := by
      unfold isList; rw [snap_cell (two1 h (F ++ [x]) W)]
    have ex : bmT false .extend (.ref (h.length + 1)) [.lst (Lx.map T.int)] (two h (F ++ [x]) W) = .ok .non (two h (F ++ [x]) (W ++ Lx)) := by
      rw [ext_cell (two1 h (F ++ [x]) W) (by simpa using hW hc), ← two_set1 h (F ++ [x]) W (W ++ Lx)]
      simp
    simp [st, l2, ix, ex]
def wsum (ls : List (List Int)) (F : List Int) : Nat → Nat
  | 0 => 0
  | n + 1 => wsum ls F n + if (n : Int) ∈ F then 0 else ((ls[n]?).getD []).length
theorem wsum_same {ls : List (List Int)} {F : List Int} {x : Int} : ∀ n : Nat, (n : Int) ≤ x → wsum ls (F ++ [x]) n = wsum ls F n
  | 0, _ => rfl
  | n + 1, h => by
    unfold wsum
    rw [wsum_same n (by omega)]
    have e : ((n : Int) ∈ F ++ [x]) ↔ ((n : Int) ∈ F) := by
      simp; intro z; omega
    simp only [e]
theorem wsum_new {ls : List (List Int)} {F : List Int} {x : Int} (h0 : 0 ≤ x) (hx : x ∉ F) : ∀ n : Nat, x < (n : Int) → wsum ls (F ++ [x]) n + ((ls[x.toNat]?).getD []).length = wsum ls F n
  | 0, h => by omega
  | n + 1, h => by
    unfold wsum
    by_cases e : x = n
    · subst e
      rw [wsum_same n (Int.le_refl _), if_pos (by simp), if_neg hx]
      simp
    · have ih := wsum_new (ls := ls) h0 hx n (by omega)
      have e2 : ((n : Int) ∈ F ++ [x]) ↔ ((n : Int) ∈ F) := by
        simp; intro z; exact absurd z.symm e
      simp only [e2]
      omega
abbrev rBody : ISs := .cons (.asg (.nm 4) (.bm false .pop (.var 3) .nil)) (.cons (.ife (.cmp .notin (.var 4) (.var 2)) (.cons (.seti (.var 2) (.var 4) (.cst (.bl true))) (.cons (.ex (.bm false .extend (.var 3) (.cons (.idx (.var 0) (.var 4)) .nil))) .nil)) .nil) .nil)
abbrev Lof (ls : List (List Int)) (x : Int) : List Int := (ls[x.toNat]?).getD []
theorem atI_of {ls : List (List Int)} {x : Int} (h0 : 0 ≤ x) (h1 : x < ls.length) : L2.atI ls x = some (Lof ls x) := by
  have hr : x.toNat < ls.length := by omega
  have e : ls[x.toNat]? = some ls[x.toNat] := List.getElem?_eq_getElem hr
  have := L2.atI_nat e
  rw [Int.toNat_of_nonneg h0] at this
  rw [this]; simp [Lof, e]
theorem reached_loop (k n0 : Nat) (h : AH) (ls : List (List Int)) (s : Int) (B : Nat) (hB : B < sizeLine) (Good : Int → Prop) (hv : ∀ x : Int, 0 ≤ x → x < ls.length → ∀ y ∈ Lof ls x, 0 ≤ y ∧ y < (ls.length : Int)) (hg : ∀ x, Good x → ∀ y ∈ Lof ls x, Good y) :
    ∀ (fuel : Nat) (F W : List Int) (c : Option T), W.length + wsum ls F ls.length < fuel → F.length + (W.length + wsum ls F ls.length) ≤ B → (∀ x ∈ W, 0 ≤ x ∧ x < (ls.length : Int)) → KG.Inv (Lof ls) s F W → (∀ x ∈ F, Good x) → (∀ x ∈ W, Good x) →
    ∃ F' c', whlL (fun env h => evB ⟨runFn prg k, n0, prg.sub, prg.xi⟩ (.var 3) env h) (fun env h => evSs ⟨runFn prg k, n0, prg.sub, prg.xi⟩ rBody env h) fuel (rE ls s h.length c) (two h F W) = .next (rE ls s h.length c') (two h F' []) ∧ KG.Inv (Lof ls) s F' [] ∧ (∀ x ∈ F', Good x) ∧ F'.length ≤ B
  | 0, _, _, _, hf, _, _, _, _, _ => by omega
  | fuel + 1, F, W, c, hf, hb, hw, hi, g1, g2 => by
    have ec : evB ⟨runFn prg k, n0, prg.sub, prg.xi⟩ (.var 3) (rE ls s h.length c) (two h F W) = .ok (!W.isEmpty) (two h F W) := by
      show R.isB (.ok (.ref (h.length + 1)) (two h F W)) = _
      show R.of (truT (two h F W) (.ref (h.length + 1))) (two h F W) = _
      have : truT (two h F W) (.ref (h.length + 1)) = some (!W.isEmpty) := by
        unfold truT; rw [snap_cell (two1 h F W)]; cases W <;> rfl
      rw [this]; rfl
    unfold whlL
    rw [ec]
    rcases List.eq_nil_or_concat W with rfl | ⟨W0, x, rfl⟩
    · exact ⟨F, c, rfl, hi, g1, by omega⟩
    · simp only [List.concat_eq_append] at *
      have hne : (!(W0 ++ [x]).isEmpty) = true := by simp
      rw [hne]
      dsimp only
      obtain ⟨x0, x1⟩ := hw x (by simp)
      simp only [List.length_append, List.length_singleton] at hf hb
      have it := KG.inv_turn hi
      by_cases hx : x ∈ F
      · rw [reached_turn k n0 h ls s x F W0 c (Lof ls x) (atI_of x0 x1) (by omega) (fun z => absurd hx z), if_pos hx]
        exact reached_loop k n0 h ls s B hB Good hv hg fuel F W0 _ (by omega) (by omega) (fun y hy => hw y (by simp [hy])) (it.1 hx) g1 (fun y hy => g2 y (by simp [hy]))
      · have ws := wsum_new (ls := ls) x0 hx ls.length x1
        rw [reached_turn k n0 h ls s x F W0 c (Lof ls x) (atI_of x0 x1) (by omega) (fun _ => by show W0.length + ((ls[x.toNat]?).getD []).length ≤ _; omega), if_neg hx]
        refine reached_loop k n0 h ls s B hB Good hv hg fuel (F ++ [x]) (W0 ++ Lof ls x) _ ?_ ?_ ?_ (it.2 hx) ?_ ?_
        · rw [List.length_append]; show W0.length + ((ls[x.toNat]?).getD []).length + _ < _; omega
        · rw [List.length_append, List.length_append]; show _ + 1 + (W0.length + ((ls[x.toNat]?).getD []).length + _) ≤ _; omega
        · intro y hy
          rw [List.mem_append] at hy
          rcases hy with hy | hy
          · exact hw y (by simp [hy])
          · exact hv x x0 x1 y hy
        · intro y hy
          rw [List.mem_append] at hy
          rcases hy with hy | hy
          · exact g1 y hy
          · simp at hy; subst hy; exact g2 y (by simp)
        · intro y hy
          rw [List.mem_append] at hy
          rcases hy with hy | hy
          · exact g2 y (by simp [hy])
          · exact hg x (g2 x (by simp)) y hy
theorem ss_next {C : PS.Ctx} {s : IS} {r : ISs} {env e1 : PS.Env} {h h1 : AH} (e : evS C s env h = .next e1 h1) : evSs C (.cons s r) env h = evSs C r e1 h1 := by
  show (match evS C s env h with
    | .next e1 h1 => evSs C r e1 h1
    | q => q) = _
  rw [e]
theorem ss_ret {C : PS.Ctx} {s : IS} {r : ISs} {env : PS.Env} {h h1 : AH} {m : Option Nat} {t : T} (e : evS C s env h = .ret m t h1) : evSs C (.cons s r) env h = .ret m t h1 := by
  show (match evS C s env h with
    | .next e1 h1 => evSs C r e1 h1
    | q => q) = _
  rw [e]
inductive RL (ls : List (List Int)) (s : Int) : Int → Prop
  | one {y : Int} : y ∈ Lof ls s → RL ls s y
  | more {x y : Int} : RL ls s x → y ∈ Lof ls x → RL ls s y
theorem undL_ints (n : Nat) : ∀ F : List Int, T.undL n (F.map T.int) = true
  | [] => rfl
  | x :: F => by simp only [List.map_cons, T.undL, T.und, Bool.true_and]; exact undL_ints n F
theorem undL_bls (n : Nat) : ∀ F : List Int, T.undL n (F.map fun _ => T.bl true) = true
  | [] => rfl
  | x :: F => by simp only [List.map_cons, T.undL, T.und, Bool.true_and]; exact undL_bls n F
theorem frz_bls (n0 : Nat) (h : AH) (d : Nat) : ∀ F : List Int, (F.map fun _ => T.bl true).mapM (frzV n0 h (d + 1)) = some (F.map fun _ => T.bl true)
  | [] => rfl
  | x :: F => by
    rw [List.map_cons, List.mapM_cons, frz_bls n0 h d F]
    rfl
abbrev LL (ls : List (List Int)) : T := .lst (ls.map fun l => .lst (l.map T.int))
theorem p_reached (k : Nat) (h : AH) (ls : List (List Int)) (s : Int) (h0 : 0 ≤ s) (h1 : s < ls.length) (hv : ∀ x : Int, 0 ≤ x → x < ls.length → ∀ y ∈ Lof ls x, 0 ≤ y ∧ y < (ls.length : Int)) (hz : (Lof ls s).length + wsum ls [] ls.length < 1000000) :
    ∃ F : List Int, runFn prg (k + 1) 3 [LL ls, .int s] h = .ok (.dct false (F.map T.int) (F.map fun _ => T.bl true)) h ∧ ∀ x, x ∈ F ↔ RL ls s x := by
  rw [run_eq (fn := ⟨2, 5, true, ir_reached⟩) rfl rfl]
  obtain ⟨F, c', e, iv, g, lF⟩ := reached_loop k h.length h ls s 1000000 (by rw [sizeLine_eq]; decide) (RL ls s) hv (fun x r y hy => .more r hy) whlFuel [] (Lof ls s) none hz (by simp; omega) (fun x hx => hv s h0 h1 x hx) ⟨fun y hy => .inr hy, fun x hx => by simp at hx⟩ (by simp) (fun x hx => .one hx)
  refine ⟨F, ?_, fun x => ⟨g x, fun r => ?_⟩⟩
  · have ix : idxT (h ++ [.dct false [] []]) (LL ls) (.int s) = some (.lst ((Lof ls s).map T.int)) := by
      rw [idx_lst, atI_map, atI_of h0 h1]; rfl
    have hz2 : ((Lof ls s).map T.int).length ≤ sizeLine := by
      rw [List.length_map, sizeLine_eq]; omega
    have fr : bfT true .list [.lst ((Lof ls s).map T.int)] (h ++ [.dct false [] []]) = .ok (.ref (h.length + 1)) (two h [] (Lof ls s)) := by
      show PS.fresh true ((Lof ls s).map T.int) (h ++ [.dct false [] []]) = _
      unfold PS.fresh
      rw [if_pos hz2, if_pos rfl]
      simp [two]
    have ff : frzV h.length (two h F []) 4 (.ref h.length) = some (.dct false (F.map T.int) (F.map fun _ => T.bl true)) := by
      show (if h.length < h.length then some (T.ref h.length) else match (two h F [])[h.length]? with
        | some (.lst xs) => (xs.mapM (frzV h.length (two h F []) 3)).map .lst
        | some (.dct tk ks vs) => if T.undL h.length ks = true then (vs.mapM (frzV h.length (two h F []) 3)).map (.dct tk ks) else none
        | _ => none) = _
      rw [if_neg (Nat.lt_irrefl _), two0]
      dsimp only
      rw [if_pos (undL_ints _ _), frz_bls]
      rfl
    have es : evSs ⟨runFn prg k, h.length, prg.sub, prg.xi⟩ ir_reached ([LL ls, .int s].map some ++ List.replicate (5 - 2) none) h = .ret (some h.length) (.dct false (F.map T.int) (F.map fun _ => T.bl true)) (two h F []) := by
      have e2 : evS ⟨runFn prg k, h.length, prg.sub, prg.xi⟩ (.whl (.var 3) rBody) (rE ls s h.length none) (two h [] (Lof ls s)) = .next (rE ls s h.length c') (two h F []) := e
      have s1 : evS ⟨runFn prg k, h.length, prg.sub, prg.xi⟩ (.asg (.nm 2) (.dic true false)) [some (LL ls), some (.int s), none, none, none] h = .next [some (LL ls), some (.int s), some (.ref h.length), none, none] (h ++ [.dct false [] []]) := rfl
      have s2 : evS ⟨runFn prg k, h.length, prg.sub, prg.xi⟩ (.asg (.nm 3) (.bf true .list (.cons (.idx (.var 0) (.var 1)) .nil))) [some (LL ls), some (.int s), some (.ref h.length), none, none] (h ++ [.dct false [] []]) = .next (rE ls s h.length none) (two h [] (Lof ls s)) := by
        simp [evS, evE, evL, ix, fr, TG.asg]
      have s4 : evS ⟨runFn prg k, h.length, prg.sub, prg.xi⟩ (.ret true (.var 2)) (rE ls s h.length c') (two h F []) = .ret (some h.length) (.dct false (F.map T.int) (F.map fun _ => T.bl true)) (two h F []) := by
        show (match frzV h.length (two h F []) 4 (.ref h.length) with
          | some t' => RS.ret (some h.length) t' (two h F [])
          | none => .stuck) = _
        rw [ff]
      exact (ss_next s1).trans ((ss_next s2).trans ((ss_next e2).trans (ss_ret s4)))
    rw [es]
    refine end_ret (.inr rfl) ?_
    simp only [T.und, undL_ints, undL_bls, Bool.and_self]
  · have cl : ∀ y, RL ls s y → y ∈ F := by
      intro y r
      induction r with
      | one hy => rcases iv.st _ hy with q | q; exact q; simp at q
      | more r hy ih => rcases iv.cl _ ih _ hy with q | q; exact q; simp at q
    exact cl x r
end LW
end
section
set_option maxRecDepth 100000
set_option maxHeartbeats 1000000
namespace LW
open PySem PS
theorem cutL_from (xs : List T) (n : Nat) (hn : n ≤ xs.length) : cutL xs (some (n : Int)) none = xs.drop n := by
  unfold cutL
  rw [HT.sIx_none, HT.sIx_nat, Nat.min_eq_left hn]
  exact List.take_of_length_le (by simp)
theorem cutL_two (a b : T) (r : List T) : cutL (a :: b :: r) (some 2) none = r := cutL_from (a :: b :: r) 2 (by simp)
theorem plL_mem : ∀ {xs : List T}, T.plL xs = true → ∀ x ∈ xs, x.pl = true
  | [], _, x, hx => by simp at hx
  | y :: xs, h, x, hx => by
    simp only [T.plL, Bool.and_eq_true] at h
    rcases List.mem_cons.mp hx with rfl | hx
    · exact h.1
    · exact plL_mem h.2 x hx
def isR (t : T) (K : Int) : Bool := match t with
  | .tup (a :: .str w :: c :: r) => inI a 0 (K - 1) && (match zs_PARTS.lookup w with
    | some (.int 0) => r.isEmpty && isW c
    | some (.int n) => decide (((r.length : Int) + 1) = n) && (c :: r).all fun x => inI x 0 (K - 1)
    | _ => false)
  | _ => false
theorem parts_look (w : Str) : (ks_PARTS.contains w = true ∧ ∃ n : Int, (n = 0 ∨ n = 1 ∨ n = 2) ∧ zs_PARTS.lookup w = some (.int n)) ∨ (ks_PARTS.contains w = false ∧ zs_PARTS.lookup w = none) := by
  by_cases h1 : w = "left"
  · subst h1; exact .inl ⟨rfl, 0, .inl rfl, rfl⟩
  by_cases h2 : w = "right"
  · subst h2; exact .inl ⟨rfl, 0, .inl rfl, rfl⟩
  by_cases h3 : w = "same"
  · subst h3; exact .inl ⟨rfl, 1, .inr (.inl rfl), rfl⟩
  by_cases h4 : w = "first"
  · subst h4; exact .inl ⟨rfl, 1, .inr (.inl rfl), rfl⟩
  by_cases h5 : w = "last"
  · subst h5; exact .inl ⟨rfl, 1, .inr (.inl rfl), rfl⟩
  by_cases h6 : w = "wrap"
  · subst h6; exact .inl ⟨rfl, 2, .inr (.inr rfl), rfl⟩
  by_cases h7 : w = "ahead"
  · subst h7; exact .inl ⟨rfl, 2, .inr (.inr rfl), rfl⟩
  by_cases h8 : w = "behind"
  · subst h8; exact .inl ⟨rfl, 2, .inr (.inr rfl), rfl⟩
  · refine .inr ⟨?_, ?_⟩
    · unfold ks_PARTS
      simp [h1, h2, h3, h4, h5, h6, h7, h8]
    · unfold zs_PARTS
      simp [List.lookup, beq_eq_false_iff_ne.mpr h1, beq_eq_false_iff_ne.mpr h2, beq_eq_false_iff_ne.mpr h3, beq_eq_false_iff_ne.mpr h4, beq_eq_false_iff_ne.mpr h5, beq_eq_false_iff_ne.mpr h6, beq_eq_false_iff_ne.mpr h7, beq_eq_false_iff_ne.mpr h8]
theorem p_is_rule (k : Nat) (h : AH) (t : T) (K : Int) (hp : t.pl = true) : runFn prg (k + 3) 5 [t, .int K] h = .ok (.bl (isR t K)) h := by
  rw [run_eq (fn := ⟨2, 4, true, ir_is_rule⟩) rfl rfl]
  have e : evSs ⟨runFn prg (k + 2), h.length, prg.sub, prg.xi⟩ ir_is_rule ([t, .int K].map some ++ List.replicate (4 - 2) none) h = .ret none (.bl (isR t K)) h := by
    cases t with
    | tup xs =>
      match xs, hp with
      | [], hp => simp [ir_is_rule, evSs, evS, evE, evL, evB, isTy_pl _ hp, isTyP, isR]
      | [a], hp => simp [ir_is_rule, evSs, evS, evE, evL, evB, isTy_pl _ hp, isTyP, isR]
      | [a, b], hp => simp [ir_is_rule, evSs, evS, evE, evL, evB, isTy_pl _ hp, isTyP, isR]
      | a :: b :: c :: r, hp =>
        have hpa : a.pl = true := by simp [T.pl, T.plL] at hp; exact hp.2.1
        have hpb : b.pl = true := by simp [T.pl, T.plL] at hp; exact hp.2.2.1
        have hpc : c.pl = true := by simp [T.pl, T.plL] at hp; exact hp.2.2.2.1
        have i0 : idxT h (.tup (a :: b :: c :: r)) (.int 0) = some a := L2.atI_nat (j := 0) rfl
        have i1 : idxT h (.tup (a :: b :: c :: r)) (.int 1) = some b := L2.atI_nat (j := 1) rfl
        have i2 : idxT h (.tup (a :: b :: c :: r)) (.int 2) = some c := L2.atI_nat (j := 2) rfl
        have l3 : ¬ ((r.length : Int) + 1 + 1 + 1 < 3) := by omega
        have ca := p_is_integer_in k h a 0 (K - 1) hpa
        cases hia : inI a 0 (K - 1) with
        | false =>
          have er : isR (.tup (a :: b :: c :: r)) K = false := by
            unfold isR
            cases b <;> simp [hia]
          simp [ir_is_rule, evSs, evS, evE, evL, evB, isTy_pl _ hp, isTyP, i0, i1, i2, l3, ca, hia, er]
        | true =>
          cases b with
          | str w =>
            rcases parts_look w with ⟨hm, n, hn, hl⟩ | ⟨hm, hl⟩
            · have hm2 : w ∈ ks_PARTS := by simpa using hm
              rcases hn with rfl | hn
              · have cw := p_is_word (k + 1) h c hpc
                have er : isR (.tup (a :: .str w :: c :: r)) K = (r.isEmpty && isW c) := by
                  unfold isR
                  simp [hia, hl]
                rw [er]
                cases r with
                | nil =>
                  simp [ir_is_rule, evSs, evS, evE, evL, evB, isTy_pl _ hp, isTy_pl _ hpb, isTyP, i0, i1, i2, ca, hia, hm2, hl, TG.asg, cw]
                | cons y r =>
                  have l4 : ¬ ((r.length : Int) + 1 + 1 + 1 + 1 < 3) := by omega
                  have l5 : ¬ ((r.length : Int) + 1 + 1 + 1 + 1 = 3) := by omega
                  simp [ir_is_rule, evSs, evS, evE, evL, evB, isTy_pl _ hp, isTy_pl _ hpb, isTyP, i0, i1, i2, l4, l5, ca, hia, hm2, hl, TG.asg, cw]
              · have n0 : n ≠ 0 := by omega
                have er : isR (.tup (a :: .str w :: c :: r)) K = (decide (((r.length : Int) + 1) = n) && (c :: r).all fun x => inI x 0 (K - 1)) := by
                  unfold isR
                  rcases hn with rfl | rfl <;> simp [hia, hl]
                rw [er]
                have hcr : ∀ x ∈ c :: r, x.pl = true := by
                  have q : T.plL (c :: r) = true := by simp [T.pl, T.plL] at hp ⊢; exact hp.2.2.2
                  exact plL_mem q
                have sl : slcT false (.tup (a :: .str w :: c :: r)) (some 2) none h = .ok (.tup (c :: r)) h := by
                  show (R.ok (T.tup (cutL (a :: .str w :: c :: r) (some 2) none)) h : R T) = _
                  rw [cutL_two]
                have hlen : (c :: r).length ≤ sizeLine := by
                  simp [T.pl] at hp
                  rw [sizeLine_eq]; simp; omega
                have lq : decide (((r.length : Int) + 1 + 1 + 1) = 2 + n) = decide (((r.length : Int) + 1) = n) := by
                  apply decide_eq_decide.mpr; omega
                have lq2 : ((r.length : Int) + 1 + 1 + 1 = 2 + n) ↔ ((r.length : Int) + 1 = n) := by omega
                by_cases hq : (r.length : Int) + 1 = n
                · have l3n : ¬ (2 + n < 3) := by omega
                  have l6 : n + 1 + 1 = 2 + n := by omega
                  have cl := compL_pure (g := TG.nm 3) (cond := fun _ h => .ok true h) (elt := fun env h => (evE ⟨runFn prg (k + 2), h.length, prg.sub, prg.xi⟩ (.call 1 (.cons (.var 3) (.cons (.cst (.int 0)) (.cons (.bin false .sub (.var 1) (.cst (.int 1))) .nil)))) env h).nox) (chk := (⟨c :: r, none⟩ : Items).chk) (c := fun _ => true) (f := fun x => .bl (inI x 0 (K - 1))) (env := wipeE [some (.tup (a :: .str w :: c :: r)), some (.int K), some (.int n), none] [3]) (h := h) trivial (xs := c :: r) (fun y hy => ⟨[some (.tup (a :: .str w :: c :: r)), some (.int K), some (.int n), some y], rfl, rfl, fun _ => by
                    show (R.nox (runFn prg (k + 2) 1 [y, .int 0, .int (K - 1)] h)) = _
                    rw [p_is_integer_in k h y 0 (K - 1) (hcr y hy)]; rfl⟩)
                  rw [show (c :: r).filter (fun _ => true) = c :: r from by simp, show ((c :: r).map fun x => T.bl (inI x 0 (K - 1))) = ((c :: r).map fun x => inI x 0 (K - 1)).map T.bl from by rw [List.map_map]; rfl] at cl
                  have hz : (((c :: r).map fun x => inI x 0 (K - 1)).map T.bl).length ≤ sizeLine := by
                    rw [List.length_map, List.length_map]; exact hlen
                  simp [ir_is_rule, evSs, evS, evE, evL, evB, evI, evO, isTy_pl _ hp, isTy_pl _ hpb, isTyP, i0, i1, i2, l3, ca, hia, hm2, hl, TG.asg, n0, sl, lq2, hq, l3n, l6] at cl ⊢
                  rw [cl]
                  simp only [R.nox_ok, R.bind_ok]
                  rw [show ∀ (l : List T) (h : AH), l.length ≤ sizeLine → PS.fresh false l h = .ok (.lst l) h from fun l h hl => fresh_f hl]
                  · simp only [R.bind_ok]
                    rw [show (T.bl (inI c 0 (K - 1)) :: List.map (T.bl ∘ fun x => inI x 0 (K - 1)) r) = ((c :: r).map fun x => inI x 0 (K - 1)).map T.bl from by simp, bf_all_bls, all_id]
                    simp
                  · simpa using hlen
                · simp [ir_is_rule, evSs, evS, evE, evL, evB, evI, evO, isTy_pl _ hp, isTy_pl _ hpb, isTyP, i0, i1, i2, l3, ca, hia, hm2, hl, TG.asg, n0, sl, lq2, hq]
            · have hm2 : ¬ w ∈ ks_PARTS := by simpa using hm
              have er : isR (.tup (a :: .str w :: c :: r)) K = false := by
                unfold isR
                simp [hl]
              simp [ir_is_rule, evSs, evS, evE, evL, evB, isTy_pl _ hp, isTy_pl _ hpb, isTyP, i0, i1, i2, l3, ca, hia, hm2, er]
          | _ =>
            simp [ir_is_rule, evSs, evS, evE, evL, evB, isTy_pl _ hp, isTy_pl _ hpb, isTyP, i0, i1, i2, l3, ca, hia, isR]
    | _ => simp [ir_is_rule, evSs, evS, evE, evL, evB, isTy_pl _ hp, isTyP, isR]
  rw [e]
  exact end_ret0 (.inl rfl) rfl
def IsBack (P : Nat → Prop) (n : Nat) : T → Prop
  | .int i => ∃ q : Nat, i = q ∧ q < n ∧ P q ∧ ∀ j, j < q → ¬ P j
  | .non => ∀ j, j < n → ¬ P j
  | _ => False
theorem back_uni {P Q : Nat → Prop} {n : Nat} (hPQ : ∀ j, j < n → (P j ↔ Q j)) {t u : T} (a : IsBack P n t) (b : IsBack Q n u) : t = u := by
  cases t with
  | non => cases u with
    | non => rfl
    | int i =>
      obtain ⟨q, rfl, h1, h2, h3⟩ := b
      exact absurd ((hPQ q h1).mpr h2) (a q h1)
    | _ => exact absurd b id
  | int i =>
    obtain ⟨q, rfl, h1, h2, h3⟩ := a
    cases u with
    | non => exact absurd ((hPQ q h1).mp h2) (b q h1)
    | int i' =>
      obtain ⟨q', rfl, g1, g2, g3⟩ := b
      rcases Nat.lt_trichotomy q q' with l | l | l
      · exact absurd ((hPQ q h1).mp h2) (g3 q l)
      · subst l; rfl
      · exact absurd ((hPQ q' g1).mpr g2) (h3 q' l)
    | _ => exact absurd b id
  | _ => exact absurd a id
theorem back_or {P : Nat → Prop} {n : Nat} {t : T} (a : IsBack P n t) : t = .non ∨ ∃ q : Nat, t = .int q ∧ q < n := by
  cases t with
  | non => exact .inl rfl
  | int i =>
    obtain ⟨q, rfl, h1, h2, h3⟩ := a
    exact .inr ⟨q, rfl, h1⟩
  | _ => exact absurd a id
theorem isin_ints {h : AH} {F vs : List T} {L : List Int} (e : F = L.map T.int) (x : Int) : cmpT .isin h (.int x) (.dct false F vs) = some (L.contains x) := by
  subst e
  show some (findK (.num x) (L.map T.int)).isSome = _
  rw [find_int]
theorem range_succ (i : Int) (m : Nat) : rangeT i (m + 1) = .int i :: rangeT (i + 1) m := by
  unfold rangeT
  rw [List.range_succ_eq_map, List.map_cons, List.map_map]
  congr 1
  · simp
  · refine List.map_congr_left fun k _ => ?_
    simp only [Function.comp_apply]
    congr 1
    omega
theorem forL_ret {g : TG} {body : PS.Env → AH → RS} {chk : AH → Prop} {x t : T} {xs : List T} {env e1 : PS.Env} {h h2 : AH} {m : Option Nat} (a : g.asg x env = some e1) (b : body e1 h = .ret m t h2) : forL g body chk (x :: xs) env h = .ret m t h2 := by
  unfold forL
  rw [a]
  dsimp only
  rw [b]
theorem forL_next {g : TG} {body : PS.Env → AH → RS} {chk : AH → Prop} {x : T} {xs : List T} {env e1 e2 : PS.Env} {h h2 : AH} (a : g.asg x env = some e1) (b : body e1 h = .next e2 h2) (c : chk h2) : forL g body chk (x :: xs) env h = forL g body chk xs e2 h2 := by
  show (match g.asg x env with
    | none => _
    | some e1 => _) = _
  rw [a]
  dsimp only
  rw [b]
  dsimp only
  rw [if_pos c]
theorem lb_loop (k n0 : Nat) (h : AH) (ls : List (List Int)) (hv : ∀ x : Int, 0 ≤ x → x < ls.length → ∀ y ∈ Lof ls x, 0 ≤ y ∧ y < (ls.length : Int)) (hz : ∀ s : Int, 0 ≤ s → s < ls.length → (Lof ls s).length + wsum ls [] ls.length < 1000000) :
    ∀ (m i : Nat) (c : Option T), i + m = ls.length → (∀ j : Nat, j < i → ¬ RL ls j j) →
    (∃ q : Nat, IsBack (fun j => RL ls j j) ls.length (.int q) ∧ forL (.nm 1) (fun env h => evSs ⟨runFn prg (k + 1), n0, prg.sub, prg.xi⟩ (.cons (.ife (.cmp .isin (.var 1) (.call 3 (.cons (.var 0) (.cons (.var 1) .nil)))) (.cons (.ret false (.var 1)) .nil) .nil) .nil) env h) (⟨rangeT 0 ls.length, none⟩ : Items).chk (rangeT i m) [some (LL ls), c] h = .ret none (.int q) h) ∨
    (IsBack (fun j => RL ls j j) ls.length .non ∧ ∃ c', forL (.nm 1) (fun env h => evSs ⟨runFn prg (k + 1), n0, prg.sub, prg.xi⟩ (.cons (.ife (.cmp .isin (.var 1) (.call 3 (.cons (.var 0) (.cons (.var 1) .nil)))) (.cons (.ret false (.var 1)) .nil) .nil) .nil) env h) (⟨rangeT 0 ls.length, none⟩ : Items).chk (rangeT i m) [some (LL ls), c] h = .next [some (LL ls), c'] h)
  | 0, i, c, hi, hn => .inr ⟨fun j hj => hn j (by omega), c, rfl⟩
  | m + 1, i, c, hi, hn => by
    have i0 : (0 : Int) ≤ i := by omega
    have i1 : (i : Int) < ls.length := by omega
    obtain ⟨F, e, hF⟩ := p_reached k h ls i i0 i1 hv (hz i i0 i1)
    have ei : (F.map T.int) = F.map T.int := rfl
    by_cases hR : RL ls i i
    · have hm : (i : Int) ∈ F := (hF i).mpr hR
      refine .inl ⟨i, ⟨i, rfl, by omega, hR, hn⟩, ?_⟩
      have : evSs ⟨runFn prg (k + 1), n0, prg.sub, prg.xi⟩ (.cons (.ife (.cmp .isin (.var 1) (.call 3 (.cons (.var 0) (.cons (.var 1) .nil)))) (.cons (.ret false (.var 1)) .nil) .nil) .nil) [some (LL ls), some (.int i)] h = .ret none (.int i) h := by
        simp [evSs, evS, evE, evL, evB, e, isin_ints rfl, hm]
      rw [range_succ]
      exact forL_ret rfl this
    · have hm : ¬ (i : Int) ∈ F := fun z => hR ((hF i).mp z)
      have : evSs ⟨runFn prg (k + 1), n0, prg.sub, prg.xi⟩ (.cons (.ife (.cmp .isin (.var 1) (.call 3 (.cons (.var 0) (.cons (.var 1) .nil)))) (.cons (.ret false (.var 1)) .nil) .nil) .nil) [some (LL ls), some (.int i)] h = .next [some (LL ls), some (.int i)] h := by
        simp [evSs, evS, evE, evL, evB, e, isin_ints rfl, hm]
      have ih := lb_loop k n0 h ls hv hz m (i + 1) (some (.int i)) (by omega) (fun j hj => by
        rcases Nat.lt_succ_iff_lt_or_eq.mp hj with l | l
        · exact hn j l
        · subst l; exact hR)
      have st : forL (.nm 1) (fun env h => evSs ⟨runFn prg (k + 1), n0, prg.sub, prg.xi⟩ (.cons (.ife (.cmp .isin (.var 1) (.call 3 (.cons (.var 0) (.cons (.var 1) .nil)))) (.cons (.ret false (.var 1)) .nil) .nil) .nil) env h) (⟨rangeT 0 ls.length, none⟩ : Items).chk (rangeT i (m + 1)) [some (LL ls), c] h = forL (.nm 1) (fun env h => evSs ⟨runFn prg (k + 1), n0, prg.sub, prg.xi⟩ (.cons (.ife (.cmp .isin (.var 1) (.call 3 (.cons (.var 0) (.cons (.var 1) .nil)))) (.cons (.ret false (.var 1)) .nil) .nil) .nil) env h) (⟨rangeT 0 ls.length, none⟩ : Items).chk (rangeT ((i + 1 : Nat) : Int) m) [some (LL ls), some (.int i)] h := by
        rw [range_succ]
        exact forL_next rfl this trivial
      rw [st]
      exact ih
theorem small_nat {n : Nat} (h : n < 1000000) : small62 (n : Int) := ⟨by omega, by omega⟩
theorem rng_items {C : PS.Ctx} {a : IE} {env : PS.Env} {h h1 : AH} {n : Nat} (e : evE C a env h = .ok (.int (n : Int)) h1) (sm : small62 (n : Int)) : evI C (.rng a) env h = .ok ⟨rangeT 0 n, none⟩ h1 := by
  unfold evI
  rw [e, R.bind_ok]
  dsimp only
  rw [if_pos sm, Int.toNat_natCast]
theorem lb_items (k n0 : Nat) (h : AH) (ls : List (List Int)) (hl : ls.length < 1000) : evI ⟨runFn prg (k + 1), n0, prg.sub, prg.xi⟩ (.rng (.bf false .len (.cons (.var 0) .nil))) [some (LL ls), none] h = .ok ⟨rangeT 0 ls.length, none⟩ h := by
  have sm : small62 (ls.length : Int) := small_nat (by omega)
  have e0 : evE ⟨runFn prg (k + 1), n0, prg.sub, prg.xi⟩ (.bf false .len (.cons (.var 0) .nil)) [some (LL ls), none] h = .ok (.int (ls.length : Int)) h := by
    simp [evE, evL]
  exact rng_items e0 sm
theorem p_least_back (k : Nat) (h : AH) (ls : List (List Int)) (hl : ls.length < 1000) (hv : ∀ x : Int, 0 ≤ x → x < ls.length → ∀ y ∈ Lof ls x, 0 ≤ y ∧ y < (ls.length : Int)) (hz : ∀ s : Int, 0 ≤ s → s < ls.length → (Lof ls s).length + wsum ls [] ls.length < 1000000) :
    ∃ t, runFn prg (k + 2) 4 [LL ls] h = .ok t h ∧ IsBack (fun j => RL ls j j) ls.length t := by
  rw [run_eq (fn := ⟨1, 2, true, ir_least_back⟩) rfl rfl]
  have ei := lb_items k h.length h ls hl
  rcases lb_loop k h.length h ls hv hz ls.length 0 none (by omega) (fun j hj => absurd hj (Nat.not_lt_zero _)) with ⟨q, b, e⟩ | ⟨b, c', e⟩
  · refine ⟨.int q, ?_, b⟩
    have : evSs ⟨runFn prg (k + 1), h.length, prg.sub, prg.xi⟩ ir_least_back ([LL ls].map some ++ List.replicate (2 - 1) none) h = .ret none (.int q) h := by
      refine ss_ret ?_
      unfold evS
      show (evI ⟨runFn prg (k + 1), h.length, prg.sub, prg.xi⟩ (.rng (.bf false .len (.cons (.var 0) .nil))) [some (LL ls), none] h).toS _ _ _ = _
      rw [ei]
      exact e
    rw [this]
    exact end_ret0 (.inl rfl) rfl
  · refine ⟨.non, ?_, b⟩
    have : evSs ⟨runFn prg (k + 1), h.length, prg.sub, prg.xi⟩ ir_least_back ([LL ls].map some ++ List.replicate (2 - 1) none) h = .ret none .non h := by
      refine (ss_next (e1 := [some (LL ls), c']) (h1 := h) ?_).trans rfl
      unfold evS
      show (evI ⟨runFn prg (k + 1), h.length, prg.sub, prg.xi⟩ (.rng (.bf false .len (.cons (.var 0) .nil))) [some (LL ls), none] h).toS _ _ _ = _
      rw [ei]
      exact e
    rw [this]
    exact end_ret0 (.inl rfl) rfl
end LW
end
section
set_option maxRecDepth 100000
set_option maxHeartbeats 1000000
namespace LW
open PySem PS
def isU (w : Str) : Bool := decide (w = "same") || decide (w = "first") || decide (w = "last")
def unS : T → Option (Int × Int)
  | .tup [.int a, .str w, .int c] => if isU w = true then some (a, c) else none
  | _ => none
theorem parts_u {w : Str} {n : Int} (e : zs_PARTS.lookup w = some (.int n)) : (n = 1 ∧ isU w = true) ∨ (n ≠ 1 ∧ isU w = false) := by
  by_cases h1 : w = "left"
  · subst h1; cases e; exact .inr ⟨by decide, rfl⟩
  by_cases h2 : w = "right"
  · subst h2; cases e; exact .inr ⟨by decide, rfl⟩
  by_cases h3 : w = "same"
  · subst h3; cases e; exact .inl ⟨rfl, rfl⟩
  by_cases h4 : w = "first"
  · subst h4; cases e; exact .inl ⟨rfl, rfl⟩
  by_cases h5 : w = "last"
  · subst h5; cases e; exact .inl ⟨rfl, rfl⟩
  by_cases h6 : w = "wrap"
  · subst h6; cases e; exact .inr ⟨by decide, rfl⟩
  by_cases h7 : w = "ahead"
  · subst h7; cases e; exact .inr ⟨by decide, rfl⟩
  by_cases h8 : w = "behind"
  · subst h8; cases e; exact .inr ⟨by decide, rfl⟩
  · unfold zs_PARTS at e
    simp [List.lookup, beq_eq_false_iff_ne.mpr h1, beq_eq_false_iff_ne.mpr h2, beq_eq_false_iff_ne.mpr h3, beq_eq_false_iff_ne.mpr h4, beq_eq_false_iff_ne.mpr h5, beq_eq_false_iff_ne.mpr h6, beq_eq_false_iff_ne.mpr h7, beq_eq_false_iff_ne.mpr h8] at e
theorem inI_int {t : T} {a b : Int} (h : inI t a b = true) : ∃ i, t = .int i ∧ a ≤ i ∧ i ≤ b := by
  cases t <;> simp [inI, isI] at h
  exact ⟨_, rfl, h.1, h.2⟩
theorem isR_shape {t : T} {K : Int} (h : isR t K = true) : ∃ a w c r n, t = .tup (.int a :: .str w :: c :: r) ∧ 0 ≤ a ∧ a < K ∧ zs_PARTS.lookup w = some (.int n) ∧ ((n = 1 ∧ isU w = true ∧ r = [] ∧ ∃ d, c = .int d ∧ 0 ≤ d ∧ d < K) ∨ (n ≠ 1 ∧ isU w = false)) := by
  unfold isR at h
  split at h
  · rename_i a w c r
    simp only [Bool.and_eq_true] at h
    obtain ⟨i, rfl, i0, i1⟩ := inI_int h.1
    rcases parts_look w with ⟨_, n, hn, hl⟩ | ⟨_, hl⟩
    · refine ⟨i, w, c, r, n, rfl, i0, by omega, hl, ?_⟩
      rcases parts_u hl with ⟨rfl, hu⟩ | ⟨q, hu⟩
      · refine .inl ⟨rfl, hu, ?_⟩
        have h2 := h.2
        rw [hl] at h2
        simp at h2
        obtain ⟨d, rfl, d0, d1⟩ := inI_int h2.2.1
        refine ⟨?_, d, rfl, d0, by omega⟩
        have := h2.1
        cases r with
        | nil => rfl
        | cons y r => simp at this; omega
      · exact .inr ⟨q, hu⟩
    · rw [hl] at h
      simp at h
  · cases h
def stepsOf (E : List (Int × Int)) (K : Nat) : List (List Int) := (List.range K).map fun (j : Nat) => (E.filter fun p => p.1 == (j : Int)).map (·.2)
abbrev cellsOf (ls : List (List Int)) : AH := ls.map fun l => Cell.lst (l.map T.int)
abbrev refsOf (n K : Nat) : List T := (List.range K).map fun (j : Nat) => T.ref (n + j)
abbrev ssH (h : AH) (E : List (Int × Int)) (K : Nat) : AH := h ++ (cellsOf (stepsOf E K) ++ [.lst (refsOf h.length K)])
theorem steps_len (E : List (Int × Int)) (K : Nat) : (stepsOf E K).length = K := by simp [stepsOf]
theorem ssH_top (h : AH) (E : List (Int × Int)) (K : Nat) : (ssH h E K)[h.length + K]? = some (.lst (refsOf h.length K)) := by
  unfold ssH
  rw [List.getElem?_append_right (by omega), List.getElem?_append_right (by simp [steps_len])]
  simp [steps_len]
theorem ssH_at (h : AH) (E : List (Int × Int)) {K a : Nat} (ha : a < K) : (ssH h E K)[h.length + a]? = some (.lst (((E.filter fun p => p.1 == (a : Int)).map (·.2)).map T.int)) := by
  unfold ssH
  rw [List.getElem?_append_right (by omega), List.getElem?_append_left (by simp [steps_len]; omega)]
  simp [stepsOf, ha]
theorem ssH_set (h : AH) (E : List (Int × Int)) {K a : Nat} (c : Int) (ha : a < K) : (ssH h E K).set (h.length + a) (.lst (((E.filter fun p => p.1 == (a : Int)).map (·.2)).map T.int ++ [.int c])) = ssH h (E ++ [((a : Int), c)]) K := by
  unfold ssH
  rw [List.set_append_right _ _ (by omega), List.set_append_left _ _ (by simp [steps_len]; omega)]
  congr 2
  unfold cellsOf stepsOf
  refine List.ext_getElem (by simp) fun j h1 h2 => ?_
  simp at h1 h2
  rw [List.getElem_set]
  by_cases e : a = j
  · subst e
    simp [List.filter_append]
  · have : ¬ ((a : Int) = j) := by omega
    simp [e, List.filter_append, this]
theorem ss_turn (k n0 K : Nat) (h : AH) (rs : T) (t : T) (c4 : Option T) (E : List (Int × Int)) (hE : E.length < 1000) (ht : isR t K = true) :
    evSs ⟨runFn prg k, n0, prg.sub, prg.xi⟩ (.cons (.ife (.cmp .eq (.kget 0 zs_PARTS (.idx (.var 3) (.cst (.int 1)))) (.cst (.int 1))) (.cons (.ex (.bm false .append (.idx (.var 2) (.idx (.var 3) (.cst (.int 0)))) (.cons (.idx (.var 3) (.cst (.int 2))) .nil))) .nil) .nil) .nil) [some (.int K), some rs, some (.ref (h.length + K)), some t, c4] (ssH h E K) = .next [some (.int K), some rs, some (.ref (h.length + K)), some t, c4] (ssH h (E ++ (unS t).toList) K) := by
  obtain ⟨a, w, c, r, n, rfl, a0, a1, hl, q⟩ := isR_shape ht
  have i0 : idxT (ssH h E K) (.tup (.int a :: .str w :: c :: r)) (.int 0) = some (.int a) := L2.atI_nat (j := 0) rfl
  have i1 : idxT (ssH h E K) (.tup (.int a :: .str w :: c :: r)) (.int 1) = some (.str w) := L2.atI_nat (j := 1) rfl
  have i2 : idxT (ssH h E K) (.tup (.int a :: .str w :: c :: r)) (.int 2) = some c := L2.atI_nat (j := 2) rfl
  rcases q with ⟨rfl, hu, rfl, d, rfl, d0, d1⟩ | ⟨n1, hu⟩
  · obtain ⟨b, rfl⟩ := Int.eq_ofNat_of_zero_le a0
    have hb : b < K := by omega
    have ix : idxT (ssH h E K) (.ref (h.length + K)) (.int (b : Int)) = some (.ref (h.length + b)) := by
      rw [idx_cell (ssH_top h E K)]
      exact L2.atI_nat (by simp [hb])
    have cl := ssH_at h E hb
    have ok : bmOk .append (.ref (h.length + b)) (ssH h E K) = true := by
      show (isList (ssH h E K) (.ref (h.length + b))).isSome = true
      unfold isList
      rw [snap_cell cl]; rfl
    have ap := app_cell (m := false) (t := .int d) cl (by
      rw [List.length_map, List.length_map, sizeLine_eq]
      have := List.length_filter_le (fun p : Int × Int => p.1 == (b : Int)) E
      omega)
    have us : (unS (.tup [.int (b : Int), .str w, .int d])).toList = [((b : Int), d)] := by
      simp [unS, hu]
    rw [us, ← ssH_set h E d hb]
    simp [evSs, evS, evE, evL, evB, i0, i1, i2, hl, ix, ok, ap]
  · have us : (unS (.tup (.int a :: .str w :: c :: r))).toList = [] := by
      unfold unS
      split
      · rename_i e
        simp at e
        obtain ⟨_, rfl, _⟩ := e
        simp [hu]
      · rfl
    rw [us, List.append_nil]
    simp [evSs, evS, evE, evL, evB, i0, i1, i2, hl, n1]
theorem compL_elt {g : TG} {cond : PS.Env → AH → R Bool} {elt : PS.Env → AH → R T} {chk : AH → Prop} {x t : T} {xs : List T} {env e1 : PS.Env} {h h1 h2 : AH} (a : g.asg x env = some e1) (b : cond e1 h = .ok true h1) (c : elt e1 h1 = .ok t h2) (d : chk h2) : compL g cond elt chk (x :: xs) env h = (compL g cond elt chk xs env h2).bind fun ts h3 => .ok (t :: ts) h3 := by
  rw [compL]
  rw [a]
  dsimp only
  rw [b]
  simp only [R.bind_ok, c, if_pos d]
theorem comp_cells (C : PS.Ctx) (x0 x1 : Option T) (I : List T) : ∀ (m : Nat) (i : Int) (h : AH), compL (.nm 4) (fun _ h => .ok true h) (fun env h => (evE C (.lst true .nil) env h).nox) (⟨I, none⟩ : Items).chk (rangeT i m) [x0, x1, none, none, none] h = .ok ((List.range m).map fun (j : Nat) => T.ref (h.length + j)) (h ++ List.replicate m (.lst []))
  | 0, i, h => by
    show R.ok _ _ = _
    simp
  | m + 1, i, h => by
    have ih := comp_cells C x0 x1 I m (i + 1) (h ++ [.lst []])
    rw [range_succ]
    have el : (evE C (.lst true .nil) [x0, x1, none, none, some (T.int i)] h).nox = .ok (.ref h.length) (h ++ [.lst []]) := rfl
    rw [compL_elt (e1 := [x0, x1, none, none, some (T.int i)]) rfl rfl el trivial, ih, R.bind_ok, List.range_succ_eq_map, List.map_cons, List.map_map]
    have a : (List.range m).map (fun (j : Nat) => T.ref ((h ++ [Cell.lst []]).length + j)) = (List.range m).map ((fun (j : Nat) => T.ref (h.length + j)) ∘ Nat.succ) := by
      refine List.map_congr_left fun j _ => ?_
      simp only [Function.comp_apply, List.length_append, List.length_singleton]
      congr 1; omega
    rw [a, List.append_assoc]
    rfl
theorem mapM_all {α : Type} (g : T → Option T) (f g' : α → T) : ∀ L : List α, (∀ x ∈ L, g (f x) = some (g' x)) → (L.map f).mapM g = some (L.map g')
  | [], _ => rfl
  | x :: L, H => by
    rw [List.map_cons, List.mapM_cons, H x (by simp), mapM_all g f g' L fun y hy => H y (by simp [hy])]
    rfl
theorem stepsOf_nil (K : Nat) : cellsOf (stepsOf [] K) = List.replicate K (.lst []) := by
  unfold cellsOf stepsOf
  rw [List.map_map]
  refine List.ext_getElem (by simp) fun j h1 h2 => ?_
  simp
theorem ss_frz (h : AH) (E : List (Int × Int)) (K : Nat) : frzV h.length (ssH h E K) 4 (.ref (h.length + K)) = some (LL (stepsOf E K)) := by
  show (if h.length + K < h.length then some (T.ref (h.length + K)) else match (ssH h E K)[h.length + K]? with
    | some (.lst xs) => (xs.mapM (frzV h.length (ssH h E K) 3)).map .lst
    | some (.dct tk ks vs) => if T.undL h.length ks = true then (vs.mapM (frzV h.length (ssH h E K) 3)).map (.dct tk ks) else none
    | _ => none) = _
  rw [if_neg (by omega), ssH_top]
  dsimp only
  rw [mapM_all (frzV h.length (ssH h E K) 3) (fun (j : Nat) => T.ref (h.length + j)) (fun (j : Nat) => T.lst (((E.filter fun p => p.1 == (j : Int)).map (·.2)).map T.int)) (List.range K) fun j hj => by
    have hj := List.mem_range.mp hj
    show (if h.length + j < h.length then some (T.ref (h.length + j)) else match (ssH h E K)[h.length + j]? with
      | some (.lst xs) => (xs.mapM (frzV h.length (ssH h E K) 2)).map .lst
      | some (.dct tk ks vs) => if T.undL h.length ks = true then (vs.mapM (frzV h.length (ssH h E K) 2)).map (.dct tk ks) else none
      | _ => none) = _
    rw [if_neg (by omega), ssH_at h E hj]
    dsimp only
    rw [mapM_all (frzV h.length (ssH h E K) 2) T.int T.int _ fun x _ => rfl]
    rfl]
  show some (T.lst _) = some (T.lst ((stepsOf E K).map _))
  unfold stepsOf
  rw [List.map_map]
  rfl
theorem LL_und (n : Nat) : ∀ ls : List (List Int), T.undL n (ls.map fun l => T.lst (l.map T.int)) = true
  | [] => rfl
  | l :: ls => by
    simp only [List.map_cons, T.undL, T.und, undL_ints, Bool.true_and]
    exact LL_und n ls
theorem p_single_steps (k K : Nat) (h : AH) (rs : List T) (hK : K ≤ 1000) (hr : rs.length < 1000) (ht : ∀ t ∈ rs, isR t K = true) :
    runFn prg (k + 1) 6 [.int K, .tup rs] h = .ok (LL (stepsOf (rs.filterMap unS) K)) h := by
  rw [run_eq (fn := ⟨2, 5, true, ir_single_steps⟩) rfl rfl]
  have s1 : evS ⟨runFn prg k, h.length, prg.sub, prg.xi⟩ (.asg (.nm 2) (.comp true [4] (.nm 4) (.rng (.var 0)) .none (.lst true .nil))) [some (.int K), some (.tup rs), none, none, none] h = .next [some (.int K), some (.tup rs), some (.ref (h.length + K)), none, none] (ssH h [] K) := by
    have e : evE ⟨runFn prg k, h.length, prg.sub, prg.xi⟩ (.comp true [4] (.nm 4) (.rng (.var 0)) .none (.lst true .nil)) [some (.int K), some (.tup rs), none, none, none] h = .ok (.ref (h.length + K)) (ssH h [] K) := by
      unfold evE
      rw [rng_items (n := K) (h1 := h) rfl (small_nat (by omega)), R.bind_ok]
      have cc := comp_cells ⟨runFn prg k, h.length, prg.sub, prg.xi⟩ (some (.int K)) (some (.tup rs)) (rangeT 0 K) K 0 h
      refine (congrArg (fun r : R (List T) => r.nox.bind fun ts h2 => PS.fresh true ts h2) cc).trans ?_
      rw [R.nox_ok, R.bind_ok]
      unfold PS.fresh
      rw [if_pos (by rw [List.length_map, List.length_range, sizeLine_eq]; omega), if_pos rfl, ssH, stepsOf_nil, List.append_assoc, List.length_append, List.length_replicate]
    unfold evS
    rw [e]
    rfl
  obtain ⟨e2, h2, s2, c, rfl, rfl⟩ := forL_inv (g := .nm 3) (body := fun env hh => evSs ⟨runFn prg k, h.length, prg.sub, prg.xi⟩ (.cons (.ife (.cmp .eq (.kget 0 zs_PARTS (.idx (.var 3) (.cst (.int 1)))) (.cst (.int 1))) (.cons (.ex (.bm false .append (.idx (.var 2) (.idx (.var 3) (.cst (.int 0)))) (.cons (.idx (.var 3) (.cst (.int 2))) .nil))) .nil) .nil) .nil) env hh) (chk := (⟨rs, none⟩ : Items).chk) (fun d e hh => ∃ c, e = [some (.int K), some (.tup rs), some (.ref (h.length + K)), c, none] ∧ hh = ssH h (d.filterMap unS) K) (done := []) (rest := rs) (env := [some (.int K), some (.tup rs), some (.ref (h.length + K)), none, none]) (h := ssH h [] K) ⟨none, rfl, rfl⟩ (fun d x r e hh eq ⟨c, he, hH⟩ => by
    subst he; subst hH
    rw [List.nil_append] at eq
    have hx : isR x K = true := ht x (by rw [eq]; simp)
    have hd : (d.filterMap unS).length < 1000 := by
      have a := List.length_filterMap_le unS d
      have b : rs.length = d.length + (r.length + 1) := by rw [eq]; simp
      omega
    refine ⟨_, rfl, _, _, ss_turn k h.length K h (.tup rs) x none (d.filterMap unS) hd hx, trivial, some x, rfl, ?_⟩
    rw [List.filterMap_append]
    congr 2)
  rw [List.nil_append] at s2
  have es : evSs ⟨runFn prg k, h.length, prg.sub, prg.xi⟩ ir_single_steps ([.int K, .tup rs].map some ++ List.replicate (5 - 2) none) h = .ret (some h.length) (LL (stepsOf (rs.filterMap unS) K)) (ssH h (rs.filterMap unS) K) := by
    refine (ss_next s1).trans ((ss_next (e1 := [some (.int K), some (.tup rs), some (.ref (h.length + K)), c, none]) (h1 := ssH h (rs.filterMap unS) K) ?_).trans (ss_ret ?_))
    · unfold evS
      exact s2
    have := ss_frz h (rs.filterMap unS) K
    show (match frzV h.length (ssH h (rs.filterMap unS) K) 4 (.ref (h.length + K)) with
      | some t' => RS.ret (some h.length) t' (ssH h (rs.filterMap unS) K)
      | none => .stuck) = _
    rw [this]
  rw [es]
  exact end_ret (.inr rfl) (LL_und _ _)
theorem Lof_steps (E : List (Int × Int)) (K : Nat) {x : Int} (h0 : 0 ≤ x) (h1 : x < K) : Lof (stepsOf E K) x = (E.filter fun p => p.1 == x).map (·.2) := by
  obtain ⟨n, rfl⟩ := Int.eq_ofNat_of_zero_le h0
  have hn : n < K := by omega
  simp [Lof, stepsOf, hn]
theorem mem_Lof (E : List (Int × Int)) (K : Nat) {x y : Int} (h0 : 0 ≤ x) (h1 : x < K) : y ∈ Lof (stepsOf E K) x ↔ (x, y) ∈ E := by
  rw [Lof_steps E K h0 h1]
  constructor
  · intro h
    obtain ⟨p, hp, rfl⟩ := List.mem_map.mp h
    obtain ⟨a, b⟩ := List.mem_filter.mp hp
    have : p.1 = x := by simpa using b
    subst this
    exact a
  · intro h
    exact List.mem_map.mpr ⟨(x, y), List.mem_filter.mpr ⟨h, by simp⟩, rfl⟩
theorem RL_rch {E : List (Int × Int)} {K : Nat} (hE : ∀ p ∈ E, 0 ≤ p.2 ∧ p.2 < (K : Int)) {s x : Int} (h0 : 0 ≤ s) (h1 : s < K) : RL (stepsOf E K) s x ↔ KG.Rch E s x := by
  constructor
  · intro r
    have : KG.Rch E s x ∧ 0 ≤ x ∧ x < (K : Int) := by
      induction r with
      | one hy =>
        have m := (mem_Lof E K h0 h1).mp hy
        exact ⟨.one m, hE _ m⟩
      | more r hy ih =>
        have m := (mem_Lof E K ih.2.1 ih.2.2).mp hy
        exact ⟨.more ih.1 m, hE _ m⟩
    exact this.1
  · intro r
    have : RL (stepsOf E K) s x ∧ 0 ≤ x ∧ x < (K : Int) := by
      induction r with
      | one m => exact ⟨.one ((mem_Lof E K h0 h1).mpr m), hE _ m⟩
      | more r m ih => exact ⟨.more ih.1 ((mem_Lof E K ih.2.1 ih.2.2).mpr m), hE _ m⟩
    exact this.1
theorem wsum_le (E : List (Int × Int)) (K : Nat) : ∀ n, n ≤ K → wsum (stepsOf E K) [] n ≤ n * E.length
  | 0, _ => by simp [wsum]
  | n + 1, hn => by
    have ih := wsum_le E K n (by omega)
    have hl : (((stepsOf E K)[n]?).getD []).length ≤ E.length := by
      simp [stepsOf, show n < K from hn]
      exact List.length_filter_le _ _
    have e : wsum (stepsOf E K) [] (n + 1) = wsum (stepsOf E K) [] n + (((stepsOf E K)[n]?).getD []).length := by
      simp [wsum]
    rw [e, Nat.succ_mul]
    omega
theorem p_lb (k K : Nat) (h : AH) (E : List (Int × Int)) (hK : K ≤ 100) (hn : E.length ≤ 1000) (hE : ∀ p ∈ E, 0 ≤ p.2 ∧ p.2 < (K : Int)) :
    ∃ t, runFn prg (k + 2) 4 [LL (stepsOf E K)] h = .ok t h ∧ IsBack (fun j => KG.Rch E j j) K t := by
  have sl := steps_len E K
  have hw : wsum (stepsOf E K) [] (stepsOf E K).length ≤ 100000 := by
    rw [sl]
    refine Nat.le_trans (wsum_le E K K (Nat.le_refl _)) ?_
    exact Nat.mul_le_mul hK hn
  obtain ⟨t, e, b⟩ := p_least_back k h (stepsOf E K) (by omega) (fun x h0 h1 y hy => by
    rw [sl] at h1 ⊢
    exact hE _ ((mem_Lof E K h0 h1).mp hy)) (fun s h0 h1 => by
    rw [sl] at h1
    have : (Lof (stepsOf E K) s).length ≤ 1000 := by
      rw [Lof_steps E K h0 h1, List.length_map]
      exact Nat.le_trans (List.length_filter_le _ _) hn
    omega)
  refine ⟨t, e, ?_⟩
  rw [sl] at b
  cases t with
  | non => exact fun j hj r => b j hj ((RL_rch hE (by omega) (by omega)).mpr r)
  | int i =>
    obtain ⟨q, hq, q1, q2, q3⟩ := b
    exact ⟨q, hq, q1, (RL_rch hE (by omega) (by omega)).mp q2, fun j hj r => q3 j hj ((RL_rch hE (by omega) (by omega)).mpr r)⟩
  | _ => exact absurd b id
end LW
end
section
set_option maxRecDepth 100000
set_option maxHeartbeats 1000000
namespace LW
open PySem PS
theorem datL_ints : ∀ F : List Int, T.datL (F.map T.int) = some (F.map PyData.int)
  | [] => rfl
  | x :: F => by
    rw [List.map_cons]
    unfold T.datL
    rw [datL_ints F]
    rfl
theorem datL_strs : ∀ F : List Str, T.datL (F.map T.str) = some (F.map PyData.str)
  | [] => rfl
  | x :: F => by
    rw [List.map_cons]
    unfold T.datL
    rw [datL_strs F]
    rfl
theorem eqv_i (y x : Int) : PyData.eqv (.int y) (.int x) = (x == y) := by
  simp only [PyData.eqv]
  rw [Bool.eq_iff_iff]
  simp
  exact eq_comm
theorem eqv_s (y x : Str) : PyData.eqv (.str y) (.str x) = (x == y) := by
  simp only [PyData.eqv]
  rw [Bool.eq_iff_iff]
  simp
  exact eq_comm
theorem any_ints (x : Int) : ∀ F : List Int, (F.map PyData.int).any (fun e => PyData.eqv e (.int x)) = F.contains x
  | [] => rfl
  | y :: F => by
    rw [List.map_cons, List.any_cons, any_ints x F, List.contains_cons]
    congr 1
    exact eqv_i y x
theorem any_strs (x : Str) : ∀ F : List Str, (F.map PyData.str).any (fun e => PyData.eqv e (.str x)) = F.contains x
  | [] => rfl
  | y :: F => by
    rw [List.map_cons, List.any_cons, any_strs x F, List.contains_cons]
    congr 1
    exact eqv_s y x
theorem inL_ints (x : Int) (F : List Int) : inL (.int x) (F.map T.int) = some (F.contains x) := by
  unfold inL
  rw [datL_ints]
  show (if min (PyData.depthAll (F.map PyData.int)) (PyData.int x).depth ≤ deepest then some _ else none) = _
  rw [if_pos (by simp [PyData.depth]), any_ints]
theorem inL_strs (x : Str) (F : List Str) : inL (.str x) (F.map T.str) = some (F.contains x) := by
  unfold inL
  rw [datL_strs]
  show (if min (PyData.depthAll (F.map PyData.str)) (PyData.str x).depth ≤ deepest then some _ else none) = _
  rw [if_pos (by simp [PyData.depth]), any_strs]
theorem isin_l {h : AH} (x : Int) (F : List Int) : cmpT .isin h (.int x) (.lst (F.map T.int)) = some (F.contains x) := inL_ints x F
theorem notin_l {h : AH} (x : Int) (F : List Int) : cmpT .notin h (.int x) (.lst (F.map T.int)) = some (!F.contains x) := by
  show (inL (.int x) (F.map T.int)).map (!·) = _
  rw [inL_ints]; rfl
theorem isin_u {h : AH} (w : Str) : cmpT .isin h (.str w) (.lst [.str "same", .str "first", .str "last"]) = some (isU w) := by
  show inL (.str w) (([("same" : Str), "first", "last"] : List Str).map T.str) = _
  rw [inL_strs]
  congr 1
  simp [isU, Bool.or_assoc]
abbrev pairT (p : Int × Int) : T := .tup [.int p.1, .int p.2]
theorem un_map {K : Int} : ∀ rs : List T, (∀ t ∈ rs, isR t K = true) → (rs.filter fun t => (unS t).isSome).map (fun t => match unS t with | some p => pairT p | none => .non) = (rs.filterMap unS).map pairT
  | [], _ => rfl
  | t :: rs, H => by
    have ih := un_map rs fun y hy => H y (by simp [hy])
    cases hu : unS t with
    | none => simp [List.filter_cons, List.filterMap_cons, hu] at ih ⊢; exact ih
    | some p => simp [List.filter_cons, List.filterMap_cons, hu] at ih ⊢; exact ih
theorem pairs_und (n : Nat) : ∀ E : List (Int × Int), T.undL n (E.map pairT) = true
  | [] => rfl
  | p :: E => by
    simp only [List.map_cons, T.undL, T.und, Bool.true_and]
    exact pairs_und n E
theorem p_unary (k : Nat) (h : AH) (K : Int) (rs : List T) (v : T) (hv : v = .tup rs ∨ v = .lst rs) (hr : rs.length < 1000) (ht : ∀ t ∈ rs, isR t K = true) :
    runFn prg (k + 1) 18 [v] h = .ok (.lst ((rs.filterMap unS).map pairT)) h := by
  rw [run_eq (fn := ⟨1, 2, true, ir__law_unary⟩) rfl rfl]
  have it : itemsOf h v = some ⟨rs, none⟩ := by rcases hv with rfl | rfl <;> rfl
  have cl := compL_pure (g := TG.nm 1) (cond := fun env h => (evE ⟨runFn prg k, h.length, prg.sub, prg.xi⟩ (.cmp .isin (.idx (.var 1) (.cst (.int 1))) (.lst false (.cons (.cst (.str "same")) (.cons (.cst (.str "first")) (.cons (.cst (.str "last")) .nil))))) env h).isB.nox) (elt := fun env h => (evE ⟨runFn prg k, h.length, prg.sub, prg.xi⟩ (.tup (.cons (.idx (.var 1) (.cst (.int 0))) (.cons (.idx (.var 1) (.cst (.int 2))) .nil))) env h).nox) (chk := (⟨rs, none⟩ : Items).chk) (c := fun t => (unS t).isSome) (f := fun t => match unS t with | some p => pairT p | none => .non) (env := wipeE [some v, none] [1]) (h := h) trivial (xs := rs) (fun t hm => by
    obtain ⟨a, w, c, r, n, rfl, a0, a1, hl, q⟩ := isR_shape (ht t hm)
    have i0 : idxT h (.tup (.int a :: .str w :: c :: r)) (.int 0) = some (.int a) := L2.atI_nat (j := 0) rfl
    have i1 : idxT h (.tup (.int a :: .str w :: c :: r)) (.int 1) = some (.str w) := L2.atI_nat (j := 1) rfl
    have i2 : idxT h (.tup (.int a :: .str w :: c :: r)) (.int 2) = some c := L2.atI_nat (j := 2) rfl
    have ls : PS.fresh false [T.str "same", T.str "first", T.str "last"] h = .ok (.lst [T.str "same", T.str "first", T.str "last"]) h := fresh_f (by rw [sizeLine_eq]; decide)
    refine ⟨[some v, some (.tup (.int a :: .str w :: c :: r))], rfl, ?_, ?_⟩
    · have hc : (unS (.tup (.int a :: .str w :: c :: r))).isSome = isU w := by
        rcases q with ⟨rfl, hu, rfl, d, rfl, d0, d1⟩ | ⟨n1, hu⟩
        · simp [unS, hu]
        · unfold unS
          split
          · rename_i e
            simp at e
            obtain ⟨_, rfl, _⟩ := e
            simp [hu]
          · simp [hu]
      rw [hc]
      simp [evE, evL, i1, ls, isin_u]
    · intro hs
      rcases q with ⟨rfl, hu, rfl, d, rfl, d0, d1⟩ | ⟨n1, hu⟩
      · simp [evE, evL, i0, i2, unS, hu, show 2 ≤ sizeLine from by rw [sizeLine_eq]; decide]
      · exfalso
        unfold unS at hs
        split at hs
        · rename_i e
          simp at e
          obtain ⟨_, rfl, _⟩ := e
          simp [hu] at hs
        · simp at hs)
  rw [un_map rs ht] at cl
  have hz : ((rs.filterMap unS).map pairT).length ≤ sizeLine := by
    rw [List.length_map, sizeLine_eq]
    have := List.length_filterMap_le unS rs
    omega
  have e : evSs ⟨runFn prg k, h.length, prg.sub, prg.xi⟩ ir__law_unary ([v].map some ++ List.replicate (2 - 1) none) h = .ret none (.lst ((rs.filterMap unS).map pairT)) h := by
    simp [ir__law_unary, evSs, evS, evE, evL, evI, it] at cl ⊢
    rw [cl, R.nox_ok, R.bind_ok, fresh_f hz]
    rfl
  rw [e]
  exact end_ret0 (.inl rfl) (pairs_und _ _)
theorem bk_round (k n0 : Nat) (h : AH) (E : List (Int × Int)) (K kk : Int) (F : List Int) (c5 : Option T) (x4 : T) (hz : F.length + E.length ≤ sizeLine) :
    evS ⟨runFn prg k, n0, prg.sub, prg.xi⟩ (.asg (.nm 3) (.bin false .add (.var 3) (.comp false [5] (.nm 5) (.e (.var 0)) (.some (.and (.or (.cmp .eq (.idx (.var 5) (.cst (.int 0))) (.var 2)) (.cmp .isin (.idx (.var 5) (.cst (.int 0))) (.var 3))) (.cmp .notin (.idx (.var 5) (.cst (.int 1))) (.var 3)))) (.idx (.var 5) (.cst (.int 1)))))) [some (.lst (E.map pairT)), some (.int K), some (.int kk), some (.lst (F.map T.int)), some x4, none] h = .next [some (.lst (E.map pairT)), some (.int K), some (.int kk), some (.lst ((KG.rd E kk F).map T.int)), some x4, none] h := by
  have cl := compL_pure (g := TG.nm 5) (cond := fun env h => (evE ⟨runFn prg k, n0, prg.sub, prg.xi⟩ (.and (.or (.cmp .eq (.idx (.var 5) (.cst (.int 0))) (.var 2)) (.cmp .isin (.idx (.var 5) (.cst (.int 0))) (.var 3))) (.cmp .notin (.idx (.var 5) (.cst (.int 1))) (.var 3))) env h).isB.nox) (elt := fun env h => (evE ⟨runFn prg k, n0, prg.sub, prg.xi⟩ (.idx (.var 5) (.cst (.int 1))) env h).nox) (chk := (⟨E.map pairT, none⟩ : Items).chk) (c := fun t => match t with | .tup [.int a, .int b] => (a == kk || F.contains a) && !F.contains b | _ => false) (f := fun t => match t with | .tup [.int a, .int b] => .int b | _ => .non) (env := wipeE [some (.lst (E.map pairT)), some (.int K), some (.int kk), some (.lst (F.map T.int)), some x4, none] [5]) (h := h) trivial (xs := E.map pairT) (fun t hm => by
    obtain ⟨⟨a, b⟩, hp, rfl⟩ := List.mem_map.mp hm
    have i0 : idxT h (.tup [.int a, .int b]) (.int 0) = some (.int a) := L2.atI_nat (j := 0) rfl
    have i1 : idxT h (.tup [.int a, .int b]) (.int 1) = some (.int b) := L2.atI_nat (j := 1) rfl
    refine ⟨[some (.lst (E.map pairT)), some (.int K), some (.int kk), some (.lst (F.map T.int)), some x4, some (.tup [.int a, .int b])], rfl, ?_, ?_⟩
    · by_cases e : a = kk
      · subst e; simp [evE, evL, i0, i1, isin_l, notin_l]
      · by_cases e2 : a ∈ F
        · simp [evE, evL, i0, i1, isin_l, notin_l, e, e2]
        · simp [evE, evL, i0, i1, isin_l, notin_l, e, e2]
    · intro _
      simp [evE, evL, i1])
  have el : ((E.map pairT).filter fun t => match t with | .tup [.int a, .int b] => (a == kk || F.contains a) && !F.contains b | _ => false).map (fun t => match t with | .tup [.int a, .int b] => T.int b | _ => .non) = ((E.filter fun p => (p.1 == kk || F.contains p.1) && !F.contains p.2).map (·.2)).map T.int := by
    rw [List.filter_map, List.map_map, List.map_map]
    rfl
  rw [el] at cl
  have hl : (E.filter fun p => (p.1 == kk || F.contains p.1) && !F.contains p.2).length ≤ E.length := List.length_filter_le _ _
  have hf : PS.fresh false (((E.filter fun p => (p.1 == kk || F.contains p.1) && !F.contains p.2).map (·.2)).map T.int) h = .ok (.lst (((E.filter fun p => (p.1 == kk || F.contains p.1) && !F.contains p.2).map (·.2)).map T.int)) h := fresh_f (by
    rw [List.length_map, List.length_map]; omega)
  have hb : binT false .add (.lst (F.map T.int)) (.lst (((E.filter fun p => (p.1 == kk || F.contains p.1) && !F.contains p.2).map (·.2)).map T.int)) h = .ok (.lst ((KG.rd E kk F).map T.int)) h := by
    have hq : PS.fresh false (F.map T.int ++ ((E.filter fun p => (p.1 == kk || F.contains p.1) && !F.contains p.2).map (·.2)).map T.int) h = .ok (.lst (F.map T.int ++ ((E.filter fun p => (p.1 == kk || F.contains p.1) && !F.contains p.2).map (·.2)).map T.int)) h := fresh_f (by
      rw [List.length_append, List.length_map, List.length_map, List.length_map]; omega)
    rw [KG.rd, List.map_append]
    exact hq
  have ec : evE ⟨runFn prg k, n0, prg.sub, prg.xi⟩ (.comp false [5] (.nm 5) (.e (.var 0)) (.some (.and (.or (.cmp .eq (.idx (.var 5) (.cst (.int 0))) (.var 2)) (.cmp .isin (.idx (.var 5) (.cst (.int 0))) (.var 3))) (.cmp .notin (.idx (.var 5) (.cst (.int 1))) (.var 3)))) (.idx (.var 5) (.cst (.int 1)))) [some (.lst (E.map pairT)), some (.int K), some (.int kk), some (.lst (F.map T.int)), some x4, none] h = .ok (.lst (((E.filter fun p => (p.1 == kk || F.contains p.1) && !F.contains p.2).map (·.2)).map T.int)) h := by
    refine (congrArg (fun r : R (List T) => r.nox.bind fun ts h2 => PS.fresh false ts h2) cl).trans ?_
    rw [R.nox_ok, R.bind_ok, hf]
  have ee : evE ⟨runFn prg k, n0, prg.sub, prg.xi⟩ (.bin false .add (.var 3) (.comp false [5] (.nm 5) (.e (.var 0)) (.some (.and (.or (.cmp .eq (.idx (.var 5) (.cst (.int 0))) (.var 2)) (.cmp .isin (.idx (.var 5) (.cst (.int 0))) (.var 3))) (.cmp .notin (.idx (.var 5) (.cst (.int 1))) (.var 3)))) (.idx (.var 5) (.cst (.int 1))))) [some (.lst (E.map pairT)), some (.int K), some (.int kk), some (.lst (F.map T.int)), some x4, none] h = .ok (.lst ((KG.rd E kk F).map T.int)) h := by
    refine (congrArg (fun r : R T => r.bind fun y h2 => binT false .add (.lst (F.map T.int)) y h2) ec).trans ?_
    rw [R.bind_ok, hb]
  unfold evS
  rw [ee]
  rfl
theorem rds_len (E : List (Int × Int)) (kk : Int) : ∀ t, (KG.rds E kk t).length ≤ t * E.length
  | 0 => by simp [KG.rds]
  | t + 1 => by
    have ih := rds_len E kk t
    have hl : (E.filter fun p => (p.1 == kk || (KG.rds E kk t).contains p.1) && !(KG.rds E kk t).contains p.2).length ≤ E.length := List.length_filter_le _ _
    show (KG.rd E kk (KG.rds E kk t)).length ≤ _
    unfold KG.rd
    rw [List.length_append, List.length_map, Nat.succ_mul]
    omega
theorem bk_rounds (k n0 : Nat) (h : AH) (E : List (Int × Int)) (K kk : Int) (xs : List T) (hE : E.length ≤ 1000) : ∀ (m t : Nat) (x4 : Option T), t + m ≤ 200 →
    ∃ x4', forL (.nm 4) (fun env hh => evSs ⟨runFn prg k, n0, prg.sub, prg.xi⟩ (.cons (.asg (.nm 3) (.bin false .add (.var 3) (.comp false [5] (.nm 5) (.e (.var 0)) (.some (.and (.or (.cmp .eq (.idx (.var 5) (.cst (.int 0))) (.var 2)) (.cmp .isin (.idx (.var 5) (.cst (.int 0))) (.var 3))) (.cmp .notin (.idx (.var 5) (.cst (.int 1))) (.var 3)))) (.idx (.var 5) (.cst (.int 1)))))) .nil) env hh) (⟨xs, none⟩ : Items).chk (rangeT t m) [some (.lst (E.map pairT)), some (.int K), some (.int kk), some (.lst ((KG.rds E kk t).map T.int)), x4, none] h = .next [some (.lst (E.map pairT)), some (.int K), some (.int kk), some (.lst ((KG.rds E kk (t + m)).map T.int)), x4', none] h
  | 0, t, x4, _ => ⟨x4, rfl⟩
  | m + 1, t, x4, ht => by
    have hz : (KG.rds E kk t).length + E.length ≤ sizeLine := by
      have := rds_len E kk t
      have : t * E.length ≤ 200 * 1000 := Nat.mul_le_mul (by omega) hE
      rw [sizeLine_eq]; omega
    have r := bk_round k n0 h E K kk (KG.rds E kk t) none (.int (t : Int)) hz
    obtain ⟨x4', ih⟩ := bk_rounds k n0 h E K kk xs hE m (t + 1) (some (.int (t : Int))) (by omega)
    refine ⟨x4', ?_⟩
    rw [range_succ, forL_next (e1 := [some (.lst (E.map pairT)), some (.int K), some (.int kk), some (.lst ((KG.rds E kk t).map T.int)), some (.int (t : Int)), none]) rfl (ss_next r) trivial, show t + (m + 1) = t + 1 + m from by omega]
    exact ih
abbrev bkIn : ISs := .cons (.asg (.nm 3) (.bin false .add (.var 3) (.comp false [5] (.nm 5) (.e (.var 0)) (.some (.and (.or (.cmp .eq (.idx (.var 5) (.cst (.int 0))) (.var 2)) (.cmp .isin (.idx (.var 5) (.cst (.int 0))) (.var 3))) (.cmp .notin (.idx (.var 5) (.cst (.int 1))) (.var 3)))) (.idx (.var 5) (.cst (.int 1)))))) .nil
abbrev bkB : ISs := .cons (.asg (.nm 3) (.lst false .nil)) (.cons (.forr (.nm 4) (.rng (.bin false .add (.var 1) (.cst (.int 1)))) bkIn) (.cons (.ife (.cmp .isin (.var 2) (.var 3)) (.cons (.ret false (.var 2)) .nil) .nil) .nil))
theorem bk_body (k n0 K i : Nat) (h : AH) (E : List (Int × Int)) (hK : K ≤ 100) (hn : E.length ≤ 1000) (hE : ∀ p ∈ E, 0 ≤ p.2 ∧ p.2 < (K : Int)) (c3 c4 : Option T) :
    (KG.Rch E i i ∧ evSs ⟨runFn prg k, n0, prg.sub, prg.xi⟩ bkB [some (.lst (E.map pairT)), some (.int K), some (.int i), c3, c4, none] h = .ret none (.int i) h) ∨
    (¬ KG.Rch E i i ∧ ∃ c3' c4', evSs ⟨runFn prg k, n0, prg.sub, prg.xi⟩ bkB [some (.lst (E.map pairT)), some (.int K), some (.int i), c3, c4, none] h = .next [some (.lst (E.map pairT)), some (.int K), some (.int i), c3', c4', none] h) := by
  obtain ⟨x4, r⟩ := bk_rounds k n0 h E K i (rangeT 0 (K + 1)) hn (K + 1) 0 c4 (by omega)
  rw [Nat.zero_add] at r
  have s1 : evS ⟨runFn prg k, n0, prg.sub, prg.xi⟩ (.asg (.nm 3) (.lst false .nil)) [some (.lst (E.map pairT)), some (.int K), some (.int i), c3, c4, none] h = .next [some (.lst (E.map pairT)), some (.int K), some (.int i), some (.lst ((KG.rds E i 0).map T.int)), c4, none] h := by
    have : PS.fresh false [] h = .ok (.lst []) h := fresh_f (by simp)
    unfold evS
    show ((PS.fresh false [] h).toS _ _ _) = _
    rw [this]; rfl
  have s2 : evS ⟨runFn prg k, n0, prg.sub, prg.xi⟩ (.forr (.nm 4) (.rng (.bin false .add (.var 1) (.cst (.int 1)))) bkIn) [some (.lst (E.map pairT)), some (.int K), some (.int i), some (.lst ((KG.rds E i 0).map T.int)), c4, none] h = .next [some (.lst (E.map pairT)), some (.int K), some (.int i), some (.lst ((KG.rds E i (K + 1)).map T.int)), x4, none] h := by
    unfold evS
    rw [rng_items (n := K + 1) (h1 := h) rfl (small_nat (by omega))]
    exact r
  have al := KG.rds_all (k := (i : Int)) hE (i : Int)
  have e3 : evSs ⟨runFn prg k, n0, prg.sub, prg.xi⟩ bkB [some (.lst (E.map pairT)), some (.int K), some (.int i), c3, c4, none] h = evSs ⟨runFn prg k, n0, prg.sub, prg.xi⟩ (.cons (.ife (.cmp .isin (.var 2) (.var 3)) (.cons (.ret false (.var 2)) .nil) .nil) .nil) [some (.lst (E.map pairT)), some (.int K), some (.int i), some (.lst ((KG.rds E i (K + 1)).map T.int)), x4, none] h := (ss_next s1).trans (ss_next s2)
  rw [e3]
  by_cases m : (i : Int) ∈ KG.rds E i (K + 1)
  · refine .inl ⟨al.mp m, ?_⟩
    simp [evSs, evS, evE, evL, evB, isin_l, m]
  · refine .inr ⟨fun q => m (al.mpr q), some (.lst ((KG.rds E i (K + 1)).map T.int)), x4, ?_⟩
    simp [evSs, evS, evE, evL, evB, isin_l, m]
theorem bk_loop (k n0 K : Nat) (h : AH) (E : List (Int × Int)) (hK : K ≤ 100) (hn : E.length ≤ 1000) (hE : ∀ p ∈ E, 0 ≤ p.2 ∧ p.2 < (K : Int)) :
    ∀ (m i : Nat) (c2 c3 c4 : Option T), i + m = K → (∀ j : Nat, j < i → ¬ KG.Rch E j j) →
    (∃ q : Nat, IsBack (fun j => KG.Rch E j j) K (.int q) ∧ forL (.nm 2) (fun env h => evSs ⟨runFn prg k, n0, prg.sub, prg.xi⟩ bkB env h) (⟨rangeT 0 K, none⟩ : Items).chk (rangeT i m) [some (.lst (E.map pairT)), some (.int K), c2, c3, c4, none] h = .ret none (.int q) h) ∨
    (IsBack (fun j => KG.Rch E j j) K .non ∧ ∃ e', forL (.nm 2) (fun env h => evSs ⟨runFn prg k, n0, prg.sub, prg.xi⟩ bkB env h) (⟨rangeT 0 K, none⟩ : Items).chk (rangeT i m) [some (.lst (E.map pairT)), some (.int K), c2, c3, c4, none] h = .next e' h)
  | 0, i, c2, c3, c4, hi, hj => .inr ⟨fun j hj2 => hj j (by omega), _, rfl⟩
  | m + 1, i, c2, c3, c4, hi, hj => by
    rw [range_succ]
    rcases bk_body k n0 K i h E hK hn hE c3 c4 with ⟨q, e⟩ | ⟨q, c3', c4', e⟩
    · exact .inl ⟨i, ⟨i, rfl, by omega, q, hj⟩, forL_ret rfl e⟩
    · have ih := bk_loop k n0 K h E hK hn hE m (i + 1) (some (.int i)) c3' c4' (by omega) (fun j hl => by
        rcases Nat.lt_succ_iff_lt_or_eq.mp hl with l | l
        · exact hj j l
        · subst l; exact q)
      rw [forL_next (e1 := [some (.lst (E.map pairT)), some (.int K), some (.int i), c3, c4, none]) rfl e trivial]
      exact ih
theorem p_back_kind (k K : Nat) (h : AH) (E : List (Int × Int)) (hK : K ≤ 100) (hn : E.length ≤ 1000) (hE : ∀ p ∈ E, 0 ≤ p.2 ∧ p.2 < (K : Int)) :
    ∃ t, runFn prg (k + 1) 17 [.lst (E.map pairT), .int K] h = .ok t h ∧ IsBack (fun j => KG.Rch E j j) K t := by
  rw [run_eq (fn := ⟨2, 6, true, ir__law_back_kind⟩) rfl rfl]
  have ei : evI ⟨runFn prg k, h.length, prg.sub, prg.xi⟩ (.rng (.var 1)) [some (.lst (E.map pairT)), some (.int K), none, none, none, none] h = .ok ⟨rangeT 0 K, none⟩ h := rng_items (n := K) (h1 := h) rfl (small_nat (by omega))
  rcases bk_loop k h.length K h E hK hn hE K 0 none none none (by omega) (fun j hj => absurd hj (Nat.not_lt_zero _)) with ⟨q, b, e⟩ | ⟨b, e', e⟩
  · refine ⟨.int q, ?_, b⟩
    have : evSs ⟨runFn prg k, h.length, prg.sub, prg.xi⟩ ir__law_back_kind ([.lst (E.map pairT), .int K].map some ++ List.replicate (6 - 2) none) h = .ret none (.int q) h := by
      refine ss_ret ?_
      unfold evS
      show (evI ⟨runFn prg k, h.length, prg.sub, prg.xi⟩ (.rng (.var 1)) [some (.lst (E.map pairT)), some (.int K), none, none, none, none] h).toS _ _ _ = _
      rw [ei]
      exact e
    rw [this]
    exact end_ret0 (.inl rfl) rfl
  · refine ⟨.non, ?_, b⟩
    have : evSs ⟨runFn prg k, h.length, prg.sub, prg.xi⟩ ir__law_back_kind ([.lst (E.map pairT), .int K].map some ++ List.replicate (6 - 2) none) h = .ret none .non h := by
      refine (ss_next (e1 := e') (h1 := h) ?_).trans rfl
      unfold evS
      show (evI ⟨runFn prg k, h.length, prg.sub, prg.xi⟩ (.rng (.var 1)) [some (.lst (E.map pairT)), some (.int K), none, none, none, none] h).toS _ _ _ = _
      rw [ei]
      exact e
    rw [this]
    exact end_ret0 (.inl rfl) rfl
end LW
end
section
set_option maxRecDepth 100000
set_option maxHeartbeats 1000000
namespace LW
open PySem PS
mutual
theorem pl_dat : ∀ t : T, t.pl = true → ∃ d, t.dat = some d
  | .non, _ => ⟨_, rfl⟩
  | .bl _, _ => ⟨_, rfl⟩
  | .int _, _ => ⟨_, rfl⟩
  | .str _, _ => ⟨_, rfl⟩
  | .tup xs, h => by
    obtain ⟨d, e⟩ := pl_datL xs (by simp only [T.pl, Bool.and_eq_true] at h; exact h.2)
    exact ⟨.tuple d, by rw [T.dat, e]; rfl⟩
  | .lst xs, h => by
    obtain ⟨d, e⟩ := pl_datL xs (by simp only [T.pl, Bool.and_eq_true] at h; exact h.2)
    exact ⟨.list d, by rw [T.dat, e]; rfl⟩
  | .dct _ _ _, h => by simp [T.pl] at h
  | .ref _, h => by simp [T.pl] at h
  | .clo _ _, h => by simp [T.pl] at h
  | .exn _ _, h => by simp [T.pl] at h
theorem pl_datL : ∀ ts : List T, T.plL ts = true → ∃ d, T.datL ts = some d
  | [], _ => ⟨_, rfl⟩
  | x :: xs, h => by
    simp only [T.plL, Bool.and_eq_true] at h
    obtain ⟨a, ea⟩ := pl_dat x h.1
    obtain ⟨b, eb⟩ := pl_datL xs h.2
    exact ⟨a :: b, by rw [T.datL, ea, eb]⟩
end
theorem eq_nil {h : AH} (xs : List T) (hp : T.plL xs = true) : cmpT .eq h (.lst xs) (.lst []) = some xs.isEmpty := by
  obtain ⟨d, e⟩ := pl_datL xs hp
  show eqT (.lst xs) (.lst []) = _
  unfold eqT
  have e1 : (T.lst xs).dat = some (.list d) := by
    rw [T.dat, e]; rfl
  rw [e1]
  show eqD (.list d) (.list []) = _
  unfold eqD
  rw [if_pos (by simp [PyData.depth, PyData.depthAll, deepest])]
  cases xs with
  | nil =>
    cases e
    simp [PyData.eqv, PyData.eqvAll]
  | cons x xs =>
    have : d ≠ [] := by
      rintro rfl
      rw [T.datL] at e
      split at e <;> simp at e
    cases d with
    | nil => exact absurd rfl this
    | cons a d => simp [PyData.eqv, PyData.eqvAll]
theorem plL_filter (c : T → Bool) : ∀ xs : List T, T.plL xs = true → T.plL (xs.filter c) = true
  | [], _ => rfl
  | x :: xs, h => by
    simp only [T.plL, Bool.and_eq_true] at h
    have ih := plL_filter c xs h.2
    rw [List.filter_cons]
    split
    · simp only [T.plL, Bool.and_eq_true]; exact ⟨h.1, ih⟩
    · exact ih
theorem filter_none (c : T → Bool) : ∀ xs : List T, (xs.filter fun x => !c x).isEmpty = xs.all c
  | [] => rfl
  | x :: xs => by
    rw [List.filter_cons, List.all_cons, ← filter_none c xs]
    cases c x <;> simp
theorem plL_chars : ∀ L : List Nat, T.plL (L.map fun c => T.str ⟨#[c]⟩) = true
  | [] => rfl
  | c :: L => by
    rw [List.map_cons, T.plL, plL_chars L, Bool.and_true]
    rfl
theorem lt_one (a b : Nat) : ([a] < [b]) ↔ a < b := by
  rw [List.cons_lt_cons_iff]
  simp
def azT : T → Bool
  | .str a => match a.cps.toList with
    | [c] => decide (97 ≤ c ∧ c ≤ 122)
    | _ => false
  | _ => false
theorem az_all (x : Str) : (chars x).all azT = x.cps.toList.all fun c => decide (97 ≤ c ∧ c ≤ 122) := by
  unfold chars
  rw [List.all_map]
  rfl
theorem in123 (n : Nat) : ([1, 2, 3] : List Int).contains (n : Int) = (decide (1 ≤ n) && decide (n ≤ 3)) := by
  rw [Bool.eq_iff_iff]
  simp
  omega
theorem p_lis_word (k : Nat) (h : AH) (t : T) (hp : t.pl = true) : runFn prg (k + 1) 21 [t] h = .ok (.bl (isW t)) h := by
  rw [run_eq (fn := ⟨1, 2, true, ir__law_is_word⟩) rfl rfl]
  have e : evSs ⟨runFn prg k, h.length, prg.sub, prg.xi⟩ ir__law_is_word ([t].map some ++ List.replicate (2 - 1) none) h = .ret none (.bl (isW t)) h := by
    cases t with
    | str x =>
      have hx : x.length ≤ sizeLine := thou_line (by simpa [T.pl] using hp)
      have f3 : PS.fresh false [T.int 1, T.int 2, T.int 3] h = .ok (.lst ([1, 2, 3].map T.int)) h := fresh_f (by rw [sizeLine_eq]; decide)
      have cl := compL_pure (g := TG.nm 1) (cond := fun env h => (evE ⟨runFn prg k, h.length, prg.sub, prg.xi⟩ (.or (.cmp .lt (.var 1) (.cst (.str "a"))) (.cmp .gt (.var 1) (.cst (.str "z")))) env h).isB.nox) (elt := fun env h => (evE ⟨runFn prg k, h.length, prg.sub, prg.xi⟩ (.var 1) env h).nox) (chk := (⟨chars x, none⟩ : Items).chk) (c := fun t => !azT t) (f := fun t => t) (env := wipeE [some (.str x), none] [1]) (h := h) trivial (xs := chars x) (fun y hy => by
        unfold chars at hy
        obtain ⟨c, hc, rfl⟩ := List.mem_map.mp hy
        refine ⟨[some (.str x), some (.str ⟨#[c]⟩)], rfl, ?_, fun _ => rfl⟩
        have l1 : cmpT .lt h (.str ⟨#[c]⟩) (.str "a") = some (decide (c < 97)) := by
          show some (decide ([c] < [97])) = _
          rw [decide_eq_decide.mpr (lt_one c 97)]
        have l2 : cmpT .gt h (.str ⟨#[c]⟩) (.str "z") = some (decide (122 < c)) := by
          show some (decide ([122] < [c])) = _
          rw [decide_eq_decide.mpr (lt_one 122 c)]
        have ha : azT (.str ⟨#[c]⟩) = decide (97 ≤ c ∧ c ≤ 122) := rfl
        rw [ha]
        by_cases c1 : c < 97
        · have q : ¬ (97 ≤ c ∧ c ≤ 122) := by omega
          simp [evE, evL, l1, l2, c1]
        · by_cases c2 : 122 < c
          · have q : ¬ (97 ≤ c ∧ c ≤ 122) := by omega
            simp [evE, evL, l1, l2, c1, c2]
          · have q1 : 97 ≤ c := by omega
            have q2 : c ≤ 122 := by omega
            simp [evE, evL, l1, l2, c1, c2, q1, q2])
      rw [List.map_id'] at cl
      have hpl : T.plL (chars x) = true := plL_chars _
      have hz : ((chars x).filter fun t => !azT t).length ≤ sizeLine := by
        refine Nat.le_trans (List.length_filter_le _ _) ?_
        unfold chars
        rw [List.length_map, Array.length_toList]; exact hx
      have en := eq_nil (h := h) ((chars x).filter fun t => !azT t) (plL_filter _ _ hpl)
      rw [filter_none, az_all] at en
      have fe : PS.fresh false [] h = .ok (.lst []) h := fresh_f (by simp)
      have ec : evE ⟨runFn prg k, h.length, prg.sub, prg.xi⟩ (.comp false [1] (.nm 1) (.e (.var 0)) (.some (.or (.cmp .lt (.var 1) (.cst (.str "a"))) (.cmp .gt (.var 1) (.cst (.str "z"))))) (.var 1)) [some (.str x), none] h = .ok (.lst ((chars x).filter fun t => !azT t)) h := by
        refine (congrArg (fun r : R (List T) => r.nox.bind fun ts h2 => PS.fresh false ts h2) cl).trans ?_
        rw [R.nox_ok, R.bind_ok, fresh_f hz]
      have ee : evE ⟨runFn prg k, h.length, prg.sub, prg.xi⟩ (.cmp .eq (.comp false [1] (.nm 1) (.e (.var 0)) (.some (.or (.cmp .lt (.var 1) (.cst (.str "a"))) (.cmp .gt (.var 1) (.cst (.str "z"))))) (.var 1)) (.lst false .nil)) [some (.str x), none] h = .ok (.bl (x.cps.toList.all fun c => decide (97 ≤ c ∧ c ≤ 122))) h := by
        refine (congrArg (fun r : R T => r.bind fun x h1 => (PS.fresh false [] h1).bind fun y h2 => (R.of (cmpT .eq h2 x y) h2).bind fun k h3 => R.ok (T.bl k) h3) ec).trans ?_
        rw [R.bind_ok, fe, R.bind_ok, en]
        rfl
      have ew : isW (.str x) = ((decide (1 ≤ x.length) && decide (x.length ≤ 3)) && x.cps.toList.all fun c => decide (97 ≤ c ∧ c ≤ 122)) := rfl
      have ei : cmpT .isin h (.int (x.length : Int)) (.lst ([1, 2, 3].map T.int)) = some (decide (1 ≤ x.length) && decide (x.length ≤ 3)) := by
        rw [isin_l, in123]
      have e1 : evE ⟨runFn prg k, h.length, prg.sub, prg.xi⟩ (.cmp .isin (.bf false .len (.cons (.var 0) .nil)) (.lst false (.cons (.cst (.int 1)) (.cons (.cst (.int 2)) (.cons (.cst (.int 3)) .nil))))) [some (.str x), none] h = .ok (.bl (decide (1 ≤ x.length) && decide (x.length ≤ 3))) h := by
        have e0 : evE ⟨runFn prg k, h.length, prg.sub, prg.xi⟩ (.bf false .len (.cons (.var 0) .nil)) [some (.str x), none] h = .ok (.int (x.length : Int)) h := by
          simp [evE, evL, hx]
        refine (congrArg (fun r : R T => r.bind fun x h1 => (PS.fresh false [T.int 1, T.int 2, T.int 3] h1).bind fun y h2 => (R.of (cmpT .isin h2 x y) h2).bind fun k h3 => R.ok (T.bl k) h3) e0).trans ?_
        rw [R.bind_ok, f3, R.bind_ok, ei]
        rfl
      rw [ew]
      generalize (decide (1 ≤ x.length) && decide (x.length ≤ 3)) = b1 at e1
      generalize (x.cps.toList.all fun c => decide (97 ≤ c ∧ c ≤ 122)) = b2 at ee
      have ea : evE ⟨runFn prg k, h.length, prg.sub, prg.xi⟩ (.and (.isi (.var 0) [.str]) (.and (.cmp .isin (.bf false .len (.cons (.var 0) .nil)) (.lst false (.cons (.cst (.int 1)) (.cons (.cst (.int 2)) (.cons (.cst (.int 3)) .nil))))) (.cmp .eq (.comp false [1] (.nm 1) (.e (.var 0)) (.some (.or (.cmp .lt (.var 1) (.cst (.str "a"))) (.cmp .gt (.var 1) (.cst (.str "z"))))) (.var 1)) (.lst false .nil)))) [some (.str x), none] h = .ok (.bl (b1 && b2)) h := by
        have e3 : evE ⟨runFn prg k, h.length, prg.sub, prg.xi⟩ (.and (.cmp .isin (.bf false .len (.cons (.var 0) .nil)) (.lst false (.cons (.cst (.int 1)) (.cons (.cst (.int 2)) (.cons (.cst (.int 3)) .nil))))) (.cmp .eq (.comp false [1] (.nm 1) (.e (.var 0)) (.some (.or (.cmp .lt (.var 1) (.cst (.str "a"))) (.cmp .gt (.var 1) (.cst (.str "z"))))) (.var 1)) (.lst false .nil))) [some (.str x), none] h = .ok (.bl (b1 && b2)) h := by
          rw [evE, e1, R.bind_ok]
          cases b1
          · simp
          · simp [ee]
        have e2 : evE ⟨runFn prg k, h.length, prg.sub, prg.xi⟩ (.isi (.var 0) [.str]) [some (.str x), none] h = .ok (.bl true) h := by
          simp [evE, isTy_pl _ hp, isTyP]
        rw [evE, e2, R.bind_ok]
        exact e3
      refine ss_ret ?_
      unfold evS
      show (evE ⟨runFn prg k, h.length, prg.sub, prg.xi⟩ _ [some (.str x), none] h).toS _ _ _ = _
      rw [ea]
      rfl
    | _ => simp [ir__law_is_word, evSs, evS, evE, evL, evB, isTy_pl _ hp, isTyP, isW]
  rw [e]
  exact end_ret0 (.inl rfl) rfl
def isA (w : Str) : Bool := decide (w = "left") || decide (w = "right")
def isT2 (w : Str) : Bool := decide (w = "wrap") || decide (w = "ahead") || decide (w = "behind")
theorem isin_a {h : AH} (w : Str) : cmpT .isin h (.str w) (.lst [.str "left", .str "right"]) = some (isA w) := by
  show inL (.str w) (([("left" : Str), "right"] : List Str).map T.str) = _
  rw [inL_strs]
  congr 1
  simp [isA, Bool.or_assoc]
theorem isin_t {h : AH} (w : Str) : cmpT .isin h (.str w) (.lst [.str "wrap", .str "ahead", .str "behind"]) = some (isT2 w) := by
  show inL (.str w) (([("wrap" : Str), "ahead", "behind"] : List Str).map T.str) = _
  rw [inL_strs]
  congr 1
  simp [isT2, Bool.or_assoc]
theorem parts_cls (w : Str) : (isA w = true ∧ zs_PARTS.lookup w = some (.int 0)) ∨ (isA w = false ∧ isU w = true ∧ zs_PARTS.lookup w = some (.int 1)) ∨ (isA w = false ∧ isU w = false ∧ isT2 w = true ∧ zs_PARTS.lookup w = some (.int 2)) ∨ (isA w = false ∧ isU w = false ∧ isT2 w = false ∧ zs_PARTS.lookup w = none) := by
  by_cases h1 : w = "left"
  · subst h1; exact .inl ⟨rfl, rfl⟩
  by_cases h2 : w = "right"
  · subst h2; exact .inl ⟨rfl, rfl⟩
  by_cases h3 : w = "same"
  · subst h3; exact .inr (.inl ⟨rfl, rfl, rfl⟩)
  by_cases h4 : w = "first"
  · subst h4; exact .inr (.inl ⟨rfl, rfl, rfl⟩)
  by_cases h5 : w = "last"
  · subst h5; exact .inr (.inl ⟨rfl, rfl, rfl⟩)
  by_cases h6 : w = "wrap"
  · subst h6; exact .inr (.inr (.inl ⟨rfl, rfl, rfl, rfl⟩))
  by_cases h7 : w = "ahead"
  · subst h7; exact .inr (.inr (.inl ⟨rfl, rfl, rfl, rfl⟩))
  by_cases h8 : w = "behind"
  · subst h8; exact .inr (.inr (.inl ⟨rfl, rfl, rfl, rfl⟩))
  · refine .inr (.inr (.inr ⟨?_, ?_, ?_, ?_⟩))
    · simp [isA, h1, h2]
    · simp [isU, h3, h4, h5]
    · simp [isT2, h6, h7, h8]
    · unfold zs_PARTS
      simp [List.lookup, beq_eq_false_iff_ne.mpr h1, beq_eq_false_iff_ne.mpr h2, beq_eq_false_iff_ne.mpr h3, beq_eq_false_iff_ne.mpr h4, beq_eq_false_iff_ne.mpr h5, beq_eq_false_iff_ne.mpr h6, beq_eq_false_iff_ne.mpr h7, beq_eq_false_iff_ne.mpr h8]
theorem cutL_one (a : T) (r : List T) : cutL (a :: r) none (some 1) = [a] := by
  unfold cutL
  rw [HT.sIx_none, show (some (1 : Int)) = some ((1 : Nat) : Int) from rfl, HT.sIx_nat]
  simp
end LW
end
section
set_option maxRecDepth 100000
set_option maxHeartbeats 1000000
namespace LW
open PySem PS
theorem box_fin (k n0 : Nat) (h : AH) (sc : T) (i cell g : Int) (h0 : 0 ≤ i) (h1 : i < 1000) (hc : 0 ≤ cell) (hg : 0 ≤ g) :
    ∃ s : Int, 0 ≤ s ∧ evS ⟨runFn prg k, n0, prg.sub, prg.xi⟩ (.ret false (.lst true (.cons (.var 3) (.cons (.bin false .add (.bin false .mod (.bf false .int (.cons (.bin false .add (.bin false .mul (.bin false .mod (.bf false .int (.cons (.var 2) .nil)) (.cst (.int 1000000007))) (.cst (.int 48271))) (.bin false .mul (.cst (.int 613)) (.var 1))) .nil)) (.cst (.int 2147483647))) (.cst (.int 1))) .nil)))) [some sc, some (.int i), some (.int cell), some (.int g)] h = .ret none (.ref h.length) (h ++ [.lst [.int g, .int s]]) := by
  refine ⟨(cell % 1000000007 * 48271 + 613 * i) % 2147483647 + 1, by omega, ?_⟩
  have m1 : -(2 ^ 64 : Int) < cell % 1000000007 ∧ cell % 1000000007 < (2 ^ 64 : Int) := by omega
  have fr : PS.fresh true [T.int g, T.int ((cell % 1000000007 * 48271 + 613 * i) % 2147483647 + 1)] h = .ok (.ref h.length) (h ++ [.lst [.int g, .int ((cell % 1000000007 * 48271 + 613 * i) % 2147483647 + 1)]]) := by
    unfold PS.fresh
    rw [if_pos (by rw [sizeLine_eq]; simp), if_pos rfl]
  simp [evS, evE, evL, fr]
theorem box_great (k n0 : Nat) (h : AH) (sc : T) (i cell : Int) (hc : 0 ≤ cell) :
    ∃ g : Int, 0 ≤ g ∧ evS ⟨runFn prg k, n0, prg.sub, prg.xi⟩ (.asg (.nm 3) (.idx (.lst false (.cons (.cst (.int 0)) (.cons (.var 2) .nil))) (.bf false .int (.cons (.cmp .ge (.var 2) (.bin false .pow (.cst (.int 10)) (.cst (.int 18)))) .nil)))) [some sc, some (.int i), some (.int cell), none] h = .next [some sc, some (.int i), some (.int cell), some (.int g)] h := by
  have fr : PS.fresh false [T.int 0, T.int cell] h = .ok (.lst [T.int 0, T.int cell]) h := fresh_f (by rw [sizeLine_eq]; simp)
  have j0 : idxT h (.lst [T.int 0, T.int cell]) (.int 0) = some (.int 0) := L2.atI_nat (j := 0) rfl
  have j1 : idxT h (.lst [T.int 0, T.int cell]) (.int 1) = some (.int cell) := L2.atI_nat (j := 1) rfl
  by_cases c : (1000000000000000000 : Int) ≤ cell
  · refine ⟨cell, hc, ?_⟩
    simp [evS, evE, evL, fr, TG.asg, c, j1]
  · refine ⟨0, by omega, ?_⟩
    simp [evS, evE, evL, fr, TG.asg, c, j0]
abbrev boxIf : IS := .ife (.cmp .lt (.var 1) (.bf false .len (.cons (.var 0) .nil))) (.cons (.asg (.nm 2) (.bf false .abs (.cons (.idx (.var 0) (.var 1)) .nil))) .nil) (.cons (.ife (.cmp .gt (.bf false .len (.cons (.var 0) .nil)) (.cst (.int 0))) (.cons (.asg (.nm 2) (.bin false .add (.bin false .mul (.bin false .mod (.bf false .int (.cons (.bf false .abs (.cons (.idx (.var 0) (.bin false .mod (.bf false .int (.cons (.var 1) .nil)) (.bf false .len (.cons (.var 0) .nil)))) .nil)) .nil)) (.cst (.int 1000000007))) (.cst (.int 31))) (.bin false .mul (.cst (.int 7919)) (.var 1)))) .nil) .nil) .nil)
theorem ints_at {h : AH} (ns : List Int) {i : Int} (h0 : 0 ≤ i) (h1 : i < ns.length) : ∃ x : Int, idxT h (.lst (ns.map T.int)) (.int i) = some (.int x) := by
  obtain ⟨n, rfl⟩ := Int.eq_ofNat_of_zero_le h0
  have hn : n < ns.length := by omega
  exact ⟨ns[n], L2.atI_nat (by simp [hn])⟩
theorem box_cell (k n0 : Nat) (h : AH) (ns : List Int) (i c0 : Int) (h0 : 0 ≤ i) (h1 : i < 1000) (hc : 0 ≤ c0) :
    ∃ cell : Int, 0 ≤ cell ∧ evS ⟨runFn prg k, n0, prg.sub, prg.xi⟩ boxIf [some (.lst (ns.map T.int)), some (.int i), some (.int c0), none] h = .next [some (.lst (ns.map T.int)), some (.int i), some (.int cell), none] h := by
  by_cases c : i < (ns.length : Int)
  · obtain ⟨x, e⟩ := ints_at (h := h) ns h0 c
    refine ⟨if x < 0 then -x else x, by split <;> omega, ?_⟩
    simp [evSs, evS, evE, evL, evB, TG.asg, c, e]
  · by_cases d : 0 < (ns.length : Int)
    · obtain ⟨x, e⟩ := ints_at (h := h) ns (i := i % ns.length) (Int.emod_nonneg _ (by omega)) (Int.emod_lt_of_pos _ d)
      have ha : 0 ≤ (if x < 0 then -x else x) := by split <;> omega
      refine ⟨(if x < 0 then -x else x) % 1000000007 * 31 + 7919 * i, by omega, ?_⟩
      have d2 : 0 < ns.length := by omega
      simp [evSs, evS, evE, evL, evB, TG.asg, c, d2, e]
    · refine ⟨c0, hc, ?_⟩
      have d2 : ¬ 0 < ns.length := by omega
      simp [evSs, evS, evE, evL, evB, TG.asg, c, d2]
theorem p_box (k : Nat) (h : AH) (ns : List Int) (i : Int) (h0 : 0 ≤ i) (h1 : i < 1000) :
    ∃ g s : Int, 0 ≤ g ∧ 0 ≤ s ∧ runFn prg (k + 1) 9 [.lst (ns.map T.int), .int i] h = .ok (.ref h.length) (h ++ [.lst [.int g, .int s]]) := by
  obtain ⟨cell, hc, e2⟩ := box_cell k h.length h ns i (7919 * i + 101) h0 h1 (by omega)
  obtain ⟨g, hg, e3⟩ := box_great k h.length h (.lst (ns.map T.int)) i cell hc
  obtain ⟨s, hs, e4⟩ := box_fin k h.length h (.lst (ns.map T.int)) i cell g h0 h1 hc hg
  refine ⟨g, s, hg, hs, ?_⟩
  rw [run_eq (fn := ⟨2, 4, false, ir__law_box⟩) rfl rfl]
  have e1 : evS ⟨runFn prg k, h.length, prg.sub, prg.xi⟩ (.asg (.nm 2) (.bin false .add (.bin false .mul (.cst (.int 7919)) (.var 1)) (.cst (.int 101)))) [some (.lst (ns.map T.int)), some (.int i), none, none] h = .next [some (.lst (ns.map T.int)), some (.int i), some (.int (7919 * i + 101)), none] h := by
    simp [evS, evE, TG.asg]
  have es : evSs ⟨runFn prg k, h.length, prg.sub, prg.xi⟩ ir__law_box ([.lst (ns.map T.int), .int i].map some ++ List.replicate (4 - 2) none) h = .ret none (.ref h.length) (h ++ [.lst [.int g, .int s]]) := (ss_next e1).trans ((ss_next e2).trans ((ss_next e3).trans (ss_ret e4)))
  rw [es]
  rfl
end LW
end
section
set_option maxRecDepth 100000
set_option maxHeartbeats 1000000
namespace LW
open PySem PS
def okK (t : T) : Bool := inI t 1 40
def okRs (t : T) (K : Int) : Bool := match t with
  | .tup rs => decide (1 ≤ rs.length) && decide (rs.length ≤ 90) && rs.all fun r => isR r K
  | _ => false
theorem init_num (k : Nat) (h : AH) (n : Nat) (kt rt : T) (hk : kt.pl = true) (hb : okK kt = false) : runFn prg (k + 3) 7 [.ref n, kt, rt] h = .exc 1 kt h := by
  rw [run_eq (fn := ⟨3, 5, false, ir_Pairsx_initx⟩) rfl rfl]
  have c := p_is_integer_in k h kt 1 40 hk
  rw [show inI kt 1 40 = false from hb] at c
  have e : evSs ⟨runFn prg (k + 2), h.length, prg.sub, prg.xi⟩ ir_Pairsx_initx ([.ref n, kt, rt].map some ++ List.replicate (5 - 3) none) h = .exc 1 kt [some (.ref n), some kt, some rt, none, none] h := by
    simp [ir_Pairsx_initx, evSs, evS, evE, evL, evB, c]
  rw [e]
  rfl
theorem init_all (k n0 : Nat) (h : AH) (n : Nat) (K : Int) (rs : List T) (hp : (T.tup rs).pl = true) : evE ⟨runFn prg (k + 3), n0, prg.sub, prg.xi⟩ (.bf false .all (.cons (.comp false [4] (.nm 4) (.e (.var 2)) .none (.call 5 (.cons (.var 4) (.cons (.var 1) .nil)))) .nil)) [some (.ref n), some (.int K), some (.tup rs), none, none] h = .ok (.bl (rs.all fun r => isR r K)) h := by
  have hl : T.plL rs = true := by simp [T.pl] at hp; exact hp.2
  have cl := compL_pure (g := TG.nm 4) (cond := fun _ h => .ok true h) (elt := fun env h => (evE ⟨runFn prg (k + 3), n0, prg.sub, prg.xi⟩ (.call 5 (.cons (.var 4) (.cons (.var 1) .nil))) env h).nox) (chk := (⟨rs, none⟩ : Items).chk) (c := fun _ => true) (f := fun r => .bl (isR r K)) (env := wipeE [some (.ref n), some (.int K), some (.tup rs), none, none] [4]) (h := h) trivial (xs := rs) (fun y hy => ⟨[some (.ref n), some (.int K), some (.tup rs), none, some y], rfl, rfl, fun _ => by
    show (R.nox (runFn prg (k + 3) 5 [y, .int K] h)) = _
    rw [p_is_rule k h y K (plL_mem hl y hy)]; rfl⟩)
  rw [show rs.filter (fun _ => true) = rs from by simp, show (rs.map fun r => T.bl (isR r K)) = (rs.map fun r => isR r K).map T.bl from by rw [List.map_map]; rfl] at cl
  have hz : ((rs.map fun r => isR r K).map T.bl).length ≤ sizeLine := by
    rw [List.length_map, List.length_map, sizeLine_eq]
    simp [T.pl] at hp
    omega
  have ec : evE ⟨runFn prg (k + 3), n0, prg.sub, prg.xi⟩ (.comp false [4] (.nm 4) (.e (.var 2)) .none (.call 5 (.cons (.var 4) (.cons (.var 1) .nil)))) [some (.ref n), some (.int K), some (.tup rs), none, none] h = .ok (.lst ((rs.map fun r => isR r K).map T.bl)) h := by
    refine (congrArg (fun r : R (List T) => r.nox.bind fun ts h2 => PS.fresh false ts h2) cl).trans ?_
    rw [R.nox_ok, R.bind_ok, fresh_f hz]
  have eL : evL ⟨runFn prg (k + 3), n0, prg.sub, prg.xi⟩ (.cons (.comp false [4] (.nm 4) (.e (.var 2)) .none (.call 5 (.cons (.var 4) (.cons (.var 1) .nil)))) .nil) [some (.ref n), some (.int K), some (.tup rs), none, none] h = .ok [.lst ((rs.map fun r => isR r K).map T.bl)] h := by
    rw [evL, ec]
    rfl
  rw [evE, eL, R.bind_ok, bf_all_bls, all_id]
theorem init_rules (k : Nat) (h : AH) (n : Nat) (K : Int) (rt : T) (h1 : 1 ≤ K) (h2 : K ≤ 40) (hp : rt.pl = true) (hb : okRs rt K = false) : runFn prg (k + 4) 7 [.ref n, .int K, rt] h = .exc 2 rt h := by
  rw [run_eq (fn := ⟨3, 5, false, ir_Pairsx_initx⟩) rfl rfl]
  have c := p_is_integer_in (k + 1) h (.int K) 1 40 rfl
  rw [show inI (.int K) 1 40 = true from by simp [inI, h1, h2]] at c
  have e : evSs ⟨runFn prg (k + 3), h.length, prg.sub, prg.xi⟩ ir_Pairsx_initx ([.ref n, .int K, rt].map some ++ List.replicate (5 - 3) none) h = .exc 2 rt [some (.ref n), some (.int K), some rt, none, none] h := by
    have s1 : evS ⟨runFn prg (k + 3), h.length, prg.sub, prg.xi⟩ (.ife (.not (.call 1 (.cons (.var 1) (.cons (.cst (.int 1)) (.cons (.glb 0 (.int 40)) .nil))))) (.cons (.rais 1 (.var 1)) .nil) .nil) [some (.ref n), some (.int K), some rt, none, none] h = .next [some (.ref n), some (.int K), some rt, none, none] h := by
      simp [evSs, evS, evE, evL, evB, c]
    refine (ss_next s1).trans ?_
    cases rt with
    | tup rs =>
      have al := init_all k h.length h n K rs hp
      by_cases c1 : 1 ≤ (rs.length : Int)
      · by_cases c2 : (rs.length : Int) ≤ 90
        · have d1 : 1 ≤ rs.length := by omega
          have d2 : rs.length ≤ 90 := by omega
          have ha : (rs.all fun r => isR r K) = false := by
            simpa [okRs, d1, d2] using hb
          rw [ha] at al
          have s2 : evS ⟨runFn prg (k + 3), h.length, prg.sub, prg.xi⟩ (.ife (.or (.not (.isi (.var 2) [.tuple])) (.not (.chain .le (.cst (.int 1)) (.bf false .len (.cons (.var 2) .nil)) .le (.glb 0 (.int 90))))) (.cons (.rais 2 (.var 2)) .nil) .nil) [some (.ref n), some (.int K), some (.tup rs), none, none] h = .next [some (.ref n), some (.int K), some (.tup rs), none, none] h := by
            simp [evSs, evS, evE, evL, evB, isTy_pl _ hp, isTyP, c1, c2, d1]
          refine (ss_next s2).trans ?_
          have ab : evB ⟨runFn prg (k + 3), h.length, prg.sub, prg.xi⟩ (.bf false .all (.cons (.comp false [4] (.nm 4) (.e (.var 2)) .none (.call 5 (.cons (.var 4) (.cons (.var 1) .nil)))) .nil)) [some (.ref n), some (.int K), some (.tup rs), none, none] h = .ok false h := by
            unfold evB
            rw [al]
            rfl
          unfold evSs evS evB
          rw [ab]
          rfl
        · have d1 : 1 ≤ rs.length := by omega
          simp [evSs, evS, evE, evL, evB, isTy_pl _ hp, isTyP, c1, c2, d1]
      · have d1 : ¬ 1 ≤ rs.length := by omega
        simp [evSs, evS, evE, evL, evB, isTy_pl _ hp, isTyP, c1, d1]
    | _ => simp [evSs, evS, evE, evL, evB, isTy_pl _ hp, isTyP]
  rw [e]
  rfl
theorem unS_range {K : Int} (rs : List T) (ht : ∀ t ∈ rs, isR t K = true) : ∀ p ∈ rs.filterMap unS, 0 ≤ p.2 ∧ p.2 < K := by
  intro p hp
  obtain ⟨t, hm, e⟩ := List.mem_filterMap.mp hp
  obtain ⟨a, w, c, r, n, rfl, a0, a1, hl, q⟩ := isR_shape (ht t hm)
  rcases q with ⟨rfl, hu, rfl, d, rfl, d0, d1⟩ | ⟨n1, hu⟩
  · simp [unS, hu] at e
    subst e
    exact ⟨d0, d1⟩
  · exfalso
    unfold unS at e
    split at e
    · rename_i e2
      simp at e2
      obtain ⟨_, rfl, _⟩ := e2
      simp [hu] at e
    · simp at e
end LW
end
section
set_option maxRecDepth 100000
set_option maxHeartbeats 1000000
namespace PS
open PySem
mutual
theorem dat_plain2 : ∀ (t : T) (d : PyData), t.dat = some d → d.plain = true
  | .non, d, h => by cases h; rfl
  | .bl _, d, h => by cases h; rfl
  | .int _, d, h => by cases h; rfl
  | .str _, d, h => by cases h; rfl
  | .tup xs, d, h => by
    rw [T.dat] at h
    cases e : T.datL xs with
    | none => rw [e] at h; cases h
    | some ds => rw [e] at h; cases h; exact datL_plain2 xs ds e
  | .lst xs, d, h => by
    rw [T.dat] at h
    cases e : T.datL xs with
    | none => rw [e] at h; cases h
    | some ds => rw [e] at h; cases h; exact datL_plain2 xs ds e
  | .dct _ _ _, d, h => by cases h
  | .ref _, d, h => by cases h
  | .clo _ _, d, h => by cases h
  | .exn _ _, d, h => by cases h
theorem datL_plain2 : ∀ (ts : List T) (ds : List PyData), T.datL ts = some ds → PyData.plainAll ds = true
  | [], ds, h => by cases h; rfl
  | x :: xs, ds, h => by
    rw [T.datL] at h
    cases e1 : T.dat x with
    | none => rw [e1] at h; cases h
    | some a =>
      cases e2 : T.datL xs with
      | none => rw [e1, e2] at h; cases h
      | some b =>
        rw [e1, e2] at h
        cases h
        rw [PyData.plainAll, dat_plain2 x a e1, datL_plain2 xs b e2]; rfl
end
inductive Gd (m : Nat) : Nat → T → Prop
  | non (n : Nat) : Gd m n .non
  | bl (n : Nat) (b : Bool) : Gd m n (.bl b)
  | int (n : Nat) (i : Int) : -(100000000 * (m : Int)) ≤ i → i ≤ 100000000 * (m : Int) → Gd m n (.int i)
  | str (n : Nat) (x : Str) : x.length ≤ m → Gd m n (.str x)
  | tup (n : Nat) (xs : List T) : xs.length ≤ m → (∀ x ∈ xs, Gd m n x) → Gd m (n + 1) (.tup xs)
  | lst (n : Nat) (xs : List T) : xs.length ≤ m → (∀ x ∈ xs, Gd m n x) → Gd m (n + 1) (.lst xs)
theorem plL_of : ∀ {xs : List T}, (∀ x ∈ xs, x.pl = true) → T.plL xs = true
  | [], _ => rfl
  | x :: xs, h => by
    simp only [T.plL, Bool.and_eq_true]
    exact ⟨h x (by simp), plL_of fun y hy => h y (by simp [hy])⟩
theorem gd_pl {m n : Nat} {t : T} (hm : m ≤ 1000) (h : Gd m n t) : t.pl = true := by
  induction h with
  | non n => rfl
  | bl n b => rfl
  | int n i _ _ => rfl
  | str n x hx => simp [T.pl]; omega
  | tup n xs hl _ ih => simp [T.pl, plL_of ih]; omega
  | lst n xs hl _ ih => simp [T.pl, plL_of ih]; omega
def DD (n : Nat) (t : T) : Prop := ∃ d, t.dat = some d ∧ d.depth ≤ n
theorem ddL {n : Nat} : ∀ {xs : List T}, (∀ x ∈ xs, DD n x) → ∃ ds, T.datL xs = some ds ∧ PyData.depthAll ds ≤ n
  | [], _ => ⟨[], rfl, Nat.zero_le _⟩
  | x :: xs, h => by
    obtain ⟨d, e, hd⟩ := h x (by simp)
    obtain ⟨ds, e2, hd2⟩ := ddL (n := n) (xs := xs) fun y hy => h y (by simp [hy])
    refine ⟨d :: ds, by rw [T.datL, e, e2], ?_⟩
    rw [PyData.depthAll]; omega
theorem dd_tup {n : Nat} {xs : List T} (h : ∀ x ∈ xs, DD n x) : DD (n + 1) (.tup xs) := by
  obtain ⟨ds, e, hd⟩ := ddL h
  exact ⟨.tuple ds, by rw [T.dat, e]; rfl, by rw [PyData.depth]; omega⟩
theorem dd_lst {n : Nat} {xs : List T} (h : ∀ x ∈ xs, DD n x) : DD (n + 1) (.lst xs) := by
  obtain ⟨ds, e, hd⟩ := ddL h
  exact ⟨.list ds, by rw [T.dat, e]; rfl, by rw [PyData.depth]; omega⟩
theorem gd_dd {m n : Nat} {t : T} (h : Gd m n t) : DD n t := by
  induction h with
  | non n => exact ⟨_, rfl, Nat.zero_le _⟩
  | bl n b => exact ⟨_, rfl, Nat.zero_le _⟩
  | int n i _ _ => exact ⟨_, rfl, Nat.zero_le _⟩
  | str n x hx => exact ⟨_, rfl, Nat.zero_le _⟩
  | tup n xs hl _ ih => exact dd_tup ih
  | lst n xs hl _ ih => exact dd_lst ih
theorem gd_mono {m m' n n' : Nat} {t : T} (h : Gd m n t) (hm : m ≤ m') (hn : n ≤ n') : Gd m' n' t := by
  induction h generalizing n' with
  | non n => exact .non _
  | bl n b => exact .bl _ _
  | int n i a b => exact .int _ _ (by omega) (by omega)
  | str n x hx => exact .str _ _ (by omega)
  | tup n xs hl _ ih =>
    obtain ⟨k, rfl⟩ : ∃ k, n' = k + 1 := ⟨n' - 1, by omega⟩
    exact .tup _ _ (by omega) fun x hx => ih x hx (by omega)
  | lst n xs hl _ ih =>
    obtain ⟨k, rfl⟩ : ∃ k, n' = k + 1 := ⟨n' - 1, by omega⟩
    exact .lst _ _ (by omega) fun x hx => ih x hx (by omega)
def eqB (a b : T) : Bool := match a.dat, b.dat with
  | some d, some e => PyData.eqv d e
  | _, _ => false
theorem eqT_B {n m : Nat} {a b : T} (ha : DD n a) (hb : DD m b) (hn : n ≤ 180 ∨ m ≤ 180) : eqT a b = some (eqB a b) := by
  obtain ⟨d, e1, h1⟩ := ha
  obtain ⟨c, e2, h2⟩ := hb
  unfold eqT eqB
  rw [e1, e2]
  show eqD d c = _
  unfold eqD
  rw [if_pos (by unfold deepest; omega)]
theorem eqB_comm (a b : T) : eqB a b = eqB b a := by
  unfold eqB
  cases a.dat with
  | none => cases b.dat <;> rfl
  | some d => cases b.dat with
    | none => rfl
    | some e => exact PySem.W.eqv_comm d e
theorem eqB_self {n : Nat} {a : T} (ha : DD n a) : eqB a a = true := by
  obtain ⟨d, e, _⟩ := ha
  unfold eqB
  rw [e]
  exact PySem.SeqAt.eqv_refl_plain d (dat_plain2 _ _ e)
theorem eqB_pair {n : Nat} {a b c d : T} (ha : DD n a) (hb : DD n b) (hc : DD n c) (hd : DD n d) : eqB (.tup [a, b]) (.tup [c, d]) = (eqB a c && eqB b d) := by
  obtain ⟨a', ea, _⟩ := ha
  obtain ⟨b', eb, _⟩ := hb
  obtain ⟨c', ec, _⟩ := hc
  obtain ⟨d', ed, _⟩ := hd
  simp [eqB, T.dat, T.datL, ea, eb, ec, ed, PyData.eqv, PyData.eqvAll]
open Classical
theorem gcok_both {h cs : AH} {n : Nat} {c : Cell} (hc : c.und h.length = true) : GcOk h (h.set n c ++ cs) := ⟨by simp, fun i hi => by
  rw [List.getElem?_append_left (by simpa using hi)]
  by_cases e : n = i
  · subst e; exact .inr ⟨c, by simp [hi], hc⟩
  · exact .inl (by rw [List.getElem?_set_ne e])⟩
theorem end_both {h cs : AH} {n : Nat} {c : Cell} {mm : Option Nat} {t : T} (hm : mm = none ∨ mm = some h.length) (hu : t.und h.length = true) (hc : c.und h.length = true) : endR true h (endS true h.length (.ret mm t (h.set n c ++ cs))) = .ok t (h.set n c) := by
  show endR true h (if mm = none ∨ (true = true ∧ mm = some h.length) then .ok t (h.set n c ++ cs) else .stuck) = _
  rw [if_pos (by rcases hm with e | e; exact .inl e; exact .inr ⟨rfl, e⟩)]
  show (if true = true then (if t.und h.length = true ∧ GcOk h (h.set n c ++ cs) then R.ok t ((h.set n c ++ cs).take h.length) else .stuck) else .ok t (h.set n c ++ cs)) = _
  rw [if_pos rfl, if_pos ⟨hu, gcok_both hc⟩]
  have : h.length = (h.set n c).length := by simp
  rw [this, List.take_left']
  simp
theorem end_exc {h : AH} {c : Nat} {v : T} {e1 : Env} (hu : v.pl = true) : endR true h (endS true h.length (.exc c v e1 h)) = .exc c v h := by
  show (if true = true then (if v.und h.length = true ∧ GcOk h h then R.exc c v (h.take h.length) else .stuck) else .exc c v h) = _
  rw [if_pos rfl, if_pos ⟨pl_und _ _ hu, gcok_rfl h⟩, List.take_of_length_le (Nat.le_refl _)]
end PS
end
section
set_option maxRecDepth 100000
set_option maxHeartbeats 1000000
namespace LW
open PySem PS
theorem init_back (k : Nat) (h : AH) (n K : Nat) (rs : List T) (h1 : 1 ≤ K) (h2 : K ≤ 40) (hp : (T.tup rs).pl = true) (hb : okRs (.tup rs) K = true) :
    ∃ t, IsBack (fun j => KG.Rch (rs.filterMap unS) j j) K t ∧ evSs ⟨runFn prg (k + 4), h.length, prg.sub, prg.xi⟩ ir_Pairsx_initx [some (.ref n), some (.int K), some (.tup rs), none, none] h = evSs ⟨runFn prg (k + 4), h.length, prg.sub, prg.xi⟩ (.cons (.ife (.cmp .isnot (.var 3) (.cst .non)) (.cons (.rais 3 (.var 3)) .nil) .nil) (.cons (.setf (.var 0) 0 0 (.var 1)) (.cons (.setf (.var 0) 0 1 (.var 2)) .nil))) [some (.ref n), some (.int K), some (.tup rs), some t, none] h := by
  have hb2 : (1 ≤ rs.length ∧ rs.length ≤ 90) ∧ (rs.all fun r => isR r K) = true := by
    simpa [okRs] using hb
  obtain ⟨⟨d1, d2⟩, ha⟩ := hb2
  have ht : ∀ t ∈ rs, isR t K = true := fun t hm => List.all_eq_true.mp ha t hm
  have hlen : (rs.filterMap unS).length ≤ 1000 := by
    have := List.length_filterMap_le unS rs
    omega
  obtain ⟨t, et, bt⟩ := p_lb (k + 2) K h (rs.filterMap unS) (by omega) hlen (unS_range rs ht)
  have es := p_single_steps (k + 3) K h rs (by omega) (by omega) ht
  refine ⟨t, bt, ?_⟩
  have c := p_is_integer_in (k + 2) h (.int (K : Int)) 1 40 rfl
  rw [show inI (.int (K : Int)) 1 40 = true from by simp [inI]; omega] at c
  have s1 : evS ⟨runFn prg (k + 4), h.length, prg.sub, prg.xi⟩ (.ife (.not (.call 1 (.cons (.var 1) (.cons (.cst (.int 1)) (.cons (.glb 0 (.int 40)) .nil))))) (.cons (.rais 1 (.var 1)) .nil) .nil) [some (.ref n), some (.int K), some (.tup rs), none, none] h = .next [some (.ref n), some (.int K), some (.tup rs), none, none] h := by
    simp [evSs, evS, evE, evL, evB, c]
  have c2 : (rs.length : Int) ≤ 90 := by omega
  have c1 : 1 ≤ (rs.length : Int) := by omega
  have s2 : evS ⟨runFn prg (k + 4), h.length, prg.sub, prg.xi⟩ (.ife (.or (.not (.isi (.var 2) [.tuple])) (.not (.chain .le (.cst (.int 1)) (.bf false .len (.cons (.var 2) .nil)) .le (.glb 0 (.int 90))))) (.cons (.rais 2 (.var 2)) .nil) .nil) [some (.ref n), some (.int K), some (.tup rs), none, none] h = .next [some (.ref n), some (.int K), some (.tup rs), none, none] h := by
    simp [evSs, evS, evE, evL, evB, isTy_pl _ hp, isTyP, c1, c2, d1]
  have al := init_all (k + 1) h.length h n K rs hp
  rw [ha] at al
  have s3 : evS ⟨runFn prg (k + 4), h.length, prg.sub, prg.xi⟩ (.ife (.not (.bf false .all (.cons (.comp false [4] (.nm 4) (.e (.var 2)) .none (.call 5 (.cons (.var 4) (.cons (.var 1) .nil)))) .nil))) (.cons (.rais 2 (.var 2)) .nil) .nil) [some (.ref n), some (.int K), some (.tup rs), none, none] h = .next [some (.ref n), some (.int K), some (.tup rs), none, none] h := by
    have ab : evB ⟨runFn prg (k + 4), h.length, prg.sub, prg.xi⟩ (.bf false .all (.cons (.comp false [4] (.nm 4) (.e (.var 2)) .none (.call 5 (.cons (.var 4) (.cons (.var 1) .nil)))) .nil)) [some (.ref n), some (.int K), some (.tup rs), none, none] h = .ok true h := by
      unfold evB
      rw [al]
      rfl
    unfold evS evB
    rw [ab]
    rfl
  have s4 : evS ⟨runFn prg (k + 4), h.length, prg.sub, prg.xi⟩ (.asg (.nm 3) (.call 4 (.cons (.call 6 (.cons (.var 1) (.cons (.var 2) .nil))) .nil))) [some (.ref n), some (.int K), some (.tup rs), none, none] h = .next [some (.ref n), some (.int K), some (.tup rs), some t, none] h := by
    have e6 : evE ⟨runFn prg (k + 4), h.length, prg.sub, prg.xi⟩ (.call 6 (.cons (.var 1) (.cons (.var 2) .nil))) [some (.ref n), some (.int K), some (.tup rs), none, none] h = .ok (LL (stepsOf (rs.filterMap unS) K)) h := by
      rw [evE, show evL ⟨runFn prg (k + 4), h.length, prg.sub, prg.xi⟩ (.cons (.var 1) (.cons (.var 2) .nil)) [some (.ref n), some (.int K), some (.tup rs), none, none] h = .ok [.int K, .tup rs] h from rfl, R.bind_ok]
      dsimp only
      exact es
    have eE : evE ⟨runFn prg (k + 4), h.length, prg.sub, prg.xi⟩ (.call 4 (.cons (.call 6 (.cons (.var 1) (.cons (.var 2) .nil))) .nil)) [some (.ref n), some (.int K), some (.tup rs), none, none] h = .ok t h := by
      rw [evE, evL, e6, R.bind_ok, evL, R.bind_ok, R.bind_ok]
      dsimp only
      exact et
    unfold evS
    rw [eE]
    rfl
  exact (ss_next s1).trans ((ss_next s2).trans ((ss_next s3).trans (ss_next s4)))
def Due (kt rt d : T) : Prop :=
  (okK kt = false ∧ d = .tup [.str "number", kt]) ∨
  (∃ K : Nat, kt = .int K ∧ 1 ≤ K ∧ K ≤ 40 ∧ ((okRs rt K = false ∧ d = .tup [.str "rules", rt]) ∨
    ∃ rs t, rt = .tup rs ∧ okRs rt K = true ∧ IsBack (fun j => KG.Rch (rs.filterMap unS) j j) K t ∧ ((t = .non ∧ d = .tup [.str "kept", kt, rt]) ∨ (∃ q : Nat, t = .int q ∧ d = .tup [.str "endless", t]))))
theorem okK_int {kt : T} (h : okK kt = true) : ∃ K : Nat, kt = .int K ∧ 1 ≤ K ∧ K ≤ 40 := by
  obtain ⟨i, rfl, a, b⟩ := inI_int h
  obtain ⟨n, rfl⟩ := Int.eq_ofNat_of_zero_le (show (0 : Int) ≤ i by omega)
  exact ⟨n, rfl, by omega, by omega⟩
theorem okK_nat {K : Nat} (h1 : 1 ≤ K) (h2 : K ≤ 40) : okK (.int K) = true := by
  simp [okK, inI]; omega
theorem okRs_tup {rt : T} {K : Int} (h : okRs rt K = true) : ∃ rs, rt = .tup rs ∧ 1 ≤ rs.length ∧ rs.length ≤ 90 ∧ ∀ t ∈ rs, isR t K = true := by
  cases rt with
  | tup rs =>
    have h2 : (1 ≤ rs.length ∧ rs.length ≤ 90) ∧ (rs.all fun r => isR r K) = true := by simpa [okRs] using h
    exact ⟨rs, rfl, h2.1.1, h2.1.2, fun t hm => List.all_eq_true.mp h2.2 t hm⟩
  | _ => simp [okRs] at h
theorem due_uni {kt rt d e : T} (a : Due kt rt d) (b : Due kt rt e) : d = e := by
  rcases a with ⟨a1, rfl⟩ | ⟨K, rfl, a1, a2, a3⟩
  · rcases b with ⟨b1, rfl⟩ | ⟨K, rfl, b1, b2, b3⟩
    · rfl
    · rw [okK_nat b1 b2] at a1; simp at a1
  · rcases b with ⟨b1, rfl⟩ | ⟨K', e, b1, b2, b3⟩
    · rw [okK_nat a1 a2] at b1; simp at b1
    · have : K' = K := by injection e with e; omega
      subst this
      rcases a3 with ⟨a4, rfl⟩ | ⟨rs, t, rfl, a4, a5, a6⟩
      · rcases b3 with ⟨b4, rfl⟩ | ⟨rs, t, rfl, b4, b5, b6⟩
        · rfl
        · rw [a4] at b4; simp at b4
      · rcases b3 with ⟨b4, rfl⟩ | ⟨rs', u, e2, b4, b5, b6⟩
        · rw [a4] at b4; simp at b4
        · injection e2 with e2
          subst e2
          have := back_uni (fun _ _ => Iff.rfl) a5 b5
          subst this
          rcases a6 with ⟨rfl, rfl⟩ | ⟨q, rfl, rfl⟩
          · rcases b6 with ⟨_, rfl⟩ | ⟨q, e3, _⟩
            · rfl
            · simp at e3
          · rcases b6 with ⟨e3, _⟩ | ⟨q', e3, rfl⟩
            · simp at e3
            · rfl
theorem stf_cell {h : AH} {n f : Nat} {t : T} {fs : List (Nat × T)} (hb : h[n]? = some (.obj 0 fs)) (hl : fs.length < 100) : stfT (.ref n) 0 f t h = .ok () (h.set n (.obj 0 (putF f t fs))) := by
  show (match h[n]? with
    | some (.obj c' fs) => if c' = 0 ∧ fs.length < 100 then R.ok () (h.set n (.obj 0 (putF f t fs))) else .stuck
    | _ => .stuck) = _
  rw [hb]
  dsimp only
  rw [if_pos ⟨rfl, hl⟩]
abbrev pObj (a b : T) : Cell := .obj 0 [(0, a), (1, b)]
theorem init_end (k : Nat) (h : AH) (n n0 : Nat) (K rs : T) (hb : h[n]? = some (.obj 0 [])) : evSs ⟨runFn prg k, n0, prg.sub, prg.xi⟩ (.cons (.ife (.cmp .isnot (.var 3) (.cst .non)) (.cons (.rais 3 (.var 3)) .nil) .nil) (.cons (.setf (.var 0) 0 0 (.var 1)) (.cons (.setf (.var 0) 0 1 (.var 2)) .nil))) [some (.ref n), some K, some rs, some .non, none] h = .next [some (.ref n), some K, some rs, some .non, none] (h.set n (pObj K rs)) := by
  have hn : n < h.length := (List.getElem?_eq_some_iff.mp hb).1
  have b2 : (h.set n (.obj 0 [(0, K)]))[n]? = some (.obj 0 [(0, K)]) := by simp [hn]
  have s1 : evS ⟨runFn prg k, n0, prg.sub, prg.xi⟩ (.ife (.cmp .isnot (.var 3) (.cst .non)) (.cons (.rais 3 (.var 3)) .nil) .nil) [some (.ref n), some K, some rs, some .non, none] h = .next [some (.ref n), some K, some rs, some .non, none] h := rfl
  have s2 : evS ⟨runFn prg k, n0, prg.sub, prg.xi⟩ (.setf (.var 0) 0 0 (.var 1)) [some (.ref n), some K, some rs, some .non, none] h = .next [some (.ref n), some K, some rs, some .non, none] (h.set n (.obj 0 [(0, K)])) := by
    show (stfT (.ref n) 0 0 K h).toS _ _ _ = _
    rw [stf_cell hb (by simp)]
    rfl
  have s3 : evS ⟨runFn prg k, n0, prg.sub, prg.xi⟩ (.setf (.var 0) 0 1 (.var 2)) [some (.ref n), some K, some rs, some .non, none] (h.set n (.obj 0 [(0, K)])) = .next [some (.ref n), some K, some rs, some .non, none] (h.set n (pObj K rs)) := by
    show (stfT (.ref n) 0 1 rs (h.set n (.obj 0 [(0, K)]))).toS _ _ _ = _
    rw [stf_cell b2 (by simp)]
    simp [putF]
  exact (ss_next s1).trans ((ss_next s2).trans ((ss_next s3).trans rfl))
theorem init_all4 (k : Nat) (h : AH) (n : Nat) (kt rt : T) (hk : kt.pl = true) (hr : rt.pl = true) (hb : h[n]? = some (.obj 0 [])) :
    ∃ d, Due kt rt d ∧ (
      (d = .tup [.str "number", kt] ∧ runFn prg (k + 5) 7 [.ref n, kt, rt] h = .exc 1 kt h) ∨
      (d = .tup [.str "rules", rt] ∧ runFn prg (k + 5) 7 [.ref n, kt, rt] h = .exc 2 rt h) ∨
      (∃ q : Nat, d = .tup [.str "endless", .int q] ∧ runFn prg (k + 5) 7 [.ref n, kt, rt] h = .exc 3 (.int q) h) ∨
      (d = .tup [.str "kept", kt, rt] ∧ runFn prg (k + 5) 7 [.ref n, kt, rt] h = .ok .non (h.set n (pObj kt rt)))) := by
  cases hK : okK kt with
  | false => exact ⟨_, .inl ⟨hK, rfl⟩, .inl ⟨rfl, init_num (k + 2) h n kt rt hk hK⟩⟩
  | true =>
    obtain ⟨K, rfl, k1, k2⟩ := okK_int hK
    cases hR : okRs rt K with
    | false => exact ⟨_, .inr ⟨K, rfl, k1, k2, .inl ⟨hR, rfl⟩⟩, .inr (.inl ⟨rfl, init_rules (k + 1) h n K rt (by omega) (by omega) hr hR⟩)⟩
    | true =>
      obtain ⟨rs, rfl, -, -, -⟩ := okRs_tup hR
      obtain ⟨t, bt, e⟩ := init_back k h n K rs k1 k2 hr hR
      have er := run_eq (P := prg) (k := k + 4) (f := 7) (fn := ⟨3, 5, false, ir_Pairsx_initx⟩) (xs := [.ref n, .int K, .tup rs]) (h := h) rfl rfl
      rcases back_or bt with rfl | ⟨q, rfl, hq⟩
      · refine ⟨_, .inr ⟨K, rfl, k1, k2, .inr ⟨rs, _, rfl, hR, bt, .inl ⟨rfl, rfl⟩⟩⟩, .inr (.inr (.inr ⟨rfl, ?_⟩))⟩
        rw [er]
        refine (congrArg (fun r : RS => endR false h (endS false h.length r)) (e.trans (init_end (k + 4) h n h.length (.int K) (.tup rs) hb))).trans ?_
        rfl
      · refine ⟨_, .inr ⟨K, rfl, k1, k2, .inr ⟨rs, _, rfl, hR, bt, .inr ⟨q, rfl, rfl⟩⟩⟩, .inr (.inr (.inl ⟨q, rfl, ?_⟩))⟩
        rw [er]
        refine (congrArg (fun r : RS => endR false h (endS false h.length r)) (e.trans (b := _) (c := .exc 3 (.int q) [some (.ref n), some (.int K), some (.tup rs), some (.int q), none] h) ?_)).trans ?_
        · rfl
        · rfl
end LW
end
section
set_option maxRecDepth 100000
set_option maxHeartbeats 1000000
namespace LW
open PySem PS
theorem frz_pl {n0 : Nat} {h : AH} : ∀ (d : Nat) (t : T), t.pl = true → frzV n0 h d t = some t := by
  intro d
  induction d with
  | zero =>
    intro t hp
    show (if t.und n0 = true then some t else none) = _
    rw [if_pos (pl_und n0 t hp)]
  | succ d ih =>
    intro t hp
    cases t with
    | tup xs =>
      have hl : T.plL xs = true := by simp [T.pl] at hp; exact hp.2
      show (xs.mapM (frzV n0 h d)).map T.tup = _
      have : xs.mapM (frzV n0 h d) = some xs := by
        have := mapM_all (frzV n0 h d) (fun x : T => x) (fun x : T => x) xs (fun x hx => ih x (plL_mem hl x hx))
        simpa using this
      rw [this]; rfl
    | lst xs =>
      show (if (T.lst xs).und n0 = true then some (T.lst xs) else none) = _
      rw [if_pos (pl_und n0 _ hp)]
    | ref _ => simp [T.pl] at hp
    | _ => first
      | rfl
      | (exfalso; simp [T.pl] at hp; done)
theorem pl_tag {w : Str} (hw : w.length ≤ 1000) {t : T} (hp : t.pl = true) : (T.tup [.str w, t]).pl = true := by
  simp [T.pl, T.plL, hp, hw]
theorem mk_ok {k n0 : Nat} {es : IL} {env : PS.Env} {h h1 h2 : AH} {xs : List T} (e : evL ⟨runFn prg k, n0, prg.sub, prg.xi⟩ es env h = .ok xs h1) (e2 : runFn prg k 7 (.ref h1.length :: xs) (h1 ++ [.obj 0 []]) = .ok .non h2) :
    evE ⟨runFn prg k, n0, prg.sub, prg.xi⟩ (.mk 0 7 es) env h = .ok (.ref h1.length) h2 := by
  rw [evE, e, R.bind_ok]
  dsimp only
  rw [e2, R.bind_ok]
theorem mk_exc {k n0 c : Nat} {es : IL} {env : PS.Env} {h h1 h2 : AH} {v : T} {xs : List T} (e : evL ⟨runFn prg k, n0, prg.sub, prg.xi⟩ es env h = .ok xs h1) (e2 : runFn prg k 7 (.ref h1.length :: xs) (h1 ++ [.obj 0 []]) = .exc c v h2) :
    evE ⟨runFn prg k, n0, prg.sub, prg.xi⟩ (.mk 0 7 es) env h = .exc c v h2 := by
  rw [evE, e, R.bind_ok]
  dsimp only
  rw [e2, R.bind_exc]
theorem tr_exc {C : PS.Ctx} {b : ISs} {hs : IHs} {env e1 : PS.Env} {h h1 : AH} {c : Nat} {v : T} (e : evSs C b env h = .exc c v e1 h1) : evS C (.tr b hs) env h = evHs C hs c v e1 h1 := by
  rw [evS, e]
theorem tr_next {C : PS.Ctx} {b : ISs} {hs : IHs} {env e1 : PS.Env} {h h1 : AH} (e : evSs C b env h = .next e1 h1) : evS C (.tr b hs) env h = .next e1 h1 := by
  rw [evS, e]
theorem hs_ret {C : PS.Ctx} {k i c : Nat} {b : ISs} {r : IHs} {v t : T} {env : PS.Env} {h h1 : AH} {m : Option Nat} (s : C.sub c k = true) (e : evSs C b (env.set i (some (.exn c v))) h = .ret m t h1) : evHs C (.cons k i b r) c v env h = .ret m t h1 := by
  rw [evHs, if_pos s, e]
theorem hs_skip {C : PS.Ctx} {k i c : Nat} {b : ISs} {r : IHs} {v : T} {env : PS.Env} {h : AH} (s : C.sub c k = false) : evHs C (.cons k i b r) c v env h = evHs C r c v env h := by
  rw [evHs, if_neg (by rw [s]; decide)]
theorem app_at (h : AH) (c : Cell) : (h ++ [c])[h.length]? = some c := by simp
theorem fld_cell {h : AH} {n c f : Nat} {fs : List (Nat × T)} (hb : h[n]? = some (.obj c fs)) : fldT h (.ref n) c f = fs.lookup f := by
  show (match h[n]? with
    | some (.obj c' fs) => if c' = c then fs.lookup f else none
    | _ => none) = _
  rw [hb]
  dsimp only
  rw [if_pos rfl]
theorem app_set (h : AH) (c d : Cell) : (h ++ [c]).set h.length d = h ++ [d] := by simp [List.set_append]
theorem tag_two {w : Str} {n0 : Nat} {h : AH} {v a b : T} {c k f : Nat} (hv : v.pl = true) (hw : w.length ≤ 1000) (hx : prg.xi c = f) :
    evSs ⟨runFn prg k, n0, prg.sub, prg.xi⟩ (.cons (.ret true (.tup (.cons (.cst (.str w)) (.cons (.fle (.var 3) f) .nil)))) .nil) [some a, some b, none, some (.exn c v)] h = .ret (some n0) (.tup [.str w, v]) h := by
  have ef : evE ⟨runFn prg k, n0, prg.sub, prg.xi⟩ (.fle (.var 3) f) [some a, some b, none, some (.exn c v)] h = .ok v h := by
    show (if prg.xi c = f then R.ok v h else .stuck) = _
    rw [if_pos hx]
  have eL : evL ⟨runFn prg k, n0, prg.sub, prg.xi⟩ (.cons (.cst (.str w)) (.cons (.fle (.var 3) f) .nil)) [some a, some b, none, some (.exn c v)] h = .ok [.str w, v] h := by
    rw [evL, evE, R.bind_ok, evL, ef, R.bind_ok, evL, R.bind_ok, R.bind_ok]
  have eE : evE ⟨runFn prg k, n0, prg.sub, prg.xi⟩ (.tup (.cons (.cst (.str w)) (.cons (.fle (.var 3) f) .nil))) [some a, some b, none, some (.exn c v)] h = .ok (.tup [.str w, v]) h := by
    rw [evE, eL, R.bind_ok, if_pos (by rw [sizeLine_eq]; simp)]
  refine ss_ret ?_
  unfold evS
  rw [eE, R.toS_ok]
  show (match frzV n0 h 4 (.tup [.str w, v]) with
      | some t' => RS.ret (some n0) t' h
      | none => .stuck) = _
  rw [frz_pl 4 _ (pl_tag hw hv)]
end LW
end
section
set_option maxRecDepth 100000
set_option maxHeartbeats 1000000
namespace LW
open PySem PS
theorem box_lt {h : AH} {n : Nat} (b : Box h n) : n < h.length := by
  obtain ⟨g, s, _, _, e⟩ := b
  exact (List.getElem?_eq_some_iff.mp e).1
theorem bo_len {h h' : AH} {n : Nat} (b : BoxOnly n h h') : h'.length = h.length := by
  obtain ⟨g, s, _, _, rfl⟩ := b
  simp
theorem bo_box {h h' : AH} {n : Nat} (a : Box h n) (b : BoxOnly n h h') : Box h' n := by
  have := box_lt a
  obtain ⟨g, s, h1, h2, rfl⟩ := b
  exact ⟨g, s, h1, h2, by simp [this]⟩
theorem bo_ne {h h' : AH} {n m : Nat} (b : BoxOnly n h h') (hm : m ≠ n) : h'[m]? = h[m]? := by
  obtain ⟨g, s, _, _, rfl⟩ := b
  rw [List.getElem?_set_ne (Ne.symm hm)]
theorem bo_trans {h h1 h2 : AH} {n : Nat} (a : BoxOnly n h h1) (b : BoxOnly n h1 h2) : BoxOnly n h h2 := by
  obtain ⟨g, s, _, _, rfl⟩ := a
  obtain ⟨g', s', x, y, rfl⟩ := b
  exact ⟨g', s', x, y, by simp⟩
theorem bo_refl {h : AH} {n : Nat} (a : Box h n) : BoxOnly n h h := by
  obtain ⟨g, s, x, y, e⟩ := a
  refine ⟨g, s, x, y, ?_⟩
  refine List.ext_getElem? fun i => ?_
  by_cases c : n = i
  · subst c
    rw [e, List.getElem?_set_self (List.getElem?_eq_some_iff.mp e).1]
  · rw [List.getElem?_set_ne c]
theorem bo_app {h h' cs : AH} {n : Nat} (hn : n < h.length) (b : BoxOnly n (h ++ cs) h') : ∃ h2, h' = h2 ++ cs ∧ BoxOnly n h h2 := by
  obtain ⟨g, s, x, y, rfl⟩ := b
  exact ⟨h.set n (.lst [.int g, .int s]), by rw [List.set_append_left _ _ hn], g, s, x, y, rfl⟩
theorem box_app {h cs : AH} {n : Nat} (b : Box h n) : Box (h ++ cs) n := by
  have := box_lt b
  obtain ⟨g, s, x, y, e⟩ := b
  exact ⟨g, s, x, y, by rw [List.getElem?_append_left this, e]⟩
theorem end_box {h h' cs : AH} {n : Nat} {mm : Option Nat} {t : T} (b : BoxOnly n h h') (hm : mm = none ∨ mm = some h.length) (hu : t.und h.length = true) : endR true h (endS true h.length (.ret mm t (h' ++ cs))) = .ok t h' := by
  obtain ⟨g, s, _, _, rfl⟩ := b
  exact end_both hm hu rfl
theorem end_box0 {h h' : AH} {n : Nat} {mm : Option Nat} {t : T} (b : BoxOnly n h h') (hm : mm = none ∨ mm = some h.length) (hu : t.und h.length = true) : endR true h (endS true h.length (.ret mm t h')) = .ok t h' := by
  have := end_box (cs := []) b hm hu
  rwa [List.append_nil] at this
theorem pick_mem {k : Nat} {h : AH} {n : Nat} {xs : List T} (hb : Box h n) (h1 : xs ≠ []) (h2 : xs.length ≤ 1000) (hx : T.plL xs = true) :
    ∃ x h', runFn prg (k + 2) 11 [.ref n, .lst xs] h = .ok x h' ∧ x ∈ xs ∧ BoxOnly n h h' := by
  obtain ⟨r, x, h', e, m, b⟩ := p_pick k h n xs false hb h1 (by omega) (pl_undL _ _ hx)
  exact ⟨x, h', e, List.mem_of_getElem? m, b⟩
theorem ne_nil {h : AH} (xs : List T) (hp : T.plL xs = true) : cmpT .ne h (.tup xs) (.tup []) = some (!xs.isEmpty) := by
  obtain ⟨d, e⟩ := pl_datL xs hp
  show (eqT (.tup xs) (.tup [])).map (!·) = _
  have : eqT (.tup xs) (.tup []) = some xs.isEmpty := by
    unfold eqT
    have e1 : (T.tup xs).dat = some (.tuple d) := by
      rw [T.dat, e]; rfl
    rw [e1]
    show eqD (.tuple d) (.tuple []) = _
    unfold eqD
    rw [if_pos (by simp [PyData.depth, PyData.depthAll, deepest])]
    cases xs with
    | nil =>
      cases e
      simp [PyData.eqv, PyData.eqvAll]
    | cons x xs =>
      have : d ≠ [] := by
        rintro rfl
        rw [T.datL] at e
        split at e <;> simp at e
      cases d with
      | nil => exact absurd rfl this
      | cons a d => simp [PyData.eqv, PyData.eqvAll]
  rw [this]; rfl
theorem cutL_len (xs : List T) (lo hi : Option Int) : (cutL xs lo hi).length ≤ xs.length := by
  unfold cutL
  simp
  omega
theorem cutL_mem {xs : List T} {lo hi : Option Int} {x : T} (h : x ∈ cutL xs lo hi) : x ∈ xs := by
  unfold cutL at h
  exact List.mem_of_mem_drop (List.mem_of_mem_take h)
theorem thou3 {a b : Nat} (h1 : a ≤ 1000) (h2 : b ≤ 1000) : a + b ≤ sizeLine := by rw [sizeLine_eq]; omega
theorem add_tup {m : Bool} {xs ys : List T} {h : AH} (h1 : xs.length ≤ 1000) (h2 : ys.length ≤ 1000) : binT m .add (.tup xs) (.tup ys) h = .ok (.tup (xs ++ ys)) h := by
  rw [bin_tup, if_pos (thou3 h1 h2)]
end LW
end
section
set_option maxRecDepth 100000
set_option maxHeartbeats 1000000
namespace LW
open PySem PS
theorem str_of_len (s : String) : (Str.ofString s).length = s.length := by
  rw [Str.ofString_eq_toList]
  show ((s.toList.map Char.toNat).toArray).size = _
  rw [List.size_toArray, List.length_map, String.length_toList]
theorem repr_len {m : Nat} (h : m < 10 ^ 10) : (Nat.repr m).length ≤ 10 := (Nat.length_repr_le_iff (n := m) (by decide : 0 < 10)).mpr h
theorem str_small {i : Int} (h0 : -2000000000 ≤ i) (h1 : i ≤ 2000000000) : ∃ s, strT (.int i) = some s ∧ s.length ≤ 20 := by
  have hl : i.natAbs.log2 < 1920 := by
    by_cases z : i.natAbs = 0
    · rw [z]; decide
    · have : i.natAbs < 2 ^ 40 := by omega
      have := (Nat.log2_lt z).mpr this
      omega
  refine ⟨Str.ofString (toString i), ?_, ?_⟩
  · show (if i.natAbs.log2 < 1920 then some (Str.ofString (toString i)) else none) = _
    rw [if_pos hl]
  · rw [str_of_len]
    cases i with
    | ofNat m =>
      show (Nat.repr m).length ≤ 20
      have := repr_len (m := m) (by have : (m : Int) ≤ 2000000000 := h1; omega)
      omega
    | negSucc m =>
      show (("-" : String) ++ Nat.repr (m + 1)).length ≤ 20
      rw [String.length_append]
      have := repr_len (m := m + 1) (by omega)
      have e : ("-" : String).length = 1 := rfl
      omega
theorem cutS_len (z : Str) (lo hi : Option Int) : (L2.cutS z lo hi).length ≤ z.length := by
  unfold L2.cutS
  show ((((z.cps.toList.drop _).take _).toArray).size) ≤ z.cps.size
  simp
  omega
theorem slc_tup {m : Bool} {xs : List T} {lo hi : Option Int} {h : AH} : slcT m (.tup xs) lo hi h = .ok (.tup (cutL xs lo hi)) h := rfl
abbrev spTail : ISs := (.cons (.ife (.cmp .eq (.var 4) (.cst (.int 0))) (.cons (.ret false (.bf false .list (.cons (.var 1) .nil)))
  .nil) .nil)
  (.cons (.ife (.cmp .eq (.var 4) (.cst (.int 1))) (.cons (.ret false (.bin false .add (.slc false (.var 1) .none (.some (.var 3))) (.slc false (.var 1) (.some (.bin false .add (.var 3) (.cst (.int 1)))) .none)))
  .nil) .nil)
  (.cons (.ife (.cmp .eq (.var 4) (.cst (.int 2))) (.cons (.ret false (.bin false .add (.bin false .add (.slc false (.var 1) .none (.some (.var 3))) (.slc false (.var 1) (.some (.var 3)) (.some (.bin false .add (.var 3) (.cst (.int 1)))))) (.slc false (.var 1) (.some (.var 3)) .none)))
  .nil) .nil)
  (.cons (.ife (.cmp .eq (.var 4) (.cst (.int 3))) (.cons (.ret false (.bin false .add (.slc false (.var 1) (.some (.var 3)) .none) (.slc false (.var 1) .none (.some (.var 3)))))
  .nil) .nil)
  (.cons (.ife (.cmp .eq (.var 4) (.cst (.int 4))) (.cons (.ret false (.bin false .add (.var 1) (.tup (.cons (.tup .nil) .nil))))
  .nil) .nil)
  (.cons (.ife (.cmp .eq (.var 4) (.cst (.int 5))) (.cons (.ret false (.bin false .add (.bin false .add (.slc false (.var 1) .none (.some (.var 3))) (.tup (.cons (.cst (.int 0)) .nil))) (.slc false (.var 1) (.some (.var 3)) .none)))
  .nil) .nil)
  (.cons (.ife (.cmp .eq (.var 4) (.cst (.int 6))) (.cons (.ret false (.bin false .add (.slc false (.var 1) .none (.some (.neg (.cst (.int 1))))) (.slc false (.var 1) .none (.some (.cst (.int 1))))))
  .nil) .nil)
  (.cons (.ret false (.cst .non))
  .nil))))))))
theorem sp_tail (k n0 d : Nat) (h : AH) (bx dp : T) (xs : List T) (at_ how : Int) (hl : xs.length ≤ 20) (hx : ∀ x ∈ xs, Gd 20 d x) (h0 : 0 ≤ how) (h1 : how < 8) :
    ∃ w, evSs ⟨runFn prg k, n0, prg.sub, prg.xi⟩ spTail [some bx, some (.tup xs), some dp, some (.int at_), some (.int how)] h = .ret none w h ∧ Gd 100 (d + 2) w := by
  have hm : ∀ lo hi x, x ∈ cutL xs lo hi → Gd 100 (d + 1) x := fun lo hi x e => gd_mono (hx x (cutL_mem e)) (by omega) (by omega)
  have hc : ∀ lo hi, (cutL xs lo hi).length ≤ 20 := fun lo hi => Nat.le_trans (cutL_len xs lo hi) hl
  have zl : xs.length ≤ sizeLine := thou_line (by omega)
  have z1 : (1 : Nat) ≤ sizeLine := thou_line (by omega)
  have a2 : ∀ (m : Bool) (a b c e : Option Int) (h : AH), binT m .add (.tup (cutL xs a b)) (.tup (cutL xs c e)) h = .ok (.tup (cutL xs a b ++ cutL xs c e)) h := fun m a b c e h => add_tup (by have := hc a b; omega) (by have := hc c e; omega)
  have a3 : ∀ (m : Bool) (a b c e f g : Option Int) (h : AH), binT m .add (.tup (cutL xs a b ++ cutL xs c e)) (.tup (cutL xs f g)) h = .ok (.tup (cutL xs a b ++ cutL xs c e ++ cutL xs f g)) h := fun m a b c e f g h => add_tup (by have := hc a b; have := hc c e; rw [List.length_append]; omega) (by have := hc f g; omega)
  have a4 : ∀ (m : Bool) (t : T) (h : AH), binT m .add (.tup xs) (.tup [t]) h = .ok (.tup (xs ++ [t])) h := fun m t h => add_tup (by omega) (by simp)
  have a5 : ∀ (m : Bool) (a b : Option Int) (t : T) (h : AH), binT m .add (.tup (cutL xs a b)) (.tup [t]) h = .ok (.tup (cutL xs a b ++ [t])) h := fun m a b t h => add_tup (by have := hc a b; omega) (by simp)
  have a6 : ∀ (m : Bool) (a b c e : Option Int) (t : T) (h : AH), binT m .add (.tup (cutL xs a b ++ [t])) (.tup (cutL xs c e)) h = .ok (.tup (cutL xs a b ++ [t] ++ cutL xs c e)) h := fun m a b c e t h => add_tup (by have := hc a b; rw [List.length_append, List.length_singleton]; omega) (by have := hc c e; omega)
  have bl : bfT false .list [.tup xs] h = .ok (.lst xs) h := by
    show PS.fresh false xs h = _
    exact fresh_f zl
  have e8 : how = 0 ∨ how = 1 ∨ how = 2 ∨ how = 3 ∨ how = 4 ∨ how = 5 ∨ how = 6 ∨ how = 7 := by omega
  rcases e8 with rfl | rfl | rfl | rfl | rfl | rfl | rfl | rfl
  · refine ⟨.lst xs, ?_, .lst _ _ (by omega) fun x e => gd_mono (hx x e) (by omega) (by omega)⟩
    simp [-bin_tup, evSs, evS, evE, evL, evB, evO, slc_tup, bl]
  · refine ⟨.tup (cutL xs none (some at_) ++ cutL xs (some (at_ + 1)) none), ?_, .tup _ _ ?_ fun x e => ?_⟩
    · simp [-bin_tup, evSs, evS, evE, evL, evB, evO, slc_tup, a2]
    · rw [List.length_append]; have := hc none (some at_); have := hc (some (at_ + 1)) none; omega
    · rw [List.mem_append] at e
      rcases e with e | e <;> exact hm _ _ x e
  · refine ⟨.tup (cutL xs none (some at_) ++ cutL xs (some at_) (some (at_ + 1)) ++ cutL xs (some at_) none), ?_, .tup _ _ ?_ fun x e => ?_⟩
    · simp [-bin_tup, -List.append_assoc, evSs, evS, evE, evL, evB, evO, slc_tup, a2, a3]
    · rw [List.length_append, List.length_append]; have := hc none (some at_); have := hc (some at_) (some (at_ + 1)); have := hc (some at_) none; omega
    · rw [List.mem_append, List.mem_append] at e
      rcases e with (e | e) | e <;> exact hm _ _ x e
  · refine ⟨.tup (cutL xs (some at_) none ++ cutL xs none (some at_)), ?_, .tup _ _ ?_ fun x e => ?_⟩
    · simp [-bin_tup, evSs, evS, evE, evL, evB, evO, slc_tup, a2]
    · rw [List.length_append]; have := hc none (some at_); have := hc (some at_) none; omega
    · rw [List.mem_append] at e
      rcases e with e | e <;> exact hm _ _ x e
  · refine ⟨.tup (xs ++ [.tup []]), ?_, .tup _ _ ?_ fun x e => ?_⟩
    · simp [-bin_tup, evSs, evS, evE, evL, evB, evO, slc_tup, a4, z1]
    · simp; omega
    · rw [List.mem_append, List.mem_singleton] at e
      rcases e with e | rfl
      · exact gd_mono (hx x e) (by omega) (by omega)
      · exact .tup _ _ (by simp) fun x e => by simp at e
  · refine ⟨.tup (cutL xs none (some at_) ++ [.int 0] ++ cutL xs (some at_) none), ?_, .tup _ _ ?_ fun x e => ?_⟩
    · simp [-bin_tup, -List.append_assoc, evSs, evS, evE, evL, evB, evO, slc_tup, a5, a6, z1]
    · rw [List.length_append, List.length_append, List.length_singleton]; have := hc none (some at_); have := hc (some at_) none; omega
    · rw [List.mem_append, List.mem_append, List.mem_singleton] at e
      rcases e with (e | rfl) | e
      · exact hm _ _ x e
      · exact .int _ _ (by omega) (by omega)
      · exact hm _ _ x e
  · refine ⟨.tup (cutL xs none (some (-1)) ++ cutL xs none (some 1)), ?_, .tup _ _ ?_ fun x e => ?_⟩
    · simp [-bin_tup, evSs, evS, evE, evL, evB, evO, slc_tup, a2]
    · rw [List.length_append]; have := hc none (some (-1)); have := hc none (some 1); omega
    · rw [List.mem_append] at e
      rcases e with e | e <;> exact hm _ _ x e
  · refine ⟨.non, ?_, .non _⟩
    simp [-bin_tup, evSs, evS, evE, evL, evB, evO, slc_tup]
end LW
end
section
set_option maxRecDepth 100000
set_option maxHeartbeats 1000000
namespace LW
open PySem PS
theorem add_str {m : Bool} {a b : Str} {h : AH} (h1 : a.length ≤ 500) (h2 : b.length ≤ 500) : binT m .add (.str a) (.str b) h = .ok (.str (a ++ b)) h := by
  show (if a.length + b.length ≤ sizeLine then R.ok (T.str (a ++ b)) h else .stuck) = _
  rw [if_pos (by rw [sizeLine_eq]; omega)]
theorem slc_str {m : Bool} {a : Str} {lo hi : Option Int} {h : AH} (h1 : a.length ≤ 1000) : slcT m (.str a) lo hi h = .ok (.str (L2.cutS a lo hi)) h := by
  show (if a.length ≤ sizeLine then R.ok (T.str (L2.cutS a lo hi)) h else .stuck) = _
  rw [if_pos (thou_line h1)]
theorem bf_str {m : Bool} {i : Int} {s : Str} {h : AH} (e : strT (.int i) = some s) : bfT m .str [.int i] h = .ok (.str s) h := by
  show (match strT (.int i) with
    | some x => R.ok (T.str x) h
    | none => .stuck) = _
  rw [e]
theorem gd_plL {m d : Nat} {L : List T} (hm : m ≤ 1000) (h : ∀ x ∈ L, Gd m d x) : T.plL L = true := plL_of fun x hx => gd_pl hm (h x hx)
theorem sp_str (k n0 d n : Nat) (h : AH) (dp : T) (x : Str) (hb : Box h n) (hx : x.length ≤ 20) :
    ∃ w h', evSs ⟨runFn prg (k + 2), n0, prg.sub, prg.xi⟩ ir__law_spoilt [some (.ref n), some (.str x), some dp, none, none] h = .ret none w h' ∧ Gd 100 (d + 1) w ∧ BoxOnly n h h' := by
  have l1 : (x ++ ("b" : Str)).length ≤ 21 := by rw [Str.length_append, show ("b" : Str).length = 1 from rfl]; omega
  have l2 : (("a" : Str) ++ x).length ≤ 21 := by rw [Str.length_append, show ("a" : Str).length = 1 from rfl]; omega
  have l3 : (L2.cutS x (some 1) none).length ≤ 20 := Nat.le_trans (cutS_len _ _ _) hx
  have gd : ∀ y ∈ [T.str (x ++ ("b" : Str)), .str "", .str (L2.cutS x (some 1) none), .str (("a" : Str) ++ x), .int 0], Gd 100 (d + 1) y := by
    intro y hy
    simp at hy
    rcases hy with rfl | rfl | rfl | rfl | rfl
    · exact .str _ _ (by omega)
    · exact .str _ _ (by decide)
    · exact .str _ _ (by omega)
    · exact .str _ _ (by omega)
    · exact .int _ _ (by omega) (by omega)
  obtain ⟨w, h', e, mw, b⟩ := pick_mem (k := k) hb (xs := [T.str (x ++ ("b" : Str)), .str "", .str (L2.cutS x (some 1) none), .str (("a" : Str) ++ x), .int 0]) (by simp) (by simp) (gd_plL (by omega) gd)
  refine ⟨w, h', ?_, gd w mw, b⟩
  have hp : (T.str x).pl = true := by simp [T.pl]; omega
  have a1 := add_str (m := false) (a := x) (b := "b") (h := h) (by omega) (by decide)
  have a2 := add_str (m := false) (a := "a") (b := x) (h := h) (by decide) (by omega)
  have a3 := slc_str (m := false) (a := x) (lo := some 1) (hi := none) (h := h) (by omega)
  have fr : PS.fresh false [T.str (x ++ ("b" : Str)), .str "", .str (L2.cutS x (some 1) none), .str (("a" : Str) ++ x), .int 0] h = .ok (.lst [T.str (x ++ ("b" : Str)), .str "", .str (L2.cutS x (some 1) none), .str (("a" : Str) ++ x), .int 0]) h := fresh_f (thou_line (by simp))
  simp [evSs, evS, evE, evL, evB, evO, isTy_pl _ hp, isTyP, a1, a2, a3, fr, e]
theorem sp_int (k n0 d n : Nat) (h : AH) (dp : T) (i : Int) (hb : Box h n) (h0 : -2000000000 ≤ i) (h1 : i ≤ 2000000000) :
    ∃ w h', evSs ⟨runFn prg (k + 2), n0, prg.sub, prg.xi⟩ ir__law_spoilt [some (.ref n), some (.int i), some dp, none, none] h = .ret none w h' ∧ Gd 100 (d + 1) w ∧ BoxOnly n h h' := by
  obtain ⟨s, es, ls⟩ := str_small h0 h1
  have gd : ∀ y ∈ [T.int (i + 1), .int (i - 1), .bl (decide (0 < i)), .int (-1 - i), .tup [.int i], .non, .str s, .int (i + 16)], Gd 100 (d + 1) y := by
    intro y hy
    simp at hy
    rcases hy with rfl | rfl | rfl | rfl | rfl | rfl | rfl | rfl
    · exact .int _ _ (by omega) (by omega)
    · exact .int _ _ (by omega) (by omega)
    · exact .bl _ _
    · exact .int _ _ (by omega) (by omega)
    · exact .tup _ _ (by simp) fun x hx => by simp at hx; subst hx; exact .int _ _ (by omega) (by omega)
    · exact .non _
    · exact .str _ _ (by omega)
    · exact .int _ _ (by omega) (by omega)
  obtain ⟨w, h', e, mw, b⟩ := pick_mem (k := k) hb (xs := [T.int (i + 1), .int (i - 1), .bl (decide (0 < i)), .int (-1 - i), .tup [.int i], .non, .str s, .int (i + 16)]) (by simp) (by simp) (gd_plL (by omega) gd)
  refine ⟨w, h', ?_, gd w mw, b⟩
  have hp : (T.int i).pl = true := rfl
  have wh := p_whole (k + 1) h (.int i) rfl
  have a1 := bf_str (m := false) (h := h) es
  have z1 : (1 : Nat) ≤ sizeLine := thou_line (by omega)
  have fr : PS.fresh false [T.int (i + 1), .int (i - 1), .bl (decide (0 < i)), .int (-1 - i), .tup [.int i], .non, .str s, .int (i + 16)] h = .ok (.lst [T.int (i + 1), .int (i - 1), .bl (decide (0 < i)), .int (-1 - i), .tup [.int i], .non, .str s, .int (i + 16)]) h := fresh_f (thou_line (by simp))
  simp [evSs, evS, evE, evL, evB, evO, isTy_pl _ hp, isTyP, a1, fr, e, wh, isI, z1]
theorem sp_else (k n0 d n : Nat) (h : AH) (dp t : T) (hb : Box h n) (hp : t.pl = true) (q1 : isTyP t .tuple = false) (q2 : isTyP t .str = false) (q3 : isI t = false) :
    ∃ w h', evSs ⟨runFn prg (k + 2), n0, prg.sub, prg.xi⟩ ir__law_spoilt [some (.ref n), some t, some dp, none, none] h = .ret none w h' ∧ Gd 100 (d + 1) w ∧ BoxOnly n h h' := by
  have gd : ∀ y ∈ [T.int 0, .tup [], .str "none"], Gd 100 (d + 1) y := by
    intro y hy
    simp at hy
    rcases hy with rfl | rfl | rfl
    · exact .int _ _ (by omega) (by omega)
    · exact .tup _ _ (by simp) fun x hx => by simp at hx
    · exact .str _ _ (by decide)
  obtain ⟨w, h', e, mw, b⟩ := pick_mem (k := k) hb (xs := [T.int 0, .tup [], .str "none"]) (by simp) (by simp) (gd_plL (by omega) gd)
  refine ⟨w, h', ?_, gd w mw, b⟩
  have wh := p_whole (k + 1) h t hp
  have fr : PS.fresh false [T.int 0, .tup [], .str "none"] h = .ok (.lst [T.int 0, .tup [], .str "none"]) h := fresh_f (thou_line (by simp))
  simp [evSs, evS, evE, evL, evB, evO, isTy_pl _ hp, q1, q2, fr, e, wh, q3]
abbrev spR2 : IS := .ife (.and (.cmp .ne (.var 1) (.tup .nil)) (.and (.cmp .gt (.var 2) (.cst (.int 0))) (.cmp .gt (.call 10 (.cons (.var 0) (.cons (.cst (.int 5)) .nil))) (.cst (.int 0))))) (.cons (.asg (.nm 3) (.bin false .mod (.bf false .int (.cons (.var 3) .nil)) (.bf false .len (.cons (.var 1) .nil))))
  (.cons (.ret false (.bin false .add (.bin false .add (.slc false (.var 1) .none (.some (.var 3))) (.tup (.cons (.call 15 (.cons (.var 0) (.cons (.idx (.var 1) (.var 3)) (.cons (.bin false .sub (.var 2) (.cst (.int 1))) .nil)))) .nil))) (.slc false (.var 1) (.some (.bin false .add (.var 3) (.cst (.int 1)))) .none)))
  .nil)) .nil
theorem p_spoilt (k : Nat) : ∀ (deep : Nat) (h : AH) (n d : Nat) (t : T) (dI : Int), dI = deep → Box h n → Gd 20 d t →
    ∃ w h', runFn prg (k + 3 + deep) 15 [.ref n, t, .int dI] h = .ok w h' ∧ Gd 100 (d + 1) w ∧ BoxOnly n h h' := by
  intro deep
  induction deep with
  | zero =>
    intro h n d t dI hd hb g
    subst hd
    have hp : t.pl = true := gd_pl (by omega) g
    suffices q : ∃ w h', evSs ⟨runFn prg (k + 2), h.length, prg.sub, prg.xi⟩ ir__law_spoilt [some (.ref n), some t, some (.int 0), none, none] h = .ret none w h' ∧ Gd 100 (d + 1) w ∧ BoxOnly n h h' by
      obtain ⟨w, h', e, gw, b⟩ := q
      refine ⟨w, h', ?_, gw, b⟩
      rw [run_eq (fn := ⟨3, 5, true, ir__law_spoilt⟩) rfl rfl]
      refine (congrArg (fun r : RS => endR true h (endS true h.length r)) e).trans ?_
      exact end_box0 b (.inl rfl) (pl_und _ _ (gd_pl (by omega) gw))
    cases g with
    | str n2 x hx => exact sp_str k h.length d n h (.int 0) x hb hx
    | int n2 i a b => exact sp_int k h.length d n h (.int 0) i hb (by omega) (by omega)
    | non n2 => exact sp_else k h.length d n h (.int 0) .non hb rfl rfl rfl rfl
    | bl n2 b => exact sp_else k h.length d n h (.int 0) (.bl b) hb rfl rfl rfl rfl
    | lst n2 xs a b => exact sp_else k h.length _ n h (.int 0) (.lst xs) hb hp rfl rfl rfl
    | tup d' xs a gx =>
      obtain ⟨a1, h1, e1, a10, a11, b1⟩ := p_take (k + 1) h n (xs.length + 1) hb (by omega) (by omega)
      obtain ⟨a2, h2, e2, a20, a21, b2⟩ := p_take (k + 1) h1 n 8 (bo_box hb b1) (by omega) (by omega)
      obtain ⟨w, ew, gw⟩ := sp_tail (k + 2) h.length d' h2 (.ref n) (.int 0) xs a1 a2 a gx a20 a21
      refine ⟨w, h2, ?_, gw, bo_trans b1 b2⟩
      have nn := ne_nil (h := h1) xs (by simp [T.pl] at hp; exact hp.2)
      have z0 : (0 : Nat) ≤ sizeLine := Nat.zero_le _
      have s1 : evS ⟨runFn prg (k + 2), h.length, prg.sub, prg.xi⟩ (.asg (.nm 3) (.call 10 (.cons (.var 0) (.cons (.bin false .add (.bf false .len (.cons (.var 1) .nil)) (.cst (.int 1))) .nil)))) [some (.ref n), some (.tup xs), some (.int 0), none, none] h = .next [some (.ref n), some (.tup xs), some (.int 0), some (.int a1), none] h1 := by
        simp [evS, evE, evL, e1, TG.asg]
      have s2 : evS ⟨runFn prg (k + 2), h.length, prg.sub, prg.xi⟩ spR2 [some (.ref n), some (.tup xs), some (.int 0), some (.int a1), none] h1 = .next [some (.ref n), some (.tup xs), some (.int 0), some (.int a1), none] h1 := by
        cases hx : xs.isEmpty <;> simp [evSs, evS, evE, evL, evB, nn, hx]
      have s3 : evS ⟨runFn prg (k + 2), h.length, prg.sub, prg.xi⟩ (.asg (.nm 4) (.call 10 (.cons (.var 0) (.cons (.cst (.int 8)) .nil)))) [some (.ref n), some (.tup xs), some (.int 0), some (.int a1), none] h1 = .next [some (.ref n), some (.tup xs), some (.int 0), some (.int a1), some (.int a2)] h2 := by
        simp [evS, evE, evL, e2, TG.asg]
      refine ss_ret ?_
      have c : evB ⟨runFn prg (k + 2), h.length, prg.sub, prg.xi⟩ (.isi (.var 1) [.tuple]) [some (.ref n), some (.tup xs), some (.int 0), none, none] h = .ok true h := by
        simp [evB, evE, isTy_pl _ hp, isTyP]
      unfold evS
      rw [c, R.toS_ok]
      exact (ss_next s1).trans ((ss_next s2).trans ((ss_next s3).trans ew))
  | succ deep ih =>
    intro h n d t dI hd hb g
    subst hd
    have hp : t.pl = true := gd_pl (by omega) g
    suffices q : ∃ w h', evSs ⟨runFn prg (k + 3 + deep), h.length, prg.sub, prg.xi⟩ ir__law_spoilt [some (.ref n), some t, some (.int (deep + 1 : Nat)), none, none] h = .ret none w h' ∧ Gd 100 (d + 1) w ∧ BoxOnly n h h' by
      obtain ⟨w, h', e, gw, b⟩ := q
      refine ⟨w, h', ?_, gw, b⟩
      rw [show k + 3 + (deep + 1) = (k + 3 + deep) + 1 from rfl, run_eq (fn := ⟨3, 5, true, ir__law_spoilt⟩) rfl rfl]
      refine (congrArg (fun r : RS => endR true h (endS true h.length r)) e).trans ?_
      exact end_box0 b (.inl rfl) (pl_und _ _ (gd_pl (by omega) gw))
    have ek : k + 3 + deep = (k + 1 + deep) + 2 := by omega
    cases g with
    | str n2 x hx => rw [ek]; exact sp_str _ h.length d n h _ x hb hx
    | int n2 i a b => rw [ek]; exact sp_int _ h.length d n h _ i hb (by omega) (by omega)
    | non n2 => rw [ek]; exact sp_else _ h.length d n h _ .non hb rfl rfl rfl rfl
    | bl n2 b => rw [ek]; exact sp_else _ h.length d n h _ (.bl b) hb rfl rfl rfl rfl
    | lst n2 xs a b => rw [ek]; exact sp_else _ h.length _ n h _ (.lst xs) hb hp rfl rfl rfl
    | tup d' xs a gx =>
      have ek2 : k + 3 + deep = (k + 2 + deep) + 1 := by omega
      obtain ⟨a1, h1, e1, a10, a11, b1⟩ := p_take (k + 2 + deep) h n (xs.length + 1) hb (by omega) (by omega)
      obtain ⟨a3, h3, e3, a30, a31, b3⟩ := p_take (k + 2 + deep) h1 n 5 (bo_box hb b1) (by omega) (by omega)
      rw [← ek2] at e1 e3
      have nn := ne_nil (h := h1) xs (by simp [T.pl] at hp; exact hp.2)
      have c : evB ⟨runFn prg (k + 3 + deep), h.length, prg.sub, prg.xi⟩ (.isi (.var 1) [.tuple]) [some (.ref n), some (.tup xs), some (.int (deep + 1 : Nat)), none, none] h = .ok true h := by
        simp [evB, evE, isTy_pl _ hp, isTyP]
      have s1 : evS ⟨runFn prg (k + 3 + deep), h.length, prg.sub, prg.xi⟩ (.asg (.nm 3) (.call 10 (.cons (.var 0) (.cons (.bin false .add (.bf false .len (.cons (.var 1) .nil)) (.cst (.int 1))) .nil)))) [some (.ref n), some (.tup xs), some (.int (deep + 1 : Nat)), none, none] h = .next [some (.ref n), some (.tup xs), some (.int (deep + 1 : Nat)), some (.int a1), none] h1 := by
        simp [evS, evE, evL, e1, TG.asg]
      -- what the second row does
      have s2 : (∃ h2, BoxOnly n h1 h2 ∧ evS ⟨runFn prg (k + 3 + deep), h.length, prg.sub, prg.xi⟩ spR2 [some (.ref n), some (.tup xs), some (.int (deep + 1 : Nat)), some (.int a1), none] h1 = .next [some (.ref n), some (.tup xs), some (.int (deep + 1 : Nat)), some (.int a1), none] h2) ∨
          (∃ w h2, BoxOnly n h1 h2 ∧ Gd 100 (d' + 1 + 1) w ∧ evS ⟨runFn prg (k + 3 + deep), h.length, prg.sub, prg.xi⟩ spR2 [some (.ref n), some (.tup xs), some (.int (deep + 1 : Nat)), some (.int a1), none] h1 = .ret none w h2) := by
        cases hx : xs with
        | nil =>
          subst hx
          refine .inl ⟨h1, bo_refl (bo_box hb b1), ?_⟩
          simp [evSs, evS, evE, evL, evB, nn]
        | cons x0 xr =>
          rw [← hx]
          have he : xs.isEmpty = false := by rw [hx]; rfl
          have hl : 0 < xs.length := by rw [hx]; simp
          have dp : (0 : Int) < (deep : Int) + 1 := by omega
          by_cases c3 : 0 < a3
          · have hat : 0 ≤ a1 % xs.length ∧ a1 % xs.length < xs.length := ⟨Int.emod_nonneg _ (by omega), Int.emod_lt_of_pos _ (by omega)⟩
            obtain ⟨y, hy, ey⟩ : ∃ y, y ∈ xs ∧ L2.atI xs (a1 % xs.length) = some y := by
              have hr : (a1 % xs.length).toNat < xs.length := by omega
              have := L2.atI_nat (List.getElem?_eq_getElem hr)
              rw [Int.toNat_of_nonneg hat.1] at this
              exact ⟨_, List.getElem_mem hr, this⟩
            obtain ⟨w, h2, ew, gw, b2⟩ := ih h3 n d' y deep rfl (bo_box (bo_box hb b1) b3) (gx y hy)
            have hc : ∀ lo hi, (cutL xs lo hi).length ≤ 20 := fun lo hi => Nat.le_trans (cutL_len xs lo hi) a
            have a5 : ∀ (m : Bool) (a b : Option Int) (t : T) (h : AH), binT m .add (.tup (cutL xs a b)) (.tup [t]) h = .ok (.tup (cutL xs a b ++ [t])) h := fun m a b t h => add_tup (by have := hc a b; omega) (by simp)
            have a6 : ∀ (m : Bool) (a b c e : Option Int) (t : T) (h : AH), binT m .add (.tup (cutL xs a b ++ [t])) (.tup (cutL xs c e)) h = .ok (.tup (cutL xs a b ++ [t] ++ cutL xs c e)) h := fun m a b c e t h => add_tup (by have := hc a b; rw [List.length_append, List.length_singleton]; omega) (by have := hc c e; omega)
            have z1 : (1 : Nat) ≤ sizeLine := thou_line (by omega)
            have hd1 : ((deep : Int) + 1 - 1) = deep := by omega
            refine .inr ⟨.tup (cutL xs none (some (a1 % xs.length)) ++ [w] ++ cutL xs (some (a1 % xs.length + 1)) none), h2, bo_trans b3 b2, ?_, ?_⟩
            · refine .tup _ _ ?_ fun x e => ?_
              · rw [List.length_append, List.length_append, List.length_singleton]; have := hc none (some (a1 % xs.length)); have := hc (some (a1 % xs.length + 1)) none; omega
              · rw [List.mem_append, List.mem_append, List.mem_singleton] at e
                rcases e with (e | rfl) | e
                · exact gd_mono (gx x (cutL_mem e)) (by omega) (by omega)
                · exact gw
                · exact gd_mono (gx x (cutL_mem e)) (by omega) (by omega)
            · have ix : idxT h3 (.tup xs) (.int (a1 % xs.length)) = some y := ey
              simp [-bin_tup, -List.append_assoc, evSs, evS, evE, evL, evB, evO, slc_tup, nn, he, dp, e3, c3, hl, TG.asg, ix, hd1, ew, z1, a5, a6]
          · refine .inl ⟨h3, b3, ?_⟩
            simp [evSs, evS, evE, evL, evB, nn, he, dp, e3, c3]
      rcases s2 with ⟨h2, b2, s2⟩ | ⟨w, h2, b2, gw, s2⟩
      · obtain ⟨a4, h4, e4, a40, a41, b4⟩ := p_take (k + 2 + deep) h2 n 8 (bo_box (bo_box hb b1) b2) (by omega) (by omega)
        rw [← ek2] at e4
        obtain ⟨w, ew, gw⟩ := sp_tail (k + 3 + deep) h.length d' h4 (.ref n) (.int (deep + 1 : Nat)) xs a1 a4 a gx a40 a41
        refine ⟨w, h4, ?_, gw, bo_trans b1 (bo_trans b2 b4)⟩
        have s3 : evS ⟨runFn prg (k + 3 + deep), h.length, prg.sub, prg.xi⟩ (.asg (.nm 4) (.call 10 (.cons (.var 0) (.cons (.cst (.int 8)) .nil)))) [some (.ref n), some (.tup xs), some (.int (deep + 1 : Nat)), some (.int a1), none] h2 = .next [some (.ref n), some (.tup xs), some (.int (deep + 1 : Nat)), some (.int a1), some (.int a4)] h4 := by
          simp [evS, evE, evL, e4, TG.asg]
        refine ss_ret ?_
        unfold evS
        rw [c, R.toS_ok]
        exact (ss_next s1).trans ((ss_next s2).trans ((ss_next s3).trans ew))
      · refine ⟨w, h2, ?_, gw, bo_trans b1 b2⟩
        refine ss_ret ?_
        unfold evS
        rw [c, R.toS_ok]
        exact (ss_next s1).trans (ss_ret s2)
end LW
end
section
set_option maxRecDepth 100000
set_option maxHeartbeats 1000000
namespace LW
open PySem PS
theorem fresh_t {xs : List T} {h : AH} (hz : xs.length ≤ sizeLine) : PS.fresh true xs h = .ok (.ref h.length) (h ++ [.lst xs]) := by
  unfold PS.fresh
  rw [if_pos hz, if_pos rfl]
theorem len_cell {h : AH} {n : Nat} {xs : List T} (hb : h[n]? = some (.lst xs)) : lenT h (.ref n) = some xs.length := by
  unfold lenT; rw [snap_cell hb]
theorem isl_cell {h : AH} {n : Nat} {xs : List T} (hb : h[n]? = some (.lst xs)) : isList h (.ref n) = some xs := by
  unfold isList; rw [snap_cell hb]
theorem iter_cell {h : AH} {n : Nat} {xs : List T} (hb : h[n]? = some (.lst xs)) : iterV h (.ref n) = some xs := by
  unfold iterV; rw [snap_cell hb]
theorem items_cell {h : AH} {n : Nat} {xs : List T} (hb : h[n]? = some (.lst xs)) : itemsOf h (.ref n) = some ⟨xs, some (n, .lst xs)⟩ := by
  show (match iterV h (.ref n) with
    | some xs => match h[n]? with
      | some c => some (⟨xs, some (n, c)⟩ : Items)
      | none => none
    | none => none) = _
  rw [iter_cell hb, hb]
theorem frz_cell {n0 : Nat} {h : AH} {n d : Nat} {xs : List T} (hn : n0 ≤ n) (hb : h[n]? = some (.lst xs)) (hp : T.plL xs = true) : frzV n0 h (d + 1) (.ref n) = some (.lst xs) := by
  show (if n < n0 then some (T.ref n) else match h[n]? with
    | some (.lst xs) => (xs.mapM (frzV n0 h d)).map .lst
    | some (.dct tk ks vs) => if T.undL n0 ks = true then (vs.mapM (frzV n0 h d)).map (.dct tk ks) else none
    | _ => none) = _
  rw [if_neg (by omega), hb]
  dsimp only
  have : xs.mapM (frzV n0 h d) = some xs := by
    have := mapM_all (frzV n0 h d) (fun x : T => x) (fun x : T => x) xs (fun x hx => frz_pl d x (plL_mem hp x hx))
    simpa using this
  rw [this]; rfl
theorem insAt_perm (xs : List T) (i : Nat) (t : T) : (insAt xs i t).Perm (xs ++ [t]) := by
  unfold insAt
  refine List.perm_middle.trans ?_
  rw [List.take_append_drop]
  exact (List.perm_append_singleton t xs).symm
abbrev shB : ISs := .cons (.ex (.bm false .insert (.var 2) (.cons (.call 10 (.cons (.var 0) (.cons (.bin false .add (.bf false .len (.cons (.var 2) .nil)) (.cst (.int 1))) .nil))) (.cons (.var 3) .nil)))) .nil
theorem sh_turn (k n0 n L rc : Nat) (h1 : AH) (found : List T) (x : T) (hL : L = h1.length) (hb : Box h1 n) (hl : found.length ≤ 1000) :
    ∃ h2 i, BoxOnly n h1 h2 ∧ evSs ⟨runFn prg (k + 1), n0, prg.sub, prg.xi⟩ shB [some (.ref n), some (.ref rc), some (.ref L), some x] (h1 ++ [.lst found]) = .next [some (.ref n), some (.ref rc), some (.ref L), some x] (h2 ++ [.lst (insAt found i x)]) := by
  subst hL
  have c0 : (h1 ++ [Cell.lst found])[h1.length]? = some (.lst found) := app_at h1 _
  obtain ⟨r, H, e, r0, r1, b⟩ := p_take k (h1 ++ [.lst found]) n (found.length + 1) (box_app hb) (by omega) (by omega)
  obtain ⟨h2, rfl, b2⟩ := bo_app (box_lt hb) b
  have e2 : h2.length = h1.length := bo_len b2
  refine ⟨h2, r.toNat, b2, ?_⟩
  have c1 : (h2 ++ [Cell.lst found])[h1.length]? = some (.lst found) := by rw [← e2]; exact app_at h2 _
  have ins := ins_cell (m := false) (t := x) (i := r) c1 (by rw [sizeLine_eq]; omega) r0 (by omega)
  rw [← e2, app_set, e2] at ins
  simp [evSs, evS, evE, evL, bmOk, isl_cell c0, len_cell c0, e, ins]
theorem p_shuffled (k : Nat) (h : AH) (n rc : Nat) (rs : List T) (hb : Box h n) (hr : h[rc]? = some (.lst rs)) (hne : rc ≠ n) (hl : rs.length ≤ 1000) (hp : T.plL rs = true) :
    ∃ ys h', runFn prg (k + 2) 16 [.ref n, .ref rc] h = .ok (.lst ys) h' ∧ ys.Perm rs ∧ BoxOnly n h h' := by
  have hrc : rc < h.length := (List.getElem?_eq_some_iff.mp hr).1
  rw [run_eq (fn := ⟨2, 4, true, ir__law_shuffled⟩) rfl rfl]
  have s1 : evS ⟨runFn prg (k + 1), h.length, prg.sub, prg.xi⟩ (.asg (.nm 2) (.lst true .nil)) [some (.ref n), some (.ref rc), none, none] h = .next [some (.ref n), some (.ref rc), some (.ref h.length), none] (h ++ [.lst []]) := by
    have fr : PS.fresh true [] h = .ok (.ref h.length) (h ++ [.lst []]) := fresh_t (Nat.zero_le _)
    simp [evS, evE, evL, fr, TG.asg]
  obtain ⟨e2, H2, el, q⟩ := forL_inv (g := TG.nm 3) (body := fun env h' => evSs ⟨runFn prg (k + 1), h.length, prg.sub, prg.xi⟩ shB env h') (chk := (⟨rs, some (rc, .lst rs)⟩ : Items).chk)
    (fun d e H => ∃ h1 found x3, e = [some (.ref n), some (.ref rc), some (.ref h.length), x3] ∧ H = h1 ++ [.lst found] ∧ BoxOnly n h h1 ∧ found.Perm d ∧ d.length ≤ 1000)
    (done := []) (rest := rs) (env := [some (.ref n), some (.ref rc), some (.ref h.length), none]) (h := h ++ [.lst []])
    ⟨h, [], none, rfl, rfl, bo_refl hb, .refl _, by simp⟩
    (fun d x r e H eq i => by
      obtain ⟨h1, found, x3, rfl, rfl, b1, pm, dl⟩ := i
      have hd : (d ++ [x]).length ≤ 1000 := by
        have : rs.length = (d ++ x :: r).length := by rw [← eq]; simp
        simp at this ⊢
        omega
      obtain ⟨h2, j, b2, es⟩ := sh_turn k h.length n h.length rc h1 found x (bo_len b1).symm (bo_box hb b1) (by rw [pm.length_eq]; exact dl)
      refine ⟨_, rfl, _, _, es, ?_, h2, _, _, rfl, rfl, bo_trans b1 b2, (insAt_perm found j x).trans (pm.append_right [x]), hd⟩
      show (h2 ++ [_])[rc]? = some (.lst rs)
      have l2 : h2.length = h.length := bo_len (bo_trans b1 b2)
      rw [List.getElem?_append_left (by omega), bo_ne (bo_trans b1 b2) hne, hr])
  obtain ⟨h1, found, x3, rfl, rfl, b1, pm, dl⟩ := q
  rw [List.nil_append] at pm
  have hpf : T.plL found = true := plL_of fun x hx => plL_mem hp x (pm.mem_iff.mp hx)
  refine ⟨found, h1, ?_, pm, b1⟩
  have es : evSs ⟨runFn prg (k + 1), h.length, prg.sub, prg.xi⟩ ir__law_shuffled ([T.ref n, .ref rc].map some ++ List.replicate (4 - 2) none) h = .ret (some h.length) (.lst found) (h1 ++ [.lst found]) := by
    refine (ss_next s1).trans ?_
    have s2 : evS ⟨runFn prg (k + 1), h.length, prg.sub, prg.xi⟩ (.forr (.nm 3) (.e (.var 1)) shB) [some (.ref n), some (.ref rc), some (.ref h.length), none] (h ++ [.lst []]) = .next [some (.ref n), some (.ref rc), some (.ref h.length), x3] (h1 ++ [.lst found]) := by
      have ei : evI ⟨runFn prg (k + 1), h.length, prg.sub, prg.xi⟩ (.e (.var 1)) [some (.ref n), some (.ref rc), some (.ref h.length), none] (h ++ [.lst []]) = .ok ⟨rs, some (rc, .lst rs)⟩ (h ++ [.lst []]) := by
        have hr2 : (h ++ [Cell.lst []])[rc]? = some (.lst rs) := by rw [List.getElem?_append_left hrc, hr]
        show (R.of (itemsOf (h ++ [Cell.lst []]) (T.ref rc)) (h ++ [Cell.lst []])) = _
        rw [items_cell hr2]; rfl
      unfold evS
      rw [ei, R.toS_ok]
      exact el
    refine (ss_next s2).trans (ss_ret ?_)
    show (match frzV h.length (h1 ++ [Cell.lst found]) 4 (T.ref h.length) with
      | some t' => RS.ret (some h.length) t' (h1 ++ [Cell.lst found])
      | none => .stuck) = _
    have c1 : (h1 ++ [Cell.lst found])[h.length]? = some (.lst found) := by rw [← bo_len b1]; exact app_at h1 _
    rw [frz_cell (Nat.le_refl _) c1 hpf]
  rw [es]
  refine end_box b1 (.inr rfl) ?_
  simp only [T.und]
  exact pl_undL _ _ hpf
end LW
end
section
set_option maxRecDepth 100000
set_option maxHeartbeats 1000000
namespace LW
open PySem PS
def Bx (A : Cell) : Prop := ∃ g s : Int, 0 ≤ g ∧ 0 ≤ s ∧ A = .lst [.int g, .int s]
theorem bx_box {A : Cell} {cs : AH} (h : Bx A) : Box (A :: cs) 0 := by
  obtain ⟨g, s, a, b, rfl⟩ := h
  exact ⟨g, s, a, b, rfl⟩
theorem bx_only {A : Cell} {cs H : AH} (b : BoxOnly 0 (A :: cs) H) : ∃ A', Bx A' ∧ H = A' :: cs := by
  obtain ⟨g, s, a, b, rfl⟩ := b
  exact ⟨_, ⟨g, s, a, b, rfl⟩, rfl⟩
theorem take0 (k : Nat) {A : Cell} (cs : AH) (many : Int) (h : Bx A) (h1 : 0 < many) (h2 : many < 1073741824) :
    ∃ r A', runFn prg (k + 1) 10 [.ref 0, .int many] (A :: cs) = .ok (.int r) (A' :: cs) ∧ 0 ≤ r ∧ r < many ∧ Bx A' := by
  obtain ⟨r, H, e, r0, r1, b⟩ := p_take k (A :: cs) 0 many (bx_box h) h1 h2
  obtain ⟨A', x, rfl⟩ := bx_only b
  exact ⟨r, A', e, r0, r1, x⟩
theorem pick0 (k : Nat) {A : Cell} (cs : AH) (xs : List T) (h : Bx A) (h1 : xs ≠ []) (h2 : xs.length ≤ 1000) (hx : T.plL xs = true) :
    ∃ x A', runFn prg (k + 2) 11 [.ref 0, .lst xs] (A :: cs) = .ok x (A' :: cs) ∧ x ∈ xs ∧ Bx A' := by
  obtain ⟨x, H, e, m, b⟩ := pick_mem (k := k) (bx_box (cs := cs) h) h1 h2 hx
  obtain ⟨A', y, rfl⟩ := bx_only b
  exact ⟨x, A', e, m, y⟩
theorem add_cell {m : Bool} {h : AH} {n : Nat} {xs ys : List T} (hb : h[n]? = some (.lst xs)) : binT m .add (.ref n) (.lst ys) h = PS.fresh m (xs ++ ys) h := by
  show (match isList h (.ref n), isList h (.lst ys) with
    | some xs, some ys => PS.fresh m (xs ++ ys) h
    | _, _ => .stuck) = _
  rw [isl_cell hb]; rfl
theorem isR_a {a : Int} {w : Str} {x : T} {K : Int} (hw : isA w = true) (a0 : 0 ≤ a) (a1 : a < K) (hx : isW x = true) : isR (.tup [.int a, .str w, x]) K = true := by
  have hl : zs_PARTS.lookup w = some (.int 0) := by
    rcases parts_cls w with q | q | q | q
    · exact q.2
    · rw [hw] at q; simp at q
    · rw [hw] at q; simp at q
    · rw [hw] at q; simp at q
  have a2 : a ≤ K - 1 := by omega
  simp [isR, hl, inI, a0, a2, hx]
theorem isR_u {a c : Int} {w : Str} {K : Int} (hw : isA w = false) (hu : isU w = true) (a0 : 0 ≤ a) (a1 : a < K) (c0 : 0 ≤ c) (c1 : c < K) : isR (.tup [.int a, .str w, .int c]) K = true := by
  have hl : zs_PARTS.lookup w = some (.int 1) := by
    rcases parts_cls w with q | q | q | q
    · rw [hw] at q; simp at q
    · exact q.2.2
    · rw [hu] at q; simp at q
    · rw [hu] at q; simp at q
  have a2 : a ≤ K - 1 := by omega
  have c2 : c ≤ K - 1 := by omega
  simp [isR, hl, inI, a0, a2, c0, c2]
theorem t2_u {w : Str} (h : isT2 w = true) : isU w = false := by
  simp [isT2] at h
  rcases h with (rfl | rfl) | rfl <;> rfl
theorem isR_t {a c d : Int} {w : Str} {K : Int} (hw : isA w = false) (ht : isT2 w = true) (a0 : 0 ≤ a) (a1 : a < K) (c0 : 0 ≤ c) (c1 : c < K) (d0 : 0 ≤ d) (d1 : d < K) : isR (.tup [.int a, .str w, .int c, .int d]) K = true := by
  have hl : zs_PARTS.lookup w = some (.int 2) := by
    rcases parts_cls w with q | q | q | q
    · rw [hw] at q; simp at q
    · rw [t2_u ht] at q; simp at q
    · exact q.2.2.2
    · rw [ht] at q; simp at q
  have a2 : a ≤ K - 1 := by omega
  have c2 : c ≤ K - 1 := by omega
  have d2 : d ≤ K - 1 := by omega
  simp [isR, hl, inI, a0, a2, c0, c2, d0, d2]
def isNonT : T → Bool
  | .non => true
  | _ => false
structure WS (ws : List T) : Prop where
  ne : ws ≠ []
  len : ws.length ≤ 10
  ok : ∀ w ∈ ws, isW w = true ∧ Gd 20 0 w
theorem WS.pl {ws : List T} (h : WS ws) : T.plL ws = true := gd_plL (by omega) fun w hw => (h.ok w hw).2
structure GI (K m : Nat) (rs : List T) : Prop where
  len : rs.length ≤ m
  ok : ∀ t ∈ rs, isR t K = true ∧ Gd 20 1 t
  nb : ∀ j, j < K → ¬ KG.Rch (rs.filterMap unS) (j : Int) j
theorem gd_rule {a : Int} {w : Str} {r : List T} {K : Nat} (hK : K ≤ 8) (a0 : 0 ≤ a) (a1 : a < K) (hw : w.length ≤ 20) (hr : r.length ≤ 2) (h : ∀ x ∈ r, Gd 20 0 x) : Gd 20 1 (.tup (.int a :: .str w :: r)) := by
  refine .tup _ _ (by simp; omega) fun x hx => ?_
  simp at hx
  rcases hx with rfl | rfl | hx
  · exact .int _ _ (by omega) (by omega)
  · exact .str _ _ hw
  · exact h x hx
abbrev gW : List T := [.str "left", .str "right", .str "wrap", .str "wrap", .str "ahead", .str "behind", .str "left", .str "right", .str "same", .str "first", .str "last"]
theorem gW_cls {x : T} (h : x ∈ gW) : ∃ w : Str, x = .str w ∧ w.length ≤ 20 ∧ (isA w = true ∨ (isA w = false ∧ isT2 w = true) ∨ (isA w = false ∧ isT2 w = false ∧ isU w = true)) := by
  simp at h
  rcases h with rfl | rfl | rfl | rfl | rfl | rfl | rfl | rfl | rfl | rfl | rfl <;> exact ⟨_, rfl, by decide, by decide⟩
abbrev gB1 : IS := .asg (.nm 7) (.call 10 (.cons (.var 2) (.cons (.var 3) .nil)))
abbrev gB2 : IS := .asg (.nm 8) (.call 11 (.cons (.var 2) (.cons (.lst false (.cons (.cst (.str "left")) (.cons (.cst (.str "right")) (.cons (.cst (.str "wrap")) (.cons (.cst (.str "wrap")) (.cons (.cst (.str "ahead")) (.cons (.cst (.str "behind")) (.cons (.cst (.str "left")) (.cons (.cst (.str "right")) (.cons (.cst (.str "same")) (.cons (.cst (.str "first")) (.cons (.cst (.str "last")) .nil)))))))))))) .nil)))
abbrev gB3 : IS := .asg (.nm 9) (.tup (.cons (.var 7) (.cons (.var 8) (.cons (.call 10 (.cons (.var 2) (.cons (.var 3) .nil))) .nil))))
abbrev gB4 : IS := .ife (.cmp .isin (.var 8) (.lst false (.cons (.cst (.str "left")) (.cons (.cst (.str "right")) .nil)))) (.cons (.asg (.nm 9) (.tup (.cons (.var 7) (.cons (.var 8) (.cons (.call 11 (.cons (.var 2) (.cons (.var 4) .nil))) .nil)))))
  .nil) (.cons (.ife (.cmp .isin (.var 8) (.lst false (.cons (.cst (.str "wrap")) (.cons (.cst (.str "ahead")) (.cons (.cst (.str "behind")) .nil))))) (.cons (.asg (.nm 9) (.bin false .add (.var 9) (.tup (.cons (.call 10 (.cons (.var 2) (.cons (.var 3) .nil))) .nil))))
  .nil) .nil)
  .nil)
abbrev gB5 : IS := .ife (.cmp .is (.call 17 (.cons (.call 18 (.cons (.bin false .add (.var 5) (.lst false (.cons (.var 9) .nil))) .nil)) (.cons (.var 3) .nil))) (.cst .non)) (.cons (.ex (.bm false .append (.var 5) (.cons (.var 9) .nil)))
  .nil) .nil
abbrev gE (sc : T) (K : Nat) (ws : List T) (x6 x7 x8 x9 : Option T) : PS.Env := [some sc, some (.int 9), some (.ref 0), some (.int K), some (.lst ws), some (.ref 1), x6, x7, x8, x9]
theorem gr_rule (k n0 K : Nat) {A : Cell} (C : Cell) (sc : T) {ws : List T} (x6 x7 x8 x9 : Option T) (hA : Bx A) (k1 : 1 ≤ K) (k2 : K ≤ 8) (hw : WS ws) (rest : ISs) :
    ∃ A' y7 y8 t, Bx A' ∧ isR t K = true ∧ Gd 20 1 t ∧ evSs ⟨runFn prg (k + 2), n0, prg.sub, prg.xi⟩ (.cons gB1 (.cons gB2 (.cons gB3 (.cons gB4 rest)))) (gE sc K ws x6 x7 x8 x9) [A, C] = evSs ⟨runFn prg (k + 2), n0, prg.sub, prg.xi⟩ rest (gE sc K ws x6 y7 y8 (some t)) [A', C] := by
  obtain ⟨a, A1, e1, a0, a1, b1⟩ := take0 (k + 1) [C] K hA (by omega) (by omega)
  obtain ⟨x, A2, e2, hx, b2⟩ := pick0 k [C] gW b1 (by simp) (by simp) rfl
  obtain ⟨c, A3, e3, c0, c1, b3⟩ := take0 (k + 1) [C] K b2 (by omega) (by omega)
  obtain ⟨w, rfl, wl, cls⟩ := gW_cls hx
  have z1 : (1 : Nat) ≤ sizeLine := thou_line (by omega)
  have z3 : (3 : Nat) ≤ sizeLine := thou_line (by omega)
  have z4 : (4 : Nat) ≤ sizeLine := thou_line (by omega)
  have s1 : evS ⟨runFn prg (k + 2), n0, prg.sub, prg.xi⟩ gB1 (gE sc K ws x6 x7 x8 x9) [A, C] = .next (gE sc K ws x6 (some (.int a)) x8 x9) [A1, C] := by
    simp [evS, evE, evL, e1, TG.asg]
  have fr : PS.fresh false gW [A1, C] = .ok (.lst gW) [A1, C] := fresh_f (thou_line (by simp))
  have s2 : evS ⟨runFn prg (k + 2), n0, prg.sub, prg.xi⟩ gB2 (gE sc K ws x6 (some (.int a)) x8 x9) [A1, C] = .next (gE sc K ws x6 (some (.int a)) (some (.str w)) x9) [A2, C] := by
    simp [evS, evE, evL, fr, e2, TG.asg]
  have s3 : evS ⟨runFn prg (k + 2), n0, prg.sub, prg.xi⟩ gB3 (gE sc K ws x6 (some (.int a)) (some (.str w)) x9) [A2, C] = .next (gE sc K ws x6 (some (.int a)) (some (.str w)) (some (.tup [.int a, .str w, .int c]))) [A3, C] := by
    simp [evS, evE, evL, e3, z3, TG.asg]
  have f2 : ∀ (x y : T) (h : AH), PS.fresh false [x, y] h = .ok (.lst [x, y]) h := fun x y h => fresh_f (thou_line (by simp))
  have f3 : ∀ (x y z : T) (h : AH), PS.fresh false [x, y, z] h = .ok (.lst [x, y, z]) h := fun x y z h => fresh_f (thou_line (by simp))
  rcases cls with hc | ⟨hc, h2⟩ | ⟨hc, h2, h3⟩
  · obtain ⟨v, A4, e4, hv, b4⟩ := pick0 k [C] ws b3 hw.ne (by have := hw.len; omega) hw.pl
    refine ⟨A4, some (.int a), some (.str w), .tup [.int a, .str w, v], b4, isR_a hc a0 a1 (hw.ok v hv).1, gd_rule k2 a0 a1 wl (by simp) (fun y hy => by simp at hy; subst hy; exact (hw.ok y hv).2), ?_⟩
    have s4 : evS ⟨runFn prg (k + 2), n0, prg.sub, prg.xi⟩ gB4 (gE sc K ws x6 (some (.int a)) (some (.str w)) (some (.tup [.int a, .str w, .int c]))) [A3, C] = .next (gE sc K ws x6 (some (.int a)) (some (.str w)) (some (.tup [.int a, .str w, v]))) [A4, C] := by
      simp [evSs, evS, evE, evL, evB, f2, isin_a, hc, e4, z3, TG.asg]
    exact (ss_next s1).trans ((ss_next s2).trans ((ss_next s3).trans (ss_next s4)))
  · obtain ⟨d, A4, e4, d0, d1, b4⟩ := take0 (k + 1) [C] K b3 (by omega) (by omega)
    refine ⟨A4, some (.int a), some (.str w), .tup [.int a, .str w, .int c, .int d], b4, isR_t hc h2 a0 a1 c0 c1 d0 d1, gd_rule k2 a0 a1 wl (by simp) (fun y hy => by simp at hy; rcases hy with rfl | rfl <;> exact .int _ _ (by omega) (by omega)), ?_⟩
    have s4 : evS ⟨runFn prg (k + 2), n0, prg.sub, prg.xi⟩ gB4 (gE sc K ws x6 (some (.int a)) (some (.str w)) (some (.tup [.int a, .str w, .int c]))) [A3, C] = .next (gE sc K ws x6 (some (.int a)) (some (.str w)) (some (.tup [.int a, .str w, .int c, .int d]))) [A4, C] := by
      simp [evSs, evS, evE, evL, evB, f2, f3, isin_a, isin_t, hc, h2, e4, z1, z4, TG.asg]
    exact (ss_next s1).trans ((ss_next s2).trans ((ss_next s3).trans (ss_next s4)))
  · refine ⟨A3, some (.int a), some (.str w), .tup [.int a, .str w, .int c], b3, isR_u hc h3 a0 a1 c0 c1, gd_rule k2 a0 a1 wl (by simp) (fun y hy => by simp at hy; subst hy; exact .int _ _ (by omega) (by omega)), ?_⟩
    have s4 : evS ⟨runFn prg (k + 2), n0, prg.sub, prg.xi⟩ gB4 (gE sc K ws x6 (some (.int a)) (some (.str w)) (some (.tup [.int a, .str w, .int c]))) [A3, C] = .next (gE sc K ws x6 (some (.int a)) (some (.str w)) (some (.tup [.int a, .str w, .int c]))) [A3, C] := by
      simp [evSs, evS, evE, evL, evB, f2, f3, isin_a, isin_t, hc, h2]
    exact (ss_next s1).trans ((ss_next s2).trans ((ss_next s3).trans (ss_next s4)))
theorem gr_put (k n0 K m : Nat) {A : Cell} (sc t : T) {ws rs : List T} (x6 x7 x8 : Option T) (k1 : 1 ≤ K) (k2 : K ≤ 8) (hm : m ≤ 100) (g : GI K m rs) (ht : isR t K = true) (hg : Gd 20 1 t) :
    ∃ rs', GI K (m + 1) rs' ∧ evS ⟨runFn prg (k + 2), n0, prg.sub, prg.xi⟩ gB5 (gE sc K ws x6 x7 x8 (some t)) [A, .lst rs] = .next (gE sc K ws x6 x7 x8 (some t)) [A, .lst rs'] := by
  have ok2 : ∀ y ∈ rs ++ [t], isR y K = true ∧ Gd 20 1 y := by
    intro y hy
    rw [List.mem_append, List.mem_singleton] at hy
    rcases hy with hy | rfl
    · exact g.ok y hy
    · exact ⟨ht, hg⟩
  have hl := g.len
  have hl2 : (rs ++ [t]).length ≤ m + 1 := by rw [List.length_append, List.length_singleton]; omega
  have hE : ((rs ++ [t]).filterMap unS).length ≤ 1000 := by
    have := List.length_filterMap_le unS (rs ++ [t])
    omega
  have ad : binT false .add (.ref 1) (.lst [t]) [A, .lst rs] = .ok (.lst (rs ++ [t])) [A, .lst rs] := by
    rw [add_cell (h := [A, .lst rs]) (xs := rs) rfl, fresh_f (thou_line (by omega))]
  have f1 : PS.fresh false [t] [A, .lst rs] = .ok (.lst [t]) [A, .lst rs] := fresh_f (thou_line (by simp))
  have eu := p_unary (k + 1) [A, .lst rs] K (rs ++ [t]) (.lst (rs ++ [t])) (.inr rfl) (by omega) (fun y hy => (ok2 y hy).1)
  obtain ⟨v, ev, bv⟩ := p_back_kind (k + 1) K [A, .lst rs] ((rs ++ [t]).filterMap unS) (by omega) hE (unS_range _ fun y hy => (ok2 y hy).1)
  have e5 : evE ⟨runFn prg (k + 2), n0, prg.sub, prg.xi⟩ (.bin false .add (.var 5) (.lst false (.cons (.var 9) .nil))) (gE sc K ws x6 x7 x8 (some t)) [A, .lst rs] = .ok (.lst (rs ++ [t])) [A, .lst rs] := by
    simp [evE, evL, f1, ad]
  have e6 : evE ⟨runFn prg (k + 2), n0, prg.sub, prg.xi⟩ (.call 18 (.cons (.bin false .add (.var 5) (.lst false (.cons (.var 9) .nil))) .nil)) (gE sc K ws x6 x7 x8 (some t)) [A, .lst rs] = .ok (.lst (((rs ++ [t]).filterMap unS).map pairT)) [A, .lst rs] := by
    rw [evE, evL, e5, R.bind_ok, evL, R.bind_ok, R.bind_ok]
    dsimp only
    exact eu
  have e7 : evE ⟨runFn prg (k + 2), n0, prg.sub, prg.xi⟩ (.call 17 (.cons (.call 18 (.cons (.bin false .add (.var 5) (.lst false (.cons (.var 9) .nil))) .nil)) (.cons (.var 3) .nil))) (gE sc K ws x6 x7 x8 (some t)) [A, .lst rs] = .ok v [A, .lst rs] := by
    rw [evE, evL, e6, R.bind_ok, show evL ⟨runFn prg (k + 2), n0, prg.sub, prg.xi⟩ (.cons (.var 3) .nil) (gE sc K ws x6 x7 x8 (some t)) [A, .lst rs] = .ok [.int K] [A, .lst rs] from rfl, R.bind_ok, R.bind_ok]
    dsimp only
    exact ev
  have e8 : evB ⟨runFn prg (k + 2), n0, prg.sub, prg.xi⟩ (.cmp .is (.call 17 (.cons (.call 18 (.cons (.bin false .add (.var 5) (.lst false (.cons (.var 9) .nil))) .nil)) (.cons (.var 3) .nil))) (.cst .non)) (gE sc K ws x6 x7 x8 (some t)) [A, .lst rs] = .ok (isNonT v) [A, .lst rs] := by
    show R.isB (evE ⟨runFn prg (k + 2), n0, prg.sub, prg.xi⟩ (.cmp .is (.call 17 (.cons (.call 18 (.cons (.bin false .add (.var 5) (.lst false (.cons (.var 9) .nil))) .nil)) (.cons (.var 3) .nil))) (.cst .non)) (gE sc K ws x6 x7 x8 (some t)) [A, .lst rs]) = _
    rw [evE, e7, R.bind_ok, evE, R.bind_ok]
    cases v <;> rfl
  rcases back_or bv with rfl | ⟨q, rfl, _⟩
  · refine ⟨rs ++ [t], ⟨hl2, ok2, bv⟩, ?_⟩
    unfold evS
    rw [e8, R.toS_ok, show isNonT .non = true from rfl]
    dsimp only
    have ap := app_cell (m := false) (h := [A, .lst rs]) (n := 1) (xs := rs) (t := t) rfl (by rw [sizeLine_eq]; omega)
    have il : isList [A, .lst rs] (.ref 1) = some rs := isl_cell rfl
    simp [evSs, evS, evE, evL, bmOk, il, ap]
  · refine ⟨rs, ⟨by omega, g.ok, g.nb⟩, ?_⟩
    unfold evS
    rw [e8, R.toS_ok]
    rfl
end LW
end
section
set_option maxRecDepth 100000
set_option maxHeartbeats 1000000
namespace LW
open PySem PS
abbrev gB : ISs := .cons gB1 (.cons gB2 (.cons gB3 (.cons gB4 (.cons gB5 .nil))))
theorem gr_turn (k n0 K m : Nat) {A : Cell} (sc : T) {ws rs : List T} (x6 x7 x8 x9 : Option T) (hA : Bx A) (k1 : 1 ≤ K) (k2 : K ≤ 8) (hw : WS ws) (hm : m ≤ 100) (g : GI K m rs) :
    ∃ A' rs' y7 y8 y9, Bx A' ∧ GI K (m + 1) rs' ∧ evSs ⟨runFn prg (k + 2), n0, prg.sub, prg.xi⟩ gB (gE sc K ws x6 x7 x8 x9) [A, .lst rs] = .next (gE sc K ws x6 y7 y8 y9) [A', .lst rs'] := by
  obtain ⟨A', y7, y8, t, b, ht, hg, e⟩ := gr_rule k n0 K (.lst rs) sc x6 x7 x8 x9 hA k1 k2 hw (.cons gB5 .nil)
  obtain ⟨rs', g', e2⟩ := gr_put k n0 K m (A := A') sc t (ws := ws) x6 y7 y8 k1 k2 hm g ht hg
  exact ⟨A', rs', y7, y8, some t, b, g', e.trans ((ss_next e2).trans rfl)⟩
theorem rch_nil {a b : Int} (r : KG.Rch [] a b) : False := by
  induction r with
  | one h => simp at h
  | more _ h _ => simp at h
theorem rch_mono {E F : List (Int × Int)} (h : ∀ p ∈ E, p ∈ F) {a b : Int} (r : KG.Rch E a b) : KG.Rch F a b := by
  induction r with
  | one e => exact .one (h _ e)
  | more _ e ih => exact .more ih (h _ e)
theorem range_len (i : Int) (m : Nat) : (rangeT i m).length = m := by simp [rangeT]
theorem mem_range {x : T} {m : Nat} (h : x ∈ rangeT 0 m) : ∃ i : Nat, x = .int i ∧ i < m := by
  simp [rangeT] at h
  obtain ⟨i, hi, rfl⟩ := h
  exact ⟨i, rfl, hi⟩
theorem gr_loop (k n0 K M : Nat) {A : Cell} (sc : T) {ws : List T} (x6 x7 x8 x9 : Option T) (hA : Bx A) (k1 : 1 ≤ K) (k2 : K ≤ 8) (hw : WS ws) (hM : M ≤ 9) :
    ∃ A' rs y6 y7 y8 y9, Bx A' ∧ GI K 9 rs ∧ forL (.nm 6) (fun env h => evSs ⟨runFn prg (k + 2), n0, prg.sub, prg.xi⟩ gB env h) (⟨rangeT 0 M, none⟩ : Items).chk (rangeT 0 M) (gE sc K ws x6 x7 x8 x9) [A, .lst []] = .next (gE sc K ws y6 y7 y8 y9) [A', .lst rs] := by
  obtain ⟨e2, H2, el, q⟩ := forL_inv (g := TG.nm 6) (body := fun env h => evSs ⟨runFn prg (k + 2), n0, prg.sub, prg.xi⟩ gB env h) (chk := (⟨rangeT 0 M, none⟩ : Items).chk)
    (fun d e H => ∃ A rs y6 y7 y8 y9, e = gE sc K ws y6 y7 y8 y9 ∧ H = [A, .lst rs] ∧ Bx A ∧ GI K d.length rs ∧ d.length ≤ 9)
    (done := []) (rest := rangeT 0 M) (env := gE sc K ws x6 x7 x8 x9) (h := [A, .lst []])
    ⟨A, [], x6, x7, x8, x9, rfl, rfl, hA, ⟨by simp, by simp, fun j _ r => rch_nil r⟩, by simp⟩
    (fun d x r e H eq i => by
      obtain ⟨A, rs, y6, y7, y8, y9, rfl, rfl, b, g, dl⟩ := i
      have hd : (d ++ [x]).length ≤ 9 := by
        have : M = (d ++ x :: r).length := by rw [← eq]; simp [range_len]
        simp at this ⊢
        omega
      obtain ⟨A', rs', z7, z8, z9, b', g', es⟩ := gr_turn k n0 K d.length sc (some x) y7 y8 y9 b k1 k2 hw (by omega) g
      refine ⟨gE sc K ws (some x) y7 y8 y9, rfl, _, _, es, trivial, A', rs', _, _, _, _, rfl, rfl, b', ?_, hd⟩
      rw [List.length_append, List.length_singleton]
      exact g')
  obtain ⟨A', rs, y6, y7, y8, y9, rfl, rfl, b, g, dl⟩ := q
  rw [List.nil_append] at g dl
  exact ⟨A', rs, y6, y7, y8, y9, b, ⟨Nat.le_trans g.len dl, g.ok, g.nb⟩, el⟩
def hasA (i : Int) : T → Bool
  | .tup (.int a :: .str w :: _) => decide (a = i) && isA w
  | _ => false
abbrev gC : IE := .comp false [9] (.nm 9) (.e (.var 5)) (.some (.and (.cmp .eq (.idx (.var 9) (.cst (.int 0))) (.var 7)) (.cmp .isin (.idx (.var 9) (.cst (.int 1))) (.lst false (.cons (.cst (.str "left")) (.cons (.cst (.str "right")) .nil)))))) (.var 9)
theorem gr_comp (k n0 K m : Nat) {A : Cell} (sc : T) {ws rs : List T} (x6 x8 x9 : Option T) (i : Int) (g : GI K m rs) (hm : m ≤ 100) :
    evE ⟨runFn prg (k + 2), n0, prg.sub, prg.xi⟩ gC (gE sc K ws x6 (some (.int i)) x8 x9) [A, .lst rs] = .ok (.lst (rs.filter (hasA i))) [A, .lst rs] := by
  have cl := compL_pure (g := TG.nm 9) (cond := fun env h => (evE ⟨runFn prg (k + 2), n0, prg.sub, prg.xi⟩ (.and (.cmp .eq (.idx (.var 9) (.cst (.int 0))) (.var 7)) (.cmp .isin (.idx (.var 9) (.cst (.int 1))) (.lst false (.cons (.cst (.str "left")) (.cons (.cst (.str "right")) .nil))))) env h).isB.nox) (elt := fun env h => (evE ⟨runFn prg (k + 2), n0, prg.sub, prg.xi⟩ (.var 9) env h).nox) (chk := (⟨rs, some (1, .lst rs)⟩ : Items).chk) (c := hasA i) (f := fun r => r) (env := wipeE (gE sc K ws x6 (some (.int i)) x8 x9) [9]) (h := [A, .lst rs]) rfl (xs := rs) (fun t hm => by
    obtain ⟨a, w, c, r, n, rfl, a0, a1, hl, q⟩ := isR_shape (g.ok t hm).1
    have i0 : idxT [A, .lst rs] (.tup (.int a :: .str w :: c :: r)) (.int 0) = some (.int a) := L2.atI_nat (j := 0) rfl
    have i1 : idxT [A, .lst rs] (.tup (.int a :: .str w :: c :: r)) (.int 1) = some (.str w) := L2.atI_nat (j := 1) rfl
    have f2 : ∀ (x y : T) (h : AH), PS.fresh false [x, y] h = .ok (.lst [x, y]) h := fun x y h => fresh_f (thou_line (by simp))
    refine ⟨gE sc K ws x6 (some (.int i)) x8 (some (.tup (.int a :: .str w :: c :: r))), rfl, ?_, fun _ => rfl⟩
    by_cases h1 : a = i
    · rw [h1] at i0 i1
      simp [evE, evL, i0, i1, f2, isin_a, hasA, h1]
    · simp [evE, evL, i0, i1, f2, isin_a, hasA, h1])
  rw [List.map_id'] at cl
  have hz : (rs.filter (hasA i)).length ≤ sizeLine := thou_line (Nat.le_trans (List.length_filter_le _ _) (by have := g.len; omega))
  have ei : evI ⟨runFn prg (k + 2), n0, prg.sub, prg.xi⟩ (.e (.var 5)) (gE sc K ws x6 (some (.int i)) x8 x9) [A, .lst rs] = .ok ⟨rs, some (1, .lst rs)⟩ [A, .lst rs] := by
    show (R.of (itemsOf [A, Cell.lst rs] (T.ref 1)) [A, Cell.lst rs]) = _
    rw [items_cell (h := [A, Cell.lst rs]) (xs := rs) rfl]; rfl
  rw [evE, ei, R.bind_ok]
  refine (congrArg (fun r : R (List T) => r.nox.bind fun ts h2 => PS.fresh false ts h2) cl).trans ?_
  rw [R.nox_ok, R.bind_ok, fresh_f hz]
theorem isW_str {v : T} (h : isW v = true) : ∃ x, v = .str x := by
  cases v <;> simp [isW] at h
  exact ⟨_, rfl⟩
abbrev g2B : ISs := .cons (.ife (.and (.cmp .lt (.bf false .len (.cons (.var 5) .nil)) (.var 1)) (.cmp .eq gC (.lst false .nil))) (.cons (.ex (.bm false .append (.var 5) (.cons (.tup (.cons (.var 7) (.cons (.call 11 (.cons (.var 2) (.cons (.lst false (.cons (.cst (.str "left")) (.cons (.cst (.str "right")) .nil))) .nil))) (.cons (.call 11 (.cons (.var 2) (.cons (.var 4) .nil))) .nil)))) .nil)))
  .nil) .nil) .nil
theorem gr_turn2 (k n0 K : Nat) {A : Cell} (sc : T) {ws rs : List T} (x6 x8 x9 : Option T) (i : Nat) (hA : Bx A) (k2 : K ≤ 8) (hi : i < K) (hw : WS ws) (g : GI K 9 rs) :
    ∃ A' rs', Bx A' ∧ GI K 9 rs' ∧ evSs ⟨runFn prg (k + 2), n0, prg.sub, prg.xi⟩ g2B (gE sc K ws x6 (some (.int i)) x8 x9) [A, .lst rs] = .next (gE sc K ws x6 (some (.int i)) x8 x9) [A', .lst rs'] := by
  have z0 : (0 : Nat) ≤ sizeLine := Nat.zero_le _
  have z3 : (3 : Nat) ≤ sizeLine := thou_line (by omega)
  have cm := gr_comp k n0 K 9 (A := A) sc (ws := ws) x6 x8 x9 i g (by omega)
  have hp : T.plL rs = true := gd_plL (by omega) fun t ht => (g.ok t ht).2
  have en := eq_nil (h := [A, .lst rs]) (rs.filter (hasA i)) (plL_filter _ _ hp)
  have lc := len_cell (h := [A, .lst rs]) (n := 1) (xs := rs) rfl
  have il : ∀ A', isList [A', .lst rs] (.ref 1) = some rs := fun A' => isl_cell rfl
  have cB : evB ⟨runFn prg (k + 2), n0, prg.sub, prg.xi⟩ (.cmp .eq gC (.lst false .nil)) (gE sc K ws x6 (some (.int i)) x8 x9) [A, .lst rs] = .ok (rs.filter (hasA i)).isEmpty [A, .lst rs] := by
    show R.isB (evE ⟨runFn prg (k + 2), n0, prg.sub, prg.xi⟩ (.cmp .eq gC (.lst false .nil)) (gE sc K ws x6 (some (.int i)) x8 x9) [A, .lst rs]) = _
    rw [evE, cm, R.bind_ok, show evE ⟨runFn prg (k + 2), n0, prg.sub, prg.xi⟩ (.lst false .nil) (gE sc K ws x6 (some (.int i)) x8 x9) [A, .lst rs] = .ok (.lst []) [A, .lst rs] from fresh_f (xs := []) z0, R.bind_ok, en]
    rfl
  by_cases c1 : rs.length < 9
  · have c1' : (rs.length : Int) < 9 := by omega
    have cA : evB ⟨runFn prg (k + 2), n0, prg.sub, prg.xi⟩ (.cmp .lt (.bf false .len (.cons (.var 5) .nil)) (.var 1)) (gE sc K ws x6 (some (.int i)) x8 x9) [A, .lst rs] = .ok true [A, .lst rs] := by
      simp [evE, evL, evB, lc, c1, c1']
    cases hc : (rs.filter (hasA i)).isEmpty with
    | false =>
      rw [hc] at cB
      refine ⟨A, rs, hA, g, (ss_next ?_).trans rfl⟩
      unfold evS
      rw [evB, cA, R.bind_ok]
      dsimp only
      rw [cB, R.toS_ok]
      rfl
    | true =>
      rw [hc] at cB
      obtain ⟨x, A1, e1, hx, b1⟩ := pick0 k [.lst rs] [.str "left", .str "right"] hA (by simp) (by simp) rfl
      obtain ⟨v, A2, e2, hv, b2⟩ := pick0 k [.lst rs] ws b1 hw.ne (by have := hw.len; omega) hw.pl
      obtain ⟨w, rfl, ha, wl⟩ : ∃ w : Str, x = .str w ∧ isA w = true ∧ w.length ≤ 20 := by
        simp at hx
        rcases hx with rfl | rfl <;> exact ⟨_, rfl, by decide, by decide⟩
      obtain ⟨y, rfl⟩ := isW_str (hw.ok v hv).1
      have f2 : ∀ (x y : T) (h : AH), PS.fresh false [x, y] h = .ok (.lst [x, y]) h := fun x y h => fresh_f (thou_line (by simp))
      have ap := app_cell (m := false) (h := [A2, .lst rs]) (n := 1) (xs := rs) (t := .tup [.int i, .str w, .str y]) rfl (by rw [sizeLine_eq]; omega)
      refine ⟨A2, rs ++ [.tup [.int i, .str w, .str y]], b2, ⟨by simp; omega, ?_, ?_⟩, (ss_next ?_).trans rfl⟩
      · intro t ht
        rw [List.mem_append, List.mem_singleton] at ht
        rcases ht with ht | rfl
        · exact g.ok t ht
        · exact ⟨isR_a ha (by omega) (by omega) (hw.ok _ hv).1, gd_rule k2 (by omega) (by omega) wl (by simp) (fun z hz => by simp at hz; subst hz; exact (hw.ok _ hv).2)⟩
      · have : (rs ++ [T.tup [.int i, .str w, .str y]]).filterMap unS = rs.filterMap unS := by
          rw [List.filterMap_append]
          simp [unS]
        rw [this]
        exact g.nb
      · unfold evS
        rw [evB, cA, R.bind_ok]
        dsimp only
        rw [cB, R.toS_ok]
        dsimp only
        simp [evSs, evS, evE, evL, bmOk, il, f2, e1, e2, z3, ap]
  · have c1' : ¬ (rs.length : Int) < 9 := by omega
    have cA : evB ⟨runFn prg (k + 2), n0, prg.sub, prg.xi⟩ (.cmp .lt (.bf false .len (.cons (.var 5) .nil)) (.var 1)) (gE sc K ws x6 (some (.int i)) x8 x9) [A, .lst rs] = .ok false [A, .lst rs] := by
      simp [evE, evL, evB, lc, c1, c1']
    refine ⟨A, rs, hA, g, (ss_next ?_).trans rfl⟩
    unfold evS
    rw [evB, cA, R.bind_ok]
    rfl
theorem gr_loop2 (k n0 K : Nat) {A : Cell} (sc : T) {ws rs : List T} (x6 x7 x8 x9 : Option T) (hA : Bx A) (k2 : K ≤ 8) (hw : WS ws) (g : GI K 9 rs) :
    ∃ A' rs' y7, Bx A' ∧ GI K 9 rs' ∧ forL (.nm 7) (fun env h => evSs ⟨runFn prg (k + 2), n0, prg.sub, prg.xi⟩ g2B env h) (⟨rangeT 0 K, none⟩ : Items).chk (rangeT 0 K) (gE sc K ws x6 x7 x8 x9) [A, .lst rs] = .next (gE sc K ws x6 y7 x8 x9) [A', .lst rs'] := by
  obtain ⟨e2, H2, el, q⟩ := forL_inv (g := TG.nm 7) (body := fun env h => evSs ⟨runFn prg (k + 2), n0, prg.sub, prg.xi⟩ g2B env h) (chk := (⟨rangeT 0 K, none⟩ : Items).chk)
    (fun d e H => ∃ A rs y7, e = gE sc K ws x6 y7 x8 x9 ∧ H = [A, .lst rs] ∧ Bx A ∧ GI K 9 rs)
    (done := []) (rest := rangeT 0 K) (env := gE sc K ws x6 x7 x8 x9) (h := [A, .lst rs])
    ⟨A, rs, x7, rfl, rfl, hA, g⟩
    (fun d x r e H eq i => by
      obtain ⟨A, rs, y7, rfl, rfl, b, g⟩ := i
      obtain ⟨j, rfl, hj⟩ := mem_range (show x ∈ rangeT 0 K by rw [show rangeT 0 K = d ++ x :: r from by simpa using eq]; simp)
      obtain ⟨A', rs', b', g', es⟩ := gr_turn2 k n0 K sc (ws := ws) x6 x8 x9 j b k2 hj hw g
      exact ⟨gE sc K ws x6 (some (.int j)) x8 x9, rfl, _, _, es, trivial, A', rs', _, rfl, rfl, b', g'⟩)
  obtain ⟨A', rs', y7, rfl, rfl, b, g'⟩ := q
  exact ⟨A', rs', y7, b, g', el⟩
end LW
end
section
set_option maxRecDepth 100000
set_option maxHeartbeats 1000000
namespace LW
open PySem PS
theorem eqn_cell {h : AH} {n : Nat} {xs : List T} (hb : h[n]? = some (.lst xs)) (hp : T.plL xs = true) : cmpT .eq h (.ref n) (.lst []) = some xs.isEmpty := by
  show eqT (snap h (.ref n)) (snap h (.lst [])) = _
  rw [snap_cell hb]
  exact eq_nil (h := h) xs hp
abbrev gKs : List T := [.int 1, .int 2, .int 2, .int 3, .int 3, .int 4, .int 6, .int 8]
theorem gKs_mem {x : T} (h : x ∈ gKs) : ∃ K : Nat, x = .int K ∧ 1 ≤ K ∧ K ≤ 8 := by
  simp at h
  rcases h with rfl | rfl | rfl | rfl | rfl | rfl | rfl | rfl <;> first
    | exact ⟨1, rfl, by omega, by omega⟩
    | exact ⟨2, rfl, by omega, by omega⟩
    | exact ⟨3, rfl, by omega, by omega⟩
    | exact ⟨4, rfl, by omega, by omega⟩
    | exact ⟨6, rfl, by omega, by omega⟩
    | exact ⟨8, rfl, by omega, by omega⟩
abbrev gWs : List T := [.lst [.str "a"], .lst [.str "a", .str "ab"], .lst [.str "a", .str "ab", .str "b"], .lst [.str "b", .str "aab"]]
theorem w_a : isW (.str "a") = true ∧ Gd 20 0 (.str "a") := ⟨by decide, .str _ _ (by decide)⟩
theorem w_ab : isW (.str "ab") = true ∧ Gd 20 0 (.str "ab") := ⟨by decide, .str _ _ (by decide)⟩
theorem w_b : isW (.str "b") = true ∧ Gd 20 0 (.str "b") := ⟨by decide, .str _ _ (by decide)⟩
theorem w_aab : isW (.str "aab") = true ∧ Gd 20 0 (.str "aab") := ⟨by decide, .str _ _ (by decide)⟩
theorem gWs_mem {x : T} (h : x ∈ gWs) : ∃ ws, x = .lst ws ∧ WS ws := by
  simp at h
  rcases h with rfl | rfl | rfl | rfl
  · exact ⟨_, rfl, by simp, by simp, fun w hw => by simp at hw; subst hw; exact w_a⟩
  · exact ⟨_, rfl, by simp, by simp, fun w hw => by simp at hw; rcases hw with rfl | rfl; exact w_a; exact w_ab⟩
  · exact ⟨_, rfl, by simp, by simp, fun w hw => by simp at hw; rcases hw with rfl | rfl | rfl; exact w_a; exact w_ab; exact w_b⟩
  · exact ⟨_, rfl, by simp, by simp, fun w hw => by simp at hw; rcases hw with rfl | rfl; exact w_b; exact w_aab⟩
theorem gi_perm {K m : Nat} {rs ys : List T} (p : ys.Perm rs) (g : GI K m rs) : GI K m ys := ⟨by rw [p.length_eq]; exact g.len, fun t ht => g.ok t (p.mem_iff.mp ht), fun j hj r => g.nb j hj (rch_mono (fun q hq => by
  rw [List.mem_filterMap] at hq ⊢
  obtain ⟨t, ht, e⟩ := hq
  exact ⟨t, p.mem_iff.mp ht, e⟩) r)⟩
abbrev gR6 : IS := .ife (.cmp .gt (.call 10 (.cons (.var 2) (.cons (.cst (.int 6)) .nil))) (.cst (.int 0))) (.cons (.forr (.nm 7) (.rng (.var 3)) g2B) .nil) .nil
abbrev gR7 : IS := .ife (.cmp .eq (.var 5) (.lst false .nil)) (.cons (.asg (.nm 5) (.lst true (.cons (.tup (.cons (.cst (.int 0)) (.cons (.cst (.str "left")) (.cons (.cst (.str "a")) .nil)))) .nil)))
  .nil) .nil
theorem gr_r6 (k n0 K : Nat) {A : Cell} (sc : T) {ws rs : List T} (x6 x7 x8 x9 : Option T) (hA : Bx A) (k2 : K ≤ 8) (hw : WS ws) (g : GI K 9 rs) :
    ∃ A' rs' y7, Bx A' ∧ GI K 9 rs' ∧ evS ⟨runFn prg (k + 2), n0, prg.sub, prg.xi⟩ gR6 (gE sc K ws x6 x7 x8 x9) [A, .lst rs] = .next (gE sc K ws x6 y7 x8 x9) [A', .lst rs'] := by
  obtain ⟨r, A1, e1, r0, r1, b1⟩ := take0 (k + 1) [.lst rs] 6 hA (by omega) (by omega)
  by_cases c : 0 < r
  · obtain ⟨A', rs', y7, b', g', el⟩ := gr_loop2 k n0 K sc x6 x7 x8 x9 b1 k2 hw g
    refine ⟨A', rs', y7, b', g', ?_⟩
    have cB : evB ⟨runFn prg (k + 2), n0, prg.sub, prg.xi⟩ (.cmp .gt (.call 10 (.cons (.var 2) (.cons (.cst (.int 6)) .nil))) (.cst (.int 0))) (gE sc K ws x6 x7 x8 x9) [A, .lst rs] = .ok true [A1, .lst rs] := by
      simp [evB, evE, evL, e1, c]
    unfold evS
    rw [cB, R.toS_ok]
    dsimp only
    refine (ss_next (e1 := gE sc K ws x6 y7 x8 x9) (h1 := [A', .lst rs']) ?_).trans rfl
    have ei : evI ⟨runFn prg (k + 2), n0, prg.sub, prg.xi⟩ (.rng (.var 3)) (gE sc K ws x6 x7 x8 x9) [A1, .lst rs] = .ok ⟨rangeT 0 K, none⟩ [A1, .lst rs] := rng_items (n := K) (h1 := [A1, .lst rs]) rfl (small_nat (by omega))
    unfold evS
    rw [ei, R.toS_ok]
    exact el
  · refine ⟨A1, rs, x7, b1, g, ?_⟩
    have cB : evB ⟨runFn prg (k + 2), n0, prg.sub, prg.xi⟩ (.cmp .gt (.call 10 (.cons (.var 2) (.cons (.cst (.int 6)) .nil))) (.cst (.int 0))) (gE sc K ws x6 x7 x8 x9) [A, .lst rs] = .ok false [A1, .lst rs] := by
      simp [evB, evE, evL, e1, c]
    unfold evS
    rw [cB, R.toS_ok]
    rfl
theorem gr_r7 (k n0 K : Nat) {A : Cell} (sc : T) {ws rs : List T} (x6 x7 x8 x9 : Option T) (k1 : 1 ≤ K) (k2 : K ≤ 8) (g : GI K 9 rs) :
    ∃ rc cs rs', rc ≠ 0 ∧ (A :: cs)[rc]? = some (.lst rs') ∧ rs' ≠ [] ∧ GI K 9 rs' ∧ evS ⟨runFn prg (k + 2), n0, prg.sub, prg.xi⟩ gR7 (gE sc K ws x6 x7 x8 x9) [A, .lst rs] = .next [some sc, some (.int 9), some (.ref 0), some (.int K), some (.lst ws), some (.ref rc), x6, x7, x8, x9] (A :: cs) := by
  have z0 : (0 : Nat) ≤ sizeLine := Nat.zero_le _
  have z3 : (3 : Nat) ≤ sizeLine := thou_line (by omega)
  have hp : T.plL rs = true := gd_plL (by omega) fun t ht => (g.ok t ht).2
  have en := eqn_cell (h := [A, .lst rs]) (n := 1) (xs := rs) rfl hp
  have f0 : PS.fresh false [] [A, .lst rs] = .ok (.lst []) [A, .lst rs] := fresh_f z0
  cases rs with
  | cons t r =>
    refine ⟨1, [.lst (t :: r)], t :: r, by omega, rfl, by simp, g, ?_⟩
    simp [evS, evSs, evB, evE, evL, f0, en]
  | nil =>
    have ft : PS.fresh true [T.tup [.int 0, .str "left", .str "a"]] [A, .lst []] = .ok (.ref 2) [A, .lst [], .lst [T.tup [.int 0, .str "left", .str "a"]]] := fresh_t (thou_line (by simp))
    refine ⟨2, [.lst [], .lst [T.tup [.int 0, .str "left", .str "a"]]], [T.tup [.int 0, .str "left", .str "a"]], by omega, rfl, by simp, ⟨by simp, ?_, ?_⟩, ?_⟩
    · intro t ht
      simp at ht
      subst ht
      exact ⟨isR_a (by decide) (by omega) (by omega) w_a.1, gd_rule k2 (by omega) (by omega) (by decide) (by simp) (fun z hz => by simp at hz; subst hz; exact w_a.2)⟩
    · intro j _ r
      exact rch_nil r
    · simp [evS, evSs, evB, evE, evL, f0, en, ft, z3, TG.asg]
theorem p_grammar (k : Nat) (ns : List Int) :
    ∃ (K : Nat) (rs : List T), runFn prg (k + 4) 19 [.lst (ns.map T.int), .int 9] [] = .ok (.tup [.int K, .tup rs]) [] ∧ 1 ≤ K ∧ K ≤ 8 ∧ rs ≠ [] ∧ GI K 9 rs := by
  obtain ⟨g0, s0, hg, hs, e1⟩ := p_box (k + 2) [] ns 0 (by omega) (by omega)
  have b1 : Bx (.lst [.int g0, .int s0]) := ⟨_, _, hg, hs, rfl⟩
  obtain ⟨x, A2, e2, hx, b2⟩ := pick0 (k + 1) [] gKs b1 (by simp) (by simp) rfl
  obtain ⟨K, rfl, k1, k2⟩ := gKs_mem hx
  obtain ⟨y, A3, e3, hy, b3⟩ := pick0 (k + 1) [] gWs b2 (by simp) (by simp) rfl
  obtain ⟨ws, rfl, hw⟩ := gWs_mem hy
  obtain ⟨r, A4, e4, r0, r1, b4⟩ := take0 (k + 2) [.lst []] 8 b3 (by omega) (by omega)
  obtain ⟨A5, rs5, y6, y7, y8, y9, b5, g5, e5⟩ := gr_loop (k + 1) 0 K (2 + r).toNat (.lst (ns.map T.int)) (ws := ws) none none none none b4 k1 k2 hw (by omega)
  obtain ⟨A6, rs6, z7, b6, g6, e6⟩ := gr_r6 (k + 1) 0 K (.lst (ns.map T.int)) y6 y7 y8 y9 b5 k2 hw g5
  obtain ⟨rc, cs, rs7, n0, c7, ne7, g7, e7⟩ := gr_r7 (k + 1) 0 K (A := A6) (.lst (ns.map T.int)) (ws := ws) y6 z7 y8 y9 k1 k2 g6
  have hp7 : T.plL rs7 = true := gd_plL (by omega) fun t ht => (g7.ok t ht).2
  obtain ⟨ys, H8, e8, pm, b8⟩ := p_shuffled (k + 1) (A6 :: cs) 0 rc rs7 (bx_box b6) c7 n0 (by have := g7.len; omega) hp7
  have g8 := gi_perm pm g7
  have hp8 : T.plL ys = true := gd_plL (by omega) fun t ht => (g8.ok t ht).2
  have ne8 : ys ≠ [] := by
    rintro rfl
    exact ne7 (pm.symm.eq_nil)
  refine ⟨K, ys, ?_, k1, k2, ne8, g8⟩
  rw [run_eq (fn := ⟨2, 10, true, ir__law_grammar⟩) rfl rfl]
  have z2 : (2 : Nat) ≤ sizeLine := thou_line (by omega)
  have fK : PS.fresh false gKs [.lst [.int g0, .int s0]] = .ok (.lst gKs) [.lst [.int g0, .int s0]] := fresh_f (thou_line (by simp))
  have f1 : ∀ (x : T) (h : AH), PS.fresh false [x] h = .ok (.lst [x]) h := fun x h => fresh_f (thou_line (by simp))
  have f2 : ∀ (x y : T) (h : AH), PS.fresh false [x, y] h = .ok (.lst [x, y]) h := fun x y h => fresh_f (thou_line (by simp))
  have f3 : ∀ (x y z : T) (h : AH), PS.fresh false [x, y, z] h = .ok (.lst [x, y, z]) h := fun x y z h => fresh_f (thou_line (by simp))
  have f4 : ∀ (x y z w : T) (h : AH), PS.fresh false [x, y, z, w] h = .ok (.lst [x, y, z, w]) h := fun x y z w h => fresh_f (thou_line (by simp))
  have ft : PS.fresh true [] [A3] = .ok (.ref 1) [A3, .lst []] := fresh_t (xs := []) (Nat.zero_le _)
  rw [List.nil_append] at e1
  have s1 : evS ⟨runFn prg (k + 3), 0, prg.sub, prg.xi⟩ (.asg (.nm 2) (.call 9 (.cons (.var 0) (.cons (.cst (.int 0)) .nil)))) [some (.lst (ns.map T.int)), some (.int 9), none, none, none, none, none, none, none, none] [] = .next [some (.lst (ns.map T.int)), some (.int 9), some (.ref 0), none, none, none, none, none, none, none] [.lst [.int g0, .int s0]] := by
    simp [evS, evE, evL, e1, TG.asg]
  have s2 : evS ⟨runFn prg (k + 3), 0, prg.sub, prg.xi⟩ (.asg (.nm 3) (.call 11 (.cons (.var 2) (.cons (.lst false (.cons (.cst (.int 1)) (.cons (.cst (.int 2)) (.cons (.cst (.int 2)) (.cons (.cst (.int 3)) (.cons (.cst (.int 3)) (.cons (.cst (.int 4)) (.cons (.cst (.int 6)) (.cons (.cst (.int 8)) .nil))))))))) .nil)))) [some (.lst (ns.map T.int)), some (.int 9), some (.ref 0), none, none, none, none, none, none, none] [.lst [.int g0, .int s0]] = .next [some (.lst (ns.map T.int)), some (.int 9), some (.ref 0), some (.int K), none, none, none, none, none, none] [A2] := by
    simp [evS, evE, evL, fK, e2, TG.asg]
  have s3 : evS ⟨runFn prg (k + 3), 0, prg.sub, prg.xi⟩ (.asg (.nm 4) (.call 11 (.cons (.var 2) (.cons (.lst false (.cons (.lst false (.cons (.cst (.str "a")) .nil)) (.cons (.lst false (.cons (.cst (.str "a")) (.cons (.cst (.str "ab")) .nil))) (.cons (.lst false (.cons (.cst (.str "a")) (.cons (.cst (.str "ab")) (.cons (.cst (.str "b")) .nil)))) (.cons (.lst false (.cons (.cst (.str "b")) (.cons (.cst (.str "aab")) .nil))) .nil))))) .nil)))) [some (.lst (ns.map T.int)), some (.int 9), some (.ref 0), some (.int K), none, none, none, none, none, none] [A2] = .next [some (.lst (ns.map T.int)), some (.int 9), some (.ref 0), some (.int K), some (.lst ws), none, none, none, none, none] [A3] := by
    simp [evS, evE, evL, f1, f2, f3, f4, e3, TG.asg]
  have s4 : evS ⟨runFn prg (k + 3), 0, prg.sub, prg.xi⟩ (.asg (.nm 5) (.lst true .nil)) [some (.lst (ns.map T.int)), some (.int 9), some (.ref 0), some (.int K), some (.lst ws), none, none, none, none, none] [A3] = .next (gE (.lst (ns.map T.int)) K ws none none none none) [A3, .lst []] := by
    simp [evS, evE, evL, ft, TG.asg]
  have s5 : evS ⟨runFn prg (k + 3), 0, prg.sub, prg.xi⟩ (.forr (.nm 6) (.rng (.bin false .add (.cst (.int 2)) (.call 10 (.cons (.var 2) (.cons (.bin false .sub (.var 1) (.cst (.int 1))) .nil))))) gB) (gE (.lst (ns.map T.int)) K ws none none none none) [A3, .lst []] = .next (gE (.lst (ns.map T.int)) K ws y6 y7 y8 y9) [A5, .lst rs5] := by
    have ev : evE ⟨runFn prg (k + 3), 0, prg.sub, prg.xi⟩ (.bin false .add (.cst (.int 2)) (.call 10 (.cons (.var 2) (.cons (.bin false .sub (.var 1) (.cst (.int 1))) .nil)))) (gE (.lst (ns.map T.int)) K ws none none none none) [A3, .lst []] = .ok (.int ((2 + r).toNat : Int)) [A4, .lst []] := by
      rw [Int.toNat_of_nonneg (by omega)]
      simp [evE, evL, e4]
    have ei := rng_items (n := (2 + r).toNat) ev (small_nat (by omega))
    unfold evS
    rw [ei, R.toS_ok]
    exact e5
  have bt : bfT false .tuple [.lst ys] H8 = .ok (.tup ys) H8 := rfl
  have s8 : evS ⟨runFn prg (k + 3), 0, prg.sub, prg.xi⟩ (.ret true (.tup (.cons (.var 3) (.cons (.bf false .tuple (.cons (.call 16 (.cons (.var 2) (.cons (.var 5) .nil))) .nil)) .nil)))) [some (.lst (ns.map T.int)), some (.int 9), some (.ref 0), some (.int K), some (.lst ws), some (.ref rc), y6, z7, y8, y9] (A6 :: cs) = .ret (some 0) (.tup [.int K, .tup ys]) H8 := by
    have ee : evE ⟨runFn prg (k + 3), 0, prg.sub, prg.xi⟩ (.tup (.cons (.var 3) (.cons (.bf false .tuple (.cons (.call 16 (.cons (.var 2) (.cons (.var 5) .nil))) .nil)) .nil))) [some (.lst (ns.map T.int)), some (.int 9), some (.ref 0), some (.int K), some (.lst ws), some (.ref rc), y6, z7, y8, y9] (A6 :: cs) = .ok (.tup [.int K, .tup ys]) H8 := by
      simp [evE, evL, e8, bt, z2]
    unfold evS
    rw [ee, R.toS_ok]
    have hp : (T.tup [.int K, .tup ys]).pl = true := by
      simp [T.pl, T.plL, hp8]
      have := g8.len
      omega
    show (match frzV 0 H8 4 (.tup [.int K, .tup ys]) with
      | some t' => RS.ret (some 0) t' H8
      | none => .stuck) = _
    rw [frz_pl 4 _ hp]
  have es : evSs ⟨runFn prg (k + 3), List.length ([] : AH), prg.sub, prg.xi⟩ ir__law_grammar ([T.lst (ns.map T.int), .int 9].map some ++ List.replicate (10 - 2) none) [] = .ret (some 0) (.tup [.int K, .tup ys]) H8 :=
    (ss_next s1).trans ((ss_next s2).trans ((ss_next s3).trans ((ss_next s4).trans ((ss_next s5).trans ((ss_next e6).trans ((ss_next e7).trans (ss_ret s8)))))))
  rw [es]
  have := end_ret (h := []) (cs := H8) (m := some 0) (t := .tup [.int K, .tup ys]) (.inr rfl) (by simp [T.und, T.undL, pl_undL _ _ hp8])
  exact this
end LW
end
section
set_option maxRecDepth 100000
set_option maxHeartbeats 1000000
namespace LW
open PySem PS
theorem init_kept (k : Nat) (h : AH) (n : Nat) (kt rt : T) (hk : kt.pl = true) (hr : rt.pl = true) (hb : h[n]? = some (.obj 0 [])) (hd : Due kt rt (.tup [.str "kept", kt, rt])) : runFn prg (k + 5) 7 [.ref n, kt, rt] h = .ok .non (h.set n (pObj kt rt)) := by
  obtain ⟨d, d1, q⟩ := init_all4 k h n kt rt hk hr hb
  have e := due_uni d1 hd
  subst e
  rcases q with ⟨e, _⟩ | ⟨e, _⟩ | ⟨q, e, _⟩ | ⟨_, e⟩
  · simp at e
  · simp at e
  · simp at e
  · exact e
theorem gi_due {K : Nat} {rs : List T} (k1 : 1 ≤ K) (k2 : K ≤ 8) (ne : rs ≠ []) (g : GI K 9 rs) : Due (.int K) (.tup rs) (.tup [.str "kept", .int K, .tup rs]) := by
  have hR : okRs (.tup rs) K = true := by
    have l1 := List.length_pos_iff.mpr ne
    have l2 := g.len
    simp [okRs]
    exact ⟨⟨by omega, by omega⟩, fun x hx => (g.ok x hx).1⟩
  exact .inr ⟨K, rfl, k1, by omega, .inr ⟨rs, .non, rfl, hR, fun j hj => g.nb j hj, .inl ⟨rfl, rfl⟩⟩⟩
theorem mk_kept (k n0 : Nat) (es : IL) (env : PS.Env) (h h1 : AH) (a b : T) (ha : a.pl = true) (hb : b.pl = true) (hd : Due a b (.tup [.str "kept", a, b])) (e : evL ⟨runFn prg (k + 5), n0, prg.sub, prg.xi⟩ es env h = .ok [a, b] h1) :
    evE ⟨runFn prg (k + 5), n0, prg.sub, prg.xi⟩ (.mk 0 7 es) env h = .ok (.ref h1.length) (h1 ++ [pObj a b]) := by
  have q := init_kept k (h1 ++ [.obj 0 []]) h1.length a b ha hb (app_at h1 _) hd
  rw [app_set] at q
  exact mk_ok e q
theorem p_made (k : Nat) (h : AH) (a b : T) (ha : a.pl = true) (hb : b.pl = true) (hd : Due a b (.tup [.str "kept", a, b])) : runFn prg (k + 6) 20 [.tup [a, b]] h = .ok (.ref h.length) (h ++ [pObj a b]) := by
  rw [run_eq (fn := ⟨1, 1, false, ir__law_made⟩) rfl rfl]
  have i0 : idxT h (.tup [a, b]) (.int 0) = some a := L2.atI_nat (j := 0) rfl
  have i1 : idxT h (.tup [a, b]) (.int 1) = some b := L2.atI_nat (j := 1) rfl
  have eL : evL ⟨runFn prg (k + 5), h.length, prg.sub, prg.xi⟩ (.cons (.idx (.var 0) (.cst (.int 0))) (.cons (.idx (.var 0) (.cst (.int 1))) .nil)) [some (.tup [a, b])] h = .ok [a, b] h := by
    simp [evE, evL, i0, i1]
  have em := mk_kept k h.length _ _ h h a b ha hb hd eL
  have es : evSs ⟨runFn prg (k + 5), h.length, prg.sub, prg.xi⟩ ir__law_made ([T.tup [a, b]].map some ++ List.replicate (1 - 1) none) h = .ret none (.ref h.length) (h ++ [pObj a b]) := by
    refine ss_ret ?_
    unfold evS
    refine (congrArg (fun r : R T => r.toS (fun c v h1 => RS.exc c v _ h1) .stuck fun t h1 => if false = true then (match frzV h.length h1 4 t with
      | some t' => .ret (some h.length) t' h1
      | none => .stuck) else .ret none t h1) em).trans ?_
    rfl
  rw [es]
  rfl
theorem isTy_obj {h : AH} {n c : Nat} {fs : List (Nat × T)} (hb : h[n]? = some (.obj c fs)) : isTys h (.ref n) [.cls c] = some true := by
  have s : snap h (.ref n) = .ref n := by rw [snap_ref, hb]
  have : isTy h (.ref n) (.cls c) = some true := by
    show (match snap h (.ref n) with
      | .non => some false
      | .bl _ => some false
      | .int _ => some false
      | .str _ => some false
      | .tup _ => some false
      | .lst _ => some false
      | .ref n => match h[n]? with
        | some (.obj c' _) => some (c' == c)
        | _ => none
      | _ => none) = _
    rw [s]
    dsimp only
    rw [hb]
    simp
  unfold isTys
  rw [this]
theorem snap_pl {h : AH} {t : T} (hp : t.pl = true) : snap h t = t := by
  cases t <;> first
    | rfl
    | (simp [T.pl] at hp; done)
theorem p_eq_obj (k : Nat) (h : AH) (m n : Nat) (a b c d : T) (hm : h[m]? = some (pObj a b)) (hn : h[n]? = some (pObj c d)) (pa : a.pl = true) (pb : b.pl = true) (pc : c.pl = true) (pd : d.pl = true) (da : DD 100 a) (db : DD 100 b) (dc : DD 100 c) (dd : DD 100 d) :
    runFn prg (k + 1) 8 [.ref m, .ref n] h = .ok (.bl (eqB a c && eqB b d)) h := by
  rw [run_eq (fn := ⟨2, 2, true, ir_Pairsx_eqx⟩) rfl rfl]
  have e1 : cmpT .eq h a c = some (eqB a c) := by
    show eqT (snap h a) (snap h c) = _
    rw [snap_pl pa, snap_pl pc, eqT_B da dc (.inl (by omega))]
  have e2 : cmpT .eq h b d = some (eqB b d) := by
    show eqT (snap h b) (snap h d) = _
    rw [snap_pl pb, snap_pl pd, eqT_B db dd (.inl (by omega))]
  have f0 : fldT h (.ref m) 0 0 = some a := by rw [fld_cell hm]; rfl
  have f1 : fldT h (.ref m) 0 1 = some b := by rw [fld_cell hm]; rfl
  have f2 : fldT h (.ref n) 0 0 = some c := by rw [fld_cell hn]; rfl
  have f3 : fldT h (.ref n) 0 1 = some d := by rw [fld_cell hn]; rfl
  have es : evSs ⟨runFn prg k, h.length, prg.sub, prg.xi⟩ ir_Pairsx_eqx ([T.ref m, .ref n].map some ++ List.replicate (2 - 2) none) h = .ret none (.bl (eqB a c && eqB b d)) h := by
    cases h1 : eqB a c <;> simp [evSs, evS, evE, isTy_obj hn, e1, e2, f0, f1, f2, f3, h1]
  rw [es]
  exact end_ret0 (.inl rfl) rfl
theorem p_eq_tup (k : Nat) (h : AH) (m : Nat) (xs : List T) (hp : (T.tup xs).pl = true) : runFn prg (k + 1) 8 [.ref m, .tup xs] h = .ok (.bl false) h := by
  rw [run_eq (fn := ⟨2, 2, true, ir_Pairsx_eqx⟩) rfl rfl]
  have es : evSs ⟨runFn prg k, h.length, prg.sub, prg.xi⟩ ir_Pairsx_eqx ([T.ref m, .tup xs].map some ++ List.replicate (2 - 2) none) h = .ret none (.bl false) h := by
    simp [evSs, evS, evE, isTy_pl _ hp, isTyP]
  rw [es]
  exact end_ret0 (.inl rfl) rfl
theorem eqo_ok {C : PS.Ctx} {c f m : Nat} {a b : IE} {env : PS.Env} {h h1 h2 : AH} {y : T} {r : Bool} {fs : List (Nat × T)} (e1 : evE C a env h = .ok (.ref m) h1) (e2 : evE C b env h1 = .ok y h2) (hm : h2[m]? = some (.obj c fs)) (hy : eqOk h2 y = true) (ef : C.F f [.ref m, y] h2 = .ok (.bl r) h2) :
    evE C (.eqo false c f a b) env h = .ok (.bl r) h2 := by
  rw [evE, e1, R.bind_ok, e2, R.bind_ok]
  dsimp only
  rw [hm]
  dsimp only
  rw [if_pos ⟨rfl, hy⟩, ef, R.nox_ok, R.bind_ok]
  simp
theorem eqOk_obj {h : AH} {n c : Nat} {fs : List (Nat × T)} (hb : h[n]? = some (.obj c fs)) : eqOk h (.ref n) = true := by
  have s : snap h (.ref n) = .ref n := by rw [snap_ref, hb]
  unfold eqOk
  rw [s]
  dsimp only
  rw [hb]
structure LH (K : Nat) (rs : List T) (H : AH) (c : Nat) (xs : List T) : Prop where
  box : Box H 0
  made : H[1]? = some (pObj (.int K) (.tup rs))
  cs : H[c]? = some (.lst xs)
  c2 : 2 ≤ c
theorem LH.bo {K : Nat} {rs xs : List T} {H H' : AH} {c : Nat} (h : LH K rs H c xs) (b : BoxOnly 0 H H') : LH K rs H' c xs := ⟨bo_box h.box b, by rw [bo_ne b (by omega)]; exact h.made, by rw [bo_ne b (by have := h.c2; omega)]; exact h.cs, h.c2⟩
theorem LH.app {K : Nat} {rs xs : List T} {H : AH} {c : Nat} (h : LH K rs H c xs) (cs : AH) : LH K rs (H ++ cs) c xs := by
  have l1 : 1 < H.length := (List.getElem?_eq_some_iff.mp h.made).1
  have l2 : c < H.length := (List.getElem?_eq_some_iff.mp h.cs).1
  exact ⟨box_app h.box, by rw [List.getElem?_append_left l1]; exact h.made, by rw [List.getElem?_append_left l2]; exact h.cs, h.c2⟩
theorem LH.new {K : Nat} {rs xs : List T} {H : AH} {c : Nat} (h : LH K rs H c xs) (ys : List T) : LH K rs (H ++ [.lst ys]) H.length ys := by
  have l2 : c < H.length := (List.getElem?_eq_some_iff.mp h.cs).1
  exact ⟨(h.app _).box, (h.app _).made, app_at H _, by have := h.c2; omega⟩
theorem LH.put {K : Nat} {rs xs : List T} {H : AH} {c : Nat} (h : LH K rs H c xs) (ys : List T) : LH K rs (H.set c (.lst ys)) c ys := by
  have l2 : c < H.length := (List.getElem?_eq_some_iff.mp h.cs).1
  have c2 := h.c2
  obtain ⟨g, s, a, b, e⟩ := h.box
  exact ⟨⟨g, s, a, b, by rw [List.getElem?_set_ne (by omega)]; exact e⟩, by rw [List.getElem?_set_ne (by omega)]; exact h.made, by simp [l2], c2⟩
structure CO (n : Nat) (xs : List T) : Prop where
  len : xs.length ≤ n
  ok : ∀ x ∈ xs, ∃ a b, x = .tup [a, b] ∧ Gd 100 3 a ∧ Gd 100 3 b
theorem CO.app {n m : Nat} {xs ys : List T} (a : CO n xs) (b : CO m ys) : CO (n + m) (xs ++ ys) := ⟨by have := a.len; have := b.len; rw [List.length_append]; omega, fun x hx => by
  rw [List.mem_append] at hx
  rcases hx with hx | hx
  · exact a.ok x hx
  · exact b.ok x hx⟩
theorem CO.one {a b : T} (ha : Gd 100 3 a) (hb : Gd 100 3 b) : CO 1 [.tup [a, b]] := ⟨by simp, fun x hx => by simp at hx; exact ⟨a, b, hx, ha, hb⟩⟩
theorem CO.cons {n : Nat} {xs : List T} {a b : T} (ha : Gd 100 3 a) (hb : Gd 100 3 b) (h : CO n xs) : CO (n + 1) (.tup [a, b] :: xs) := ⟨by have := h.len; simp; omega, fun x hx => by
  rcases List.mem_cons.mp hx with e | hx
  · exact ⟨a, b, e, ha, hb⟩
  · exact h.ok x hx⟩
theorem CO.nil : CO 0 [] := ⟨by simp, fun x hx => by simp at hx⟩
end LW
end
section
set_option maxRecDepth 100000
set_option maxHeartbeats 1000000
namespace LW
open PySem PS
def isTx : T → Bool
  | .tup xs => decide (xs.length ≤ 8) && xs.all isW
  | _ => false
abbrev txC : IE := .comp false [1] (.nm 1) (.e (.var 0)) .none (.call 2 (.cons (.var 1) .nil))
theorem tx_all (k n0 : Nat) (h : AH) (xs : List T) (hp : (T.tup xs).pl = true) : evE ⟨runFn prg (k + 1), n0, prg.sub, prg.xi⟩ (.bf false .all (.cons txC .nil)) [some (.tup xs), none] h = .ok (.bl (xs.all isW)) h := by
  have hl : T.plL xs = true := by simp [T.pl] at hp; exact hp.2
  have cl := compL_pure (g := TG.nm 1) (cond := fun _ h => .ok true h) (elt := fun env h => (evE ⟨runFn prg (k + 1), n0, prg.sub, prg.xi⟩ (.call 2 (.cons (.var 1) .nil)) env h).nox) (chk := (⟨xs, none⟩ : Items).chk) (c := fun _ => true) (f := fun r => .bl (isW r)) (env := wipeE [some (.tup xs), none] [1]) (h := h) trivial (xs := xs) (fun y hy => ⟨[some (.tup xs), some y], rfl, rfl, fun _ => by
    show (R.nox (runFn prg (k + 1) 2 [y] h)) = _
    rw [p_is_word k h y (plL_mem hl y hy)]; rfl⟩)
  rw [show xs.filter (fun _ => true) = xs from by simp, show (xs.map fun r => T.bl (isW r)) = (xs.map fun r => isW r).map T.bl from by rw [List.map_map]; rfl] at cl
  have hz : ((xs.map fun r => isW r).map T.bl).length ≤ sizeLine := by
    rw [List.length_map, List.length_map]
    simp [T.pl] at hp
    exact thou_line (by omega)
  have ec : evE ⟨runFn prg (k + 1), n0, prg.sub, prg.xi⟩ txC [some (.tup xs), none] h = .ok (.lst ((xs.map fun r => isW r).map T.bl)) h := by
    refine (congrArg (fun r : R (List T) => r.nox.bind fun ts h2 => PS.fresh false ts h2) cl).trans ?_
    rw [R.nox_ok, R.bind_ok, fresh_f hz]
  rw [evE, evL, ec, R.bind_ok, evL, R.bind_ok, R.bind_ok, bf_all_bls, all_id]
theorem p_is_text (k : Nat) (h : AH) (t : T) (hp : t.pl = true) : runFn prg (k + 2) 26 [t] h = .ok (.bl (isTx t)) h := by
  rw [run_eq (fn := ⟨1, 2, true, ir_is_text⟩) rfl rfl]
  have e : evSs ⟨runFn prg (k + 1), h.length, prg.sub, prg.xi⟩ ir_is_text ([t].map some ++ List.replicate (2 - 1) none) h = .ret none (.bl (isTx t)) h := by
    cases t with
    | tup xs =>
      have al := tx_all k h.length h xs hp
      refine ss_ret ?_
      have i1 : evE ⟨runFn prg (k + 1), h.length, prg.sub, prg.xi⟩ (.isi (.var 0) [.tuple]) [some (.tup xs), none] h = .ok (.bl true) h := by
        simp [evE, isTy_pl _ hp, isTyP]
      have i2 : evE ⟨runFn prg (k + 1), h.length, prg.sub, prg.xi⟩ (.cmp .le (.bf false .len (.cons (.var 0) .nil)) (.glb 0 (.int 8))) [some (.tup xs), none] h = .ok (.bl (decide (xs.length ≤ 8))) h := by
        have : decide ((xs.length : Int) ≤ 8) = decide (xs.length ≤ 8) := by simp; omega
        simp [evE, evL, this]
      have ee : evE ⟨runFn prg (k + 1), h.length, prg.sub, prg.xi⟩ (.and (.isi (.var 0) [.tuple]) (.and (.cmp .le (.bf false .len (.cons (.var 0) .nil)) (.glb 0 (.int 8))) (.bf false .all (.cons txC .nil)))) [some (.tup xs), none] h = .ok (.bl (isTx (.tup xs))) h := by
        rw [evE, i1, R.bind_ok, truT_bl, R.of_some, R.bind_ok]
        dsimp only
        rw [evE, i2, R.bind_ok, truT_bl, R.of_some, R.bind_ok]
        by_cases c : xs.length ≤ 8
        · rw [decide_eq_true c]
          dsimp only
          rw [al]
          simp [isTx, c]
        · rw [decide_eq_false c]
          dsimp only
          simp [isTx, c]
      unfold evS
      refine (congrArg (fun r : R T => r.toS (fun c v h1 => RS.exc c v _ h1) .stuck fun t h1 => if false = true then (match frzV h.length h1 4 t with
        | some t' => .ret (some h.length) t' h1
        | none => .stuck) else .ret none t h1) ee).trans ?_
      rfl
    | _ => simp [evSs, evS, evE, evL, evB, isTy_pl _ hp, isTyP, isTx]
  rw [e]
  exact end_ret0 (.inl rfl) rfl
def isN : T → Bool
  | .int i => decide (0 ≤ i)
  | _ => false
theorem p_is_number (k : Nat) (h : AH) (t : T) (hp : t.pl = true) : runFn prg (k + 2) 28 [t] h = .ok (.bl (isN t)) h := by
  rw [run_eq (fn := ⟨1, 1, true, ir_is_number⟩) rfl rfl]
  have e : evSs ⟨runFn prg (k + 1), h.length, prg.sub, prg.xi⟩ ir_is_number ([t].map some ++ List.replicate (1 - 1) none) h = .ret none (.bl (isN t)) h := by
    have c := p_is_integer k h t hp
    cases t <;> simp [evSs, evS, evE, evL, c, isI, isN]
  rw [e]
  exact end_ret0 (.inl rfl) rfl
def hasW (v : T) (ss : List Str) : Bool := match v with
  | .tup (.str x :: _) => ss.contains x
  | _ => false
theorem at0 {h : AH} {a : T} {r : List T} : idxT h (.tup (a :: r)) (.int 0) = some a := L2.atI_nat (j := 0) rfl
theorem at1 {h : AH} {a b : T} {r : List T} : idxT h (.tup (a :: b :: r)) (.int 1) = some b := L2.atI_nat (j := 1) rfl
theorem at2 {h : AH} {a b c : T} {r : List T} : idxT h (.tup (a :: b :: c :: r)) (.int 2) = some c := L2.atI_nat (j := 2) rfl
theorem p_has_word (k : Nat) (h : AH) (v w : T) (ss : List Str) (hp : v.pl = true) (hw : w = .tup (ss.map T.str) ∨ w = .lst (ss.map T.str)) : runFn prg (k + 1) 27 [v, w] h = .ok (.bl (hasW v ss)) h := by
  rw [run_eq (fn := ⟨2, 2, true, ir_has_word⟩) rfl rfl]
  have e : evSs ⟨runFn prg k, h.length, prg.sub, prg.xi⟩ ir_has_word ([v, w].map some ++ List.replicate (2 - 2) none) h = .ret none (.bl (hasW v ss)) h := by
    cases v with
    | tup xs =>
      cases xs with
      | nil => simp [evSs, evS, evE, evL, evB, isTy_pl _ hp, isTyP, hasW]
      | cons a r =>
        have hl : T.plL (a :: r) = true := by simp [T.pl] at hp; exact hp.2
        have ha : a.pl = true := by simp only [T.plL, Bool.and_eq_true] at hl; exact hl.1
        have c : (0 : Int) < (r.length : Int) + 1 := by omega
        cases a with
        | str x =>
          have ci : cmpT .isin h (.str x) w = some (ss.contains x) := by
            rcases hw with rfl | rfl <;> exact inL_strs x ss
          simp [evSs, evS, evE, evL, evB, isTy_pl _ hp, isTy_pl _ ha, isTyP, hasW, at0, c, ci]
        | _ => simp [evSs, evS, evE, evL, evB, isTy_pl _ hp, isTy_pl _ ha, isTyP, hasW, at0, c]
    | _ => simp [evSs, evS, evE, evL, evB, isTy_pl _ hp, isTyP, hasW]
  rw [e]
  exact end_ret0 (.inl rfl) rfl
end LW
end
section
set_option maxRecDepth 100000
set_option maxHeartbeats 1000000
namespace LW
open PySem PS
theorem ret_of {C : PS.Ctx} {e : IE} {env : PS.Env} {h h1 : AH} {t : T} (q : evE C e env h = .ok t h1) : evS C (.ret false e) env h = .ret none t h1 := by
  unfold evS
  rw [q]
  rfl
theorem ife_t {C : PS.Ctx} {c : IE} {a b : ISs} {env : PS.Env} {h h1 : AH} (q : evB C c env h = .ok true h1) : evS C (.ife c a b) env h = evSs C a env h1 := by
  rw [evS, q]
  rfl
theorem ife_f {C : PS.Ctx} {c : IE} {a b : ISs} {env : PS.Env} {h h1 : AH} (q : evB C c env h = .ok false h1) : evS C (.ife c a b) env h = evSs C b env h1 := by
  rw [evS, q]
  rfl
theorem ife_ret {C : PS.Ctx} {c e : IE} {r : ISs} {env : PS.Env} {h h1 h2 : AH} {t : T} (q : evB C c env h = .ok true h1) (q2 : evE C e env h1 = .ok t h2) : evSs C (.cons (.ife c (.cons (.ret false e) .nil) .nil) r) env h = .ret none t h2 :=
  ss_ret ((ife_t q).trans (ss_ret (ret_of q2)))
theorem ife_no {C : PS.Ctx} {c : IE} {a r : ISs} {env : PS.Env} {h h1 : AH} (q : evB C c env h = .ok false h1) : evSs C (.cons (.ife c a .nil) r) env h = evSs C r env h1 :=
  ss_next ((ife_f q).trans rfl)
theorem and_t {C : PS.Ctx} {a b : IE} {env : PS.Env} {h h1 : AH} (q : evE C a env h = .ok (.bl true) h1) : evE C (.and a b) env h = evE C b env h1 := by
  rw [evE, q]; rfl
theorem and_f {C : PS.Ctx} {a b : IE} {env : PS.Env} {h h1 : AH} (q : evE C a env h = .ok (.bl false) h1) : evE C (.and a b) env h = .ok (.bl false) h1 := by
  rw [evE, q]; rfl
theorem band_t {C : PS.Ctx} {a b : IE} {env : PS.Env} {h h1 : AH} (q : evB C a env h = .ok true h1) : evB C (.and a b) env h = evB C b env h1 := by
  rw [evB, q]; rfl
theorem band_f {C : PS.Ctx} {a b : IE} {env : PS.Env} {h h1 : AH} (q : evB C a env h = .ok false h1) : evB C (.and a b) env h = .ok false h1 := by
  rw [evB, q]; rfl
theorem bor_t {C : PS.Ctx} {a b : IE} {env : PS.Env} {h h1 : AH} (q : evB C a env h = .ok true h1) : evB C (.or a b) env h = .ok true h1 := by
  rw [evB, q]; rfl
theorem bor_f {C : PS.Ctx} {a b : IE} {env : PS.Env} {h h1 : AH} (q : evB C a env h = .ok false h1) : evB C (.or a b) env h = evB C b env h1 := by
  rw [evB, q]; rfl
theorem bnot {C : PS.Ctx} {a : IE} {env : PS.Env} {h h1 : AH} {b : Bool} (q : evB C a env h = .ok b h1) : evB C (.not a) env h = .ok (!b) h1 := by
  rw [evB, q]; rfl
theorem bcall {C : PS.Ctx} {f : Nat} {es : IL} {env : PS.Env} {h h1 : AH} {b : Bool} (q : evE C (.call f es) env h = .ok (.bl b) h1) : evB C (.call f es) env h = .ok b h1 := by
  show R.isB (evE C (.call f es) env h) = _
  rw [q]; rfl
theorem bcmp {C : PS.Ctx} {o : Co} {x y : IE} {env : PS.Env} {h h1 : AH} {b : Bool} (q : evE C (.cmp o x y) env h = .ok (.bl b) h1) : evB C (.cmp o x y) env h = .ok b h1 := by
  show R.isB (evE C (.cmp o x y) env h) = _
  rw [q]; rfl
theorem ecall {k n0 f : Nat} {es : IL} {env : PS.Env} {h h1 h2 : AH} {xs : List T} {t : T} (q : evL ⟨runFn prg k, n0, prg.sub, prg.xi⟩ es env h = .ok xs h1) (q2 : runFn prg k f xs h1 = .ok t h2) : evE ⟨runFn prg k, n0, prg.sub, prg.xi⟩ (.call f es) env h = .ok t h2 := by
  rw [evE, q, R.bind_ok]
  dsimp only
  exact q2
theorem ecmp {C : PS.Ctx} {o : Co} {x y : IE} {env : PS.Env} {h h1 h2 : AH} {a b : T} {k : Bool} (q : evE C x env h = .ok a h1) (q2 : evE C y env h1 = .ok b h2) (q3 : cmpT o h2 a b = some k) : evE C (.cmp o x y) env h = .ok (.bl k) h2 := by
  rw [evE, q, R.bind_ok, q2, R.bind_ok, q3]; rfl
theorem eidx {C : PS.Ctx} {x y : IE} {env : PS.Env} {h h1 h2 : AH} {a b t : T} (q : evE C x env h = .ok a h1) (q2 : evE C y env h1 = .ok b h2) (q3 : idxT h2 a b = some t) : evE C (.idx x y) env h = .ok t h2 := by
  rw [evE, q, R.bind_ok, q2, R.bind_ok, q3]; rfl
theorem elen {C : PS.Ctx} {i : Nat} {m : Int} {n : Nat} {xs : List T} {env : PS.Env} {h : AH} (q : evE C (.var i) env h = .ok (.tup xs) h) (hm : m = n) : evE C (.cmp .eq (.bf false .len (.cons (.var i) .nil)) (.cst (.int m))) env h = .ok (.bl (decide (xs.length = n))) h := by
  have e1 : evE C (.bf false .len (.cons (.var i) .nil)) env h = .ok (.int xs.length) h := by
    rw [evE, evL, q, R.bind_ok, evL, R.bind_ok, R.bind_ok]; rfl
  refine ecmp e1 (show evE C (.cst (.int m)) env h = .ok (.int m) h from rfl) ?_
  rw [cmp_eq_int, hm]
  have : decide ((xs.length : Int) = (n : Int)) = decide (xs.length = n) := by
    by_cases c : xs.length = n
    · simp [c]
    · have : ¬ (xs.length : Int) = n := by omega
      simp [c, this]
  rw [this]
def txOnly : List T → Bool
  | [t] => isTx t
  | _ => false
def isQ (v : T) : Bool := match v with
  | .tup (.str w :: r) => if w = "longest" then r.isEmpty else (decide (w = "text") || decide (w = "readings")) && txOnly r
  | _ => false
abbrev qWs : List Str := ["text", "readings", "longest"]
theorem hasW_of {v : T} {ss : List Str} (h : hasW v ss = true) : ∃ w r, v = .tup (.str w :: r) ∧ w ∈ ss := by
  unfold hasW at h
  split at h
  · rename_i w r
    exact ⟨w, r, rfl, by simpa using h⟩
  · cases h
theorem isQ_has {v : T} (h : hasW v qWs = false) : isQ v = false := by
  unfold isQ
  split
  · rename_i w r
    simp [hasW] at h
    simp [h]
  · rfl
theorem p_is_question (k : Nat) (h : AH) (p v : T) (hp : v.pl = true) : runFn prg (k + 3) 29 [p, v] h = .ok (.bl (isQ v)) h := by
  rw [run_eq (fn := ⟨2, 2, true, ir_is_question⟩) rfl rfl]
  have e : evSs ⟨runFn prg (k + 2), h.length, prg.sub, prg.xi⟩ ir_is_question ([p, v].map some ++ List.replicate (2 - 2) none) h = .ret none (.bl (isQ v)) h := by
    have z3 : [T.str "text", .str "readings", .str "longest"].length ≤ sizeLine := thou_line (by simp)
    have eA : evL ⟨runFn prg (k + 2), h.length, prg.sub, prg.xi⟩ (.cons (.var 1) (.cons (.tup (.cons (.cst (.str "text")) (.cons (.cst (.str "readings")) (.cons (.cst (.str "longest")) .nil)))) .nil)) [some p, some v] h = .ok [v, .tup (qWs.map T.str)] h := by
      rw [evL, show evE ⟨runFn prg (k + 2), h.length, prg.sub, prg.xi⟩ (.var 1) [some p, some v] h = .ok v h from rfl, R.bind_ok, evL, evE, show evL ⟨runFn prg (k + 2), h.length, prg.sub, prg.xi⟩ (.cons (.cst (.str "text")) (.cons (.cst (.str "readings")) (.cons (.cst (.str "longest")) .nil))) [some p, some v] h = .ok [.str "text", .str "readings", .str "longest"] h from rfl, R.bind_ok, if_pos z3, R.bind_ok, evL, R.bind_ok, R.bind_ok]
      rfl
    have c1 := bnot (bcall (ecall eA (p_has_word (k + 1) h v _ qWs hp (.inl rfl))))
    cases hq : hasW v qWs with
    | false =>
      rw [hq] at c1
      rw [isQ_has hq]
      exact ife_ret c1 rfl
    | true =>
      rw [hq] at c1
      refine (ife_no c1).trans ?_
      obtain ⟨w, r, rfl, hw⟩ := hasW_of hq
      have hl : T.plL r = true := by
        simp [T.pl, T.plL] at hp; exact hp.2.2
      have ev : evE ⟨runFn prg (k + 2), h.length, prg.sub, prg.xi⟩ (.var 1) [some p, some (.tup (.str w :: r))] h = .ok (.tup (.str w :: r)) h := rfl
      have c2 := bcmp (ecmp (C := ⟨runFn prg (k + 2), h.length, prg.sub, prg.xi⟩) (o := .eq) (eidx ev (y := .cst (.int 0)) rfl at0) (y := .cst (.str "longest")) rfl (cmp_eq_str (x := w) (y := "longest")))
      by_cases hlo : w = "longest"
      · rw [decide_eq_true hlo] at c2
        have l1 := elen (m := 1) (n := 1) ev rfl
        rw [show isQ (.tup (.str w :: r)) = decide ((T.str w :: r).length = 1) from by
          simp only [isQ, if_pos hlo]
          cases r <;> simp]
        exact ife_ret c2 l1
      · rw [decide_eq_false hlo] at c2
        refine (ife_no c2).trans (ss_ret (ret_of ?_))
        have l2 := elen (m := 2) (n := 2) ev rfl
        have hw2 : (decide (w = "text") || decide (w = "readings")) = true := by
          simp at hw
          rcases hw with rfl | rfl | rfl
          · rfl
          · rfl
          · exact absurd rfl hlo
        have eq : isQ (.tup (.str w :: r)) = txOnly r := by
          simp only [isQ, if_neg hlo, hw2, Bool.true_and]
        rw [eq]
        match r, hl, l2, ev with
        | [], _, l2, _ => exact and_f l2
        | [t], hl, l2, ev =>
          have ht : t.pl = true := by simp only [T.plL, Bool.and_eq_true] at hl; exact hl.1
          refine (and_t l2).trans ?_
          have e1 : evL ⟨runFn prg (k + 2), h.length, prg.sub, prg.xi⟩ (.cons (.idx (.var 1) (.cst (.int 1))) .nil) [some p, some (.tup [.str w, t])] h = .ok [t] h := by
            rw [evL, eidx ev (y := .cst (.int 1)) rfl at1, R.bind_ok, evL, R.bind_ok]
          exact ecall e1 (p_is_text k h t ht)
        | a :: b :: q, _, l2, _ =>
          rw [decide_eq_false (by simp)] at l2
          exact and_f l2
  rw [e]
  exact end_ret0 (.inl rfl) rfl
end LW
end
section
set_option maxRecDepth 100000
set_option maxHeartbeats 1000000
namespace LW
open PySem PS
def nOnly : List T → Bool
  | [t] => isN t
  | _ => false
def txN : List T → Bool
  | [t, n] => isTx t && isN n
  | _ => false
def isC (v : T) : Bool := match v with
  | .tup (.str w :: r) => if w = "any" ∨ w = "nothing" then r.isEmpty else if w = "longest" then nOnly r else if w = "readings" then txN r else (decide (w = "told") || decide (w = "not told")) && txOnly r
  | _ => false
abbrev cWs : List Str := ["told", "not told", "readings", "longest", "any", "nothing"]
theorem isC_has {v : T} (h : hasW v cWs = false) : isC v = false := by
  unfold isC
  split
  · rename_i w r
    simp [hasW] at h
    simp [h]
  · rfl
theorem decide_or {p q : Prop} [Decidable p] [Decidable q] {C : PS.Ctx} {a b : IE} {env : PS.Env} {h : AH} (e1 : evB C a env h = .ok (decide p) h) (e2 : evB C b env h = .ok (decide q) h) : evB C (.or a b) env h = .ok (decide (p ∨ q)) h := by
  by_cases c : p
  · rw [decide_eq_true c] at e1
    rw [bor_t e1, decide_eq_true (.inl c)]
  · rw [decide_eq_false c] at e1
    rw [bor_f e1, e2]
    simp [c]
theorem p_is_claim (k : Nat) (h : AH) (p v : T) (hp : v.pl = true) : runFn prg (k + 3) 30 [p, v] h = .ok (.bl (isC v)) h := by
  rw [run_eq (fn := ⟨2, 3, true, ir_is_claim⟩) rfl rfl]
  have e : evSs ⟨runFn prg (k + 2), h.length, prg.sub, prg.xi⟩ ir_is_claim ([p, v].map some ++ List.replicate (3 - 2) none) h = .ret none (.bl (isC v)) h := by
    have f6 : PS.fresh false [T.str "told", .str "not told", .str "readings", .str "longest", .str "any", .str "nothing"] h = .ok (.lst [T.str "told", .str "not told", .str "readings", .str "longest", .str "any", .str "nothing"]) h := fresh_f (thou_line (by simp))
    have eA : evL ⟨runFn prg (k + 2), h.length, prg.sub, prg.xi⟩ (.cons (.var 1) (.cons (.lst false (.cons (.cst (.str "told")) (.cons (.cst (.str "not told")) (.cons (.cst (.str "readings")) (.cons (.cst (.str "longest")) (.cons (.cst (.str "any")) (.cons (.cst (.str "nothing")) .nil))))))) .nil)) [some p, some v, none] h = .ok [v, .lst (cWs.map T.str)] h := by
      rw [evL, show evE ⟨runFn prg (k + 2), h.length, prg.sub, prg.xi⟩ (.var 1) [some p, some v, none] h = .ok v h from rfl, R.bind_ok, evL, evE, show evL ⟨runFn prg (k + 2), h.length, prg.sub, prg.xi⟩ (.cons (.cst (.str "told")) (.cons (.cst (.str "not told")) (.cons (.cst (.str "readings")) (.cons (.cst (.str "longest")) (.cons (.cst (.str "any")) (.cons (.cst (.str "nothing")) .nil)))))) [some p, some v, none] h = .ok [T.str "told", .str "not told", .str "readings", .str "longest", .str "any", .str "nothing"] h from rfl, R.bind_ok, f6, R.bind_ok, evL, R.bind_ok, R.bind_ok]
      rfl
    have c1 := bnot (bcall (ecall eA (p_has_word (k + 1) h v _ cWs hp (.inr rfl))))
    cases hq : hasW v cWs with
    | false =>
      rw [hq] at c1
      rw [isC_has hq]
      exact ife_ret c1 rfl
    | true =>
      rw [hq] at c1
      refine (ife_no c1).trans ?_
      obtain ⟨w, r, rfl, hw⟩ := hasW_of hq
      have hl : T.plL r = true := by
        simp [T.pl, T.plL] at hp; exact hp.2.2
      have s2 : evS ⟨runFn prg (k + 2), h.length, prg.sub, prg.xi⟩ (.asg (.nm 2) (.idx (.var 1) (.cst (.int 0)))) [some p, some (.tup (.str w :: r)), none] h = .next [some p, some (.tup (.str w :: r)), some (.str w)] h := by
        simp [evS, evE, at0, TG.asg]
      refine (ss_next s2).trans ?_
      have ev : evE ⟨runFn prg (k + 2), h.length, prg.sub, prg.xi⟩ (.var 1) [some p, some (.tup (.str w :: r)), some (.str w)] h = .ok (.tup (.str w :: r)) h := rfl
      have ew : evE ⟨runFn prg (k + 2), h.length, prg.sub, prg.xi⟩ (.var 2) [some p, some (.tup (.str w :: r)), some (.str w)] h = .ok (.str w) h := rfl
      have cq : ∀ z : Str, evB ⟨runFn prg (k + 2), h.length, prg.sub, prg.xi⟩ (.cmp .eq (.var 2) (.cst (.str z))) [some p, some (.tup (.str w :: r)), some (.str w)] h = .ok (decide (w = z)) h := fun z => bcmp (ecmp ew (y := .cst (.str z)) rfl cmp_eq_str)
      have c2 := decide_or (cq "any") (cq "nothing")
      by_cases h1 : w = "any" ∨ w = "nothing"
      · rw [decide_eq_true h1] at c2
        rw [show isC (.tup (.str w :: r)) = decide ((T.str w :: r).length = 1) from by
          simp only [isC, if_pos h1]
          cases r <;> simp]
        exact ife_ret c2 (elen (m := 1) (n := 1) ev rfl)
      · rw [decide_eq_false h1] at c2
        refine (ife_no c2).trans ?_
        have c3 := cq "longest"
        have l2 := elen (m := 2) (n := 2) ev rfl
        have l3 := elen (m := 3) (n := 3) ev rfl
        by_cases h2 : w = "longest"
        · rw [decide_eq_true h2] at c3
          rw [show isC (.tup (.str w :: r)) = nOnly r from by simp only [isC, if_neg h1, if_pos h2]]
          refine ife_ret c3 ?_
          match r, hl, l2, ev with
          | [], _, l2, _ => exact and_f l2
          | [t], hl, l2, ev =>
            have ht : t.pl = true := by simp only [T.plL, Bool.and_eq_true] at hl; exact hl.1
            refine (and_t l2).trans ?_
            have e1 : evL ⟨runFn prg (k + 2), h.length, prg.sub, prg.xi⟩ (.cons (.idx (.var 1) (.cst (.int 1))) .nil) [some p, some (.tup [.str w, t]), some (.str w)] h = .ok [t] h := by
              rw [evL, eidx ev (y := .cst (.int 1)) rfl at1, R.bind_ok, evL, R.bind_ok]
            exact ecall e1 (p_is_number k h t ht)
          | a :: b :: q, _, l2, _ =>
            rw [decide_eq_false (by simp)] at l2
            exact and_f l2
        · rw [decide_eq_false h2] at c3
          refine (ife_no c3).trans ?_
          have c4 := cq "readings"
          by_cases h3 : w = "readings"
          · rw [decide_eq_true h3] at c4
            rw [show isC (.tup (.str w :: r)) = txN r from by simp only [isC, if_neg h1, if_neg h2, if_pos h3]]
            refine ife_ret c4 ?_
            match r, hl, l3, ev with
            | [], _, l3, _ => exact and_f l3
            | [t], _, l3, _ => exact and_f l3
            | [t, n], hl, l3, ev =>
              simp only [T.plL, Bool.and_eq_true] at hl
              refine (and_t l3).trans ?_
              have e1 : evL ⟨runFn prg (k + 2), h.length, prg.sub, prg.xi⟩ (.cons (.idx (.var 1) (.cst (.int 1))) .nil) [some p, some (.tup [.str w, t, n]), some (.str w)] h = .ok [t] h := by
                rw [evL, eidx ev (y := .cst (.int 1)) rfl at1, R.bind_ok, evL, R.bind_ok]
              have e2 : evL ⟨runFn prg (k + 2), h.length, prg.sub, prg.xi⟩ (.cons (.idx (.var 1) (.cst (.int 2))) .nil) [some p, some (.tup [.str w, t, n]), some (.str w)] h = .ok [n] h := by
                rw [evL, eidx ev (y := .cst (.int 2)) rfl at2, R.bind_ok, evL, R.bind_ok]
              have q1 := ecall e1 (p_is_text k h t hl.1)
              have q2 := ecall e2 (p_is_number k h n hl.2.1)
              show _ = R.ok (T.bl (isTx t && isN n)) h
              cases ht : isTx t with
              | true => rw [ht] at q1; exact (and_t q1).trans q2
              | false => rw [ht] at q1; exact and_f q1
            | a :: b :: c :: q, _, l3, _ =>
              rw [decide_eq_false (by simp)] at l3
              exact and_f l3
          · rw [decide_eq_false h3] at c4
            refine (ife_no c4).trans (ss_ret (ret_of ?_))
            have hw2 : (decide (w = "told") || decide (w = "not told")) = true := by
              simp at hw
              rcases hw with rfl | rfl | rfl | rfl | rfl | rfl
              · rfl
              · rfl
              · exact absurd rfl h3
              · exact absurd rfl h2
              · exact absurd (.inl rfl) h1
              · exact absurd (.inr rfl) h1
            rw [show isC (.tup (.str w :: r)) = txOnly r from by simp only [isC, if_neg h1, if_neg h2, if_neg h3, hw2, Bool.true_and]]
            match r, hl, l2, ev with
            | [], _, l2, _ => exact and_f l2
            | [t], hl, l2, ev =>
              have ht : t.pl = true := by simp only [T.plL, Bool.and_eq_true] at hl; exact hl.1
              refine (and_t l2).trans ?_
              have e1 : evL ⟨runFn prg (k + 2), h.length, prg.sub, prg.xi⟩ (.cons (.idx (.var 1) (.cst (.int 1))) .nil) [some p, some (.tup [.str w, t]), some (.str w)] h = .ok [t] h := by
                rw [evL, eidx ev (y := .cst (.int 1)) rfl at1, R.bind_ok, evL, R.bind_ok]
              exact ecall e1 (p_is_text k h t ht)
            | a :: b :: q, _, l2, _ =>
              rw [decide_eq_false (by simp)] at l2
              exact and_f l2
  rw [e]
  exact end_ret0 (.inl rfl) rfl
theorem isC_cases {v : T} (h : isC v = true) : (∃ w, v = .tup [.str w] ∧ (w = "any" ∨ w = "nothing")) ∨ (∃ n, v = .tup [.str "longest", n]) ∨ (∃ t n, v = .tup [.str "readings", t, n]) ∨ (∃ w t, v = .tup [.str w, t] ∧ (w = "told" ∨ w = "not told")) := by
  unfold isC at h
  split at h
  · rename_i w r
    split at h
    · rename_i h1
      cases r with
      | nil => exact .inl ⟨w, rfl, h1⟩
      | cons _ _ => simp at h
    · split at h
      · rename_i h2
        subst h2
        match r, h with
        | [n], _ => exact .inr (.inl ⟨n, rfl⟩)
        | [], h => cases h
        | _ :: _ :: _, h => cases h
      · split at h
        · rename_i h3
          subst h3
          match r, h with
          | [t, n], _ => exact .inr (.inr (.inl ⟨t, n, rfl⟩))
          | [], h => cases h
          | [_], h => cases h
          | _ :: _ :: _ :: _, h => cases h
        · simp only [Bool.and_eq_true, Bool.or_eq_true, decide_eq_true_eq] at h
          match r, h with
          | [t], h => exact .inr (.inr (.inr ⟨w, t, rfl, h.1⟩))
          | [], h => cases h.2
          | _ :: _ :: _, h => cases h.2
  · cases h
def asked : T → T
  | .tup (.str w :: t :: _) => if w = "told" ∨ w = "not told" then .tup [.str "text", t] else if w = "readings" then .tup [.str "readings", t] else .tup [.str "longest"]
  | _ => .tup [.str "longest"]
theorem words_look : zs_WORDS.lookup ("told" : Str) = some (T.str "text") ∧ zs_WORDS.lookup ("not told" : Str) = some (T.str "text") ∧ zs_WORDS.lookup ("readings" : Str) = some (T.str "readings") ∧ zs_WORDS.lookup ("longest" : Str) = some (T.str "longest") ∧ zs_WORDS.lookup ("any" : Str) = some (T.str "longest") ∧ zs_WORDS.lookup ("nothing" : Str) = some (T.str "longest") := ⟨rfl, rfl, rfl, rfl, rfl, rfl⟩
theorem plL_one {a : T} {r : List T} (h : (T.tup (a :: r)).pl = true) : T.plL r = true := by
  simp [T.pl, T.plL] at h; exact h.2.2
theorem asked_pl {v : T} (hp : v.pl = true) : (asked v).pl = true := by
  unfold asked
  split
  · rename_i w t r
    have hr := plL_one hp
    simp only [T.plL, Bool.and_eq_true] at hr
    split
    · exact pl_tag (by decide) hr.1
    · split
      · exact pl_tag (by decide) hr.1
      · rfl
  · rfl
theorem p_question_of (k : Nat) (h : AH) (p v : T) (hp : v.pl = true) (hc : isC v = true) : runFn prg (k + 4) 31 [p, v] h = .ok (asked v) h := by
  rw [run_eq (fn := ⟨2, 3, true, ir_question_of⟩) rfl rfl]
  have q := p_is_claim k h p v hp
  rw [hc] at q
  have z1 : (1 : Nat) ≤ sizeLine := thou_line (by omega)
  have z2 : (2 : Nat) ≤ sizeLine := thou_line (by omega)
  obtain ⟨w1, w2, w3, w4, w5, w6⟩ := words_look
  have n1 : ¬ (("longest" : Str) = "told") := by decide
  have n2 : ¬ (("longest" : Str) = "not told") := by decide
  have n3 : ¬ (("longest" : Str) = "readings") := by decide
  have n4 : ¬ (("readings" : Str) = "told") := by decide
  have n5 : ¬ (("readings" : Str) = "not told") := by decide
  have n6 : ¬ (("readings" : Str) = "longest") := by decide
  have n7 : ¬ (("text" : Str) = "longest") := by decide
  have e : evSs ⟨runFn prg (k + 3), h.length, prg.sub, prg.xi⟩ ir_question_of ([p, v].map some ++ List.replicate (3 - 2) none) h = .ret none (asked v) h := by
    rcases isC_cases hc with ⟨w, rfl, rfl | rfl⟩ | ⟨n, rfl⟩ | ⟨t, n, rfl⟩ | ⟨w, t, rfl, rfl | rfl⟩
    · simp [evSs, evS, evE, evL, evB, q, at0, w5, z1, TG.asg, asked, n1, n2, n3, n4, n5, n6, n7]
    · simp [evSs, evS, evE, evL, evB, q, at0, w6, z1, TG.asg, asked, n1, n2, n3, n4, n5, n6, n7]
    · simp [evSs, evS, evE, evL, evB, q, at0, w4, z1, TG.asg, asked, n1, n2, n3, n4, n5, n6, n7]
    · simp [evSs, evS, evE, evL, evB, q, at0, at1, w3, z2, TG.asg, asked, n1, n2, n3, n4, n5, n6, n7]
    · simp [evSs, evS, evE, evL, evB, q, at0, at1, w1, z2, TG.asg, asked, n1, n2, n3, n4, n5, n6, n7]
    · simp [evSs, evS, evE, evL, evB, q, at0, at1, w2, z2, TG.asg, asked, n1, n2, n3, n4, n5, n6, n7]
  rw [e]
  exact end_ret0 (.inl rfl) (pl_und _ _ (asked_pl hp))
end LW
end
section
set_option maxRecDepth 100000
set_option maxHeartbeats 1000000
namespace LW
open PySem PS
theorem eq_tnil {h : AH} (xs : List T) (hp : T.plL xs = true) : cmpT .eq h (.tup xs) (.tup []) = some xs.isEmpty := by
  have q := ne_nil (h := h) xs hp
  have q : (eqT (.tup xs) (.tup [])).map (!·) = some (!xs.isEmpty) := q
  show eqT (.tup xs) (.tup []) = _
  cases e : eqT (.tup xs) (.tup []) with
  | none => rw [e] at q; cases q
  | some b =>
    rw [e] at q
    have : (!b) = !xs.isEmpty := Option.some.inj q
    revert this
    cases b <;> cases xs.isEmpty <;> simp
def strTup : T → Bool
  | .tup (.str _ :: _) => true
  | _ => false
abbrev frC : IE := .or (.not (.isi (.var 0) [.tuple])) (.or (.cmp .eq (.var 0) (.tup .nil)) (.not (.isi (.idx (.var 0) (.cst (.int 0))) [.str])))
theorem form_row (k n0 : Nat) (h : AH) (v : T) (hp : v.pl = true) : evB ⟨runFn prg k, n0, prg.sub, prg.xi⟩ frC [some v] h = .ok (!strTup v) h := by
  have z0 : (0 : Nat) ≤ sizeLine := Nat.zero_le _
  cases v with
  | tup xs =>
    have hl : T.plL xs = true := by simp [T.pl] at hp; exact hp.2
    have en := eq_tnil (h := h) xs hl
    cases xs with
    | nil => simp [evE, evL, evB, isTy_pl _ hp, isTyP, en, strTup]
    | cons a r =>
      have ha : a.pl = true := by simp only [T.plL, Bool.and_eq_true] at hl; exact hl.1
      cases a <;> simp [evE, evL, evB, isTy_pl _ hp, isTy_pl _ ha, isTyP, en, strTup, at0]
  | _ => simp [evE, evL, evB, isTy_pl _ hp, isTyP, strTup]
theorem strTup_of {v : T} (h : strTup v = true) : ∃ w r, v = .tup (.str w :: r) := by
  unfold strTup at h
  split at h
  · exact ⟨_, _, rfl⟩
  · cases h
abbrev ltC : IE := .comp false [2] (.nm 2) (.e (.var 0)) (.some (.not (.call 21 (.cons (.var 2) .nil)))) (.var 2)
theorem lt_comp (k n0 : Nat) (h : AH) (xs : List T) (m : Int) (hp : (T.tup xs).pl = true) : evE ⟨runFn prg (k + 1), n0, prg.sub, prg.xi⟩ ltC [some (.tup xs), some (.int m), none] h = .ok (.lst (xs.filter fun r => !(isW r))) h := by
  have hl : T.plL xs = true := by simp [T.pl] at hp; exact hp.2
  have cl := compL_pure (g := TG.nm 2) (cond := fun env h => (evE ⟨runFn prg (k + 1), n0, prg.sub, prg.xi⟩ (.not (.call 21 (.cons (.var 2) .nil))) env h).isB.nox) (elt := fun env h => (evE ⟨runFn prg (k + 1), n0, prg.sub, prg.xi⟩ (.var 2) env h).nox) (chk := (⟨xs, none⟩ : Items).chk) (c := fun r => !(isW r)) (f := fun r => r) (env := wipeE [some (.tup xs), some (.int m), none] [2]) (h := h) trivial (xs := xs) (fun y hy => ⟨[some (.tup xs), some (.int m), some y], rfl, by
    show R.nox (R.isB ((R.isB (runFn prg (k + 1) 21 [y] h)).bind fun b h1 => R.ok (.bl (!b)) h1)) = _
    rw [p_lis_word k h y (plL_mem hl y hy)]; rfl, fun _ => rfl⟩)
  rw [List.map_id'] at cl
  have hz : (xs.filter fun r => !(isW r)).length ≤ sizeLine := by
    refine thou_line (Nat.le_trans (List.length_filter_le _ _) ?_)
    simp [T.pl] at hp; omega
  refine (congrArg (fun r : R (List T) => r.nox.bind fun ts h2 => PS.fresh false ts h2) cl).trans ?_
  rw [R.nox_ok, R.bind_ok, fresh_f hz]
theorem p_lis_text (k : Nat) (h : AH) (t : T) (hp : t.pl = true) : runFn prg (k + 2) 36 [t, .int 8] h = .ok (.bl (isTx t)) h := by
  rw [run_eq (fn := ⟨2, 3, true, ir__law_is_text⟩) rfl rfl]
  have e : evSs ⟨runFn prg (k + 1), h.length, prg.sub, prg.xi⟩ ir__law_is_text ([t, .int 8].map some ++ List.replicate (3 - 2) none) h = .ret none (.bl (isTx t)) h := by
    cases t with
    | tup xs =>
      have hl : T.plL xs = true := by simp [T.pl] at hp; exact hp.2
      have lc := lt_comp k h.length h xs 8 hp
      have en := eq_nil (h := h) (xs.filter fun r => !(isW r)) (plL_filter _ _ hl)
      rw [filter_none] at en
      have i1 : evE ⟨runFn prg (k + 1), h.length, prg.sub, prg.xi⟩ (.isi (.var 0) [.tuple]) [some (.tup xs), some (.int 8), none] h = .ok (.bl true) h := by
        simp [evE, isTy_pl _ hp, isTyP]
      have i2 : evE ⟨runFn prg (k + 1), h.length, prg.sub, prg.xi⟩ (.cmp .le (.bf false .len (.cons (.var 0) .nil)) (.var 1)) [some (.tup xs), some (.int 8), none] h = .ok (.bl (decide (xs.length ≤ 8))) h := by
        have : decide ((xs.length : Int) ≤ 8) = decide (xs.length ≤ 8) := by simp; omega
        simp [evE, evL, this]
      have i3 : evE ⟨runFn prg (k + 1), h.length, prg.sub, prg.xi⟩ (.cmp .eq ltC (.lst false .nil)) [some (.tup xs), some (.int 8), none] h = .ok (.bl (xs.all isW)) h :=
        ecmp lc (show evE ⟨runFn prg (k + 1), h.length, prg.sub, prg.xi⟩ (.lst false .nil) [some (.tup xs), some (.int 8), none] h = .ok (.lst []) h from fresh_f (xs := []) (Nat.zero_le _)) en
      refine ss_ret (ret_of ((and_t i1).trans ?_))
      by_cases c : xs.length ≤ 8
      · rw [decide_eq_true c] at i2
        rw [and_t i2, i3]
        simp [isTx, c]
      · rw [decide_eq_false c] at i2
        rw [and_f i2]
        simp [isTx, c]
    | _ => simp [evSs, evS, evE, evL, evB, isTy_pl _ hp, isTyP, isTx]
  rw [e]
  exact end_ret0 (.inl rfl) rfl
theorem two_in {h : AH} (x a b : Str) : cmpT .isin h (.str x) (.lst [.str a, .str b]) = some (decide (x = a ∨ x = b)) := by
  show inL (.str x) (([a, b] : List Str).map T.str) = _
  rw [inL_strs]
  congr 1
  simp
theorem in_two {k n0 : Nat} {env : PS.Env} {h : AH} {e : IE} {x a b : Str} (q : evE ⟨runFn prg k, n0, prg.sub, prg.xi⟩ e env h = .ok (.str x) h) : evE ⟨runFn prg k, n0, prg.sub, prg.xi⟩ (.cmp .isin e (.lst false (.cons (.cst (.str a)) (.cons (.cst (.str b)) .nil)))) env h = .ok (.bl (decide (x = a ∨ x = b))) h :=
  ecmp q (show evE ⟨runFn prg k, n0, prg.sub, prg.xi⟩ (.lst false (.cons (.cst (.str a)) (.cons (.cst (.str b)) .nil))) env h = .ok (.lst [.str a, .str b]) h from fresh_f (xs := [T.str a, .str b]) (thou_line (by simp))) (two_in x a b)
theorem p_lis_question (k : Nat) (h : AH) (v : T) (hp : v.pl = true) : runFn prg (k + 3) 38 [v] h = .ok (.bl (isQ v)) h := by
  rw [run_eq (fn := ⟨1, 1, true, ir__law_is_question⟩) rfl rfl]
  have e : evSs ⟨runFn prg (k + 2), h.length, prg.sub, prg.xi⟩ ir__law_is_question ([v].map some ++ List.replicate (1 - 1) none) h = .ret none (.bl (isQ v)) h := by
    have c1 := form_row (k + 2) h.length h v hp
    cases hq : strTup v with
    | false =>
      rw [hq] at c1
      have : isQ v = false := by
        unfold isQ
        split
        · cases hq
        · rfl
      rw [this]
      exact ife_ret c1 rfl
    | true =>
      rw [hq] at c1
      refine (ife_no c1).trans ?_
      obtain ⟨w, r, rfl⟩ := strTup_of hq
      have hl : T.plL r = true := plL_one hp
      have ev : evE ⟨runFn prg (k + 2), h.length, prg.sub, prg.xi⟩ (.var 0) [some (.tup (.str w :: r))] h = .ok (.tup (.str w :: r)) h := rfl
      have e0 := eidx ev (y := .cst (.int 0)) rfl at0
      have c2 := bcmp (ecmp (o := .eq) e0 (y := .cst (.str "longest")) rfl (cmp_eq_str (x := w) (y := "longest")))
      by_cases hlo : w = "longest"
      · rw [decide_eq_true hlo] at c2
        have l1 := elen (m := 1) (n := 1) ev rfl
        rw [show isQ (.tup (.str w :: r)) = decide ((T.str w :: r).length = 1) from by
          simp only [isQ, if_pos hlo]
          cases r <;> simp]
        exact ife_ret c2 l1
      · rw [decide_eq_false hlo] at c2
        refine (ife_no c2).trans (ss_ret (ret_of ?_))
        have l2 := elen (m := 2) (n := 2) ev rfl
        have i2 := in_two (a := "text") (b := "readings") e0
        have eq : isQ (.tup (.str w :: r)) = (decide (w = "text" ∨ w = "readings") && txOnly r) := by
          simp only [isQ, if_neg hlo]
          congr 1
          simp
        rw [eq]
        by_cases h2 : w = "text" ∨ w = "readings"
        · rw [decide_eq_true h2] at i2 ⊢
          rw [and_t i2, Bool.true_and]
          match r, hl, l2, ev with
          | [], _, l2, _ => exact and_f l2
          | [t], hl, l2, ev =>
            have ht : t.pl = true := by simp only [T.plL, Bool.and_eq_true] at hl; exact hl.1
            refine (and_t l2).trans ?_
            have e1 : evL ⟨runFn prg (k + 2), h.length, prg.sub, prg.xi⟩ (.cons (.idx (.var 0) (.cst (.int 1))) (.cons (.cst (.int 8)) .nil)) [some (.tup [.str w, t])] h = .ok [t, .int 8] h := by
              rw [evL, eidx ev (y := .cst (.int 1)) rfl at1, R.bind_ok, evL, evE, R.bind_ok, evL, R.bind_ok, R.bind_ok]
            exact ecall e1 (p_lis_text k h t ht)
          | a :: b :: q, _, l2, _ =>
            rw [decide_eq_false (by simp)] at l2
            exact and_f l2
        · rw [decide_eq_false h2] at i2 ⊢
          rw [and_f i2]
          rfl
  rw [e]
  exact end_ret0 (.inl rfl) rfl
theorem ge_zero (k n0 : Nat) {env : PS.Env} {h : AH} {e : IE} {n : T} (hn : n.pl = true) (q : evE ⟨runFn prg (k + 1), n0, prg.sub, prg.xi⟩ e env h = .ok n h) : evE ⟨runFn prg (k + 1), n0, prg.sub, prg.xi⟩ (.and (.call 12 (.cons e .nil)) (.cmp .ge e (.cst (.int 0)))) env h = .ok (.bl (isN n)) h := by
  have e1 : evL ⟨runFn prg (k + 1), n0, prg.sub, prg.xi⟩ (.cons e .nil) env h = .ok [n] h := by
    rw [evL, q, R.bind_ok, evL, R.bind_ok]
  have c1 := ecall e1 (p_whole k h n hn)
  cases n with
  | int i =>
    have c1 : evE ⟨runFn prg (k + 1), n0, prg.sub, prg.xi⟩ (.call 12 (.cons e .nil)) env h = .ok (.bl true) h := c1
    rw [and_t c1]
    exact ecmp q (y := .cst (.int 0)) rfl rfl
  | _ => exact and_f c1
theorem p_claim_form (k : Nat) (h : AH) (v : T) (hp : v.pl = true) : runFn prg (k + 3) 37 [v] h = .ok (.bl (isC v)) h := by
  rw [run_eq (fn := ⟨1, 1, true, ir__law_claim_form⟩) rfl rfl]
  have e : evSs ⟨runFn prg (k + 2), h.length, prg.sub, prg.xi⟩ ir__law_claim_form ([v].map some ++ List.replicate (1 - 1) none) h = .ret none (.bl (isC v)) h := by
    have c1 := form_row (k + 2) h.length h v hp
    cases hq : strTup v with
    | false =>
      rw [hq] at c1
      have : isC v = false := by
        unfold isC
        split
        · cases hq
        · rfl
      rw [this]
      exact ife_ret c1 rfl
    | true =>
      rw [hq] at c1
      refine (ife_no c1).trans ?_
      obtain ⟨w, r, rfl⟩ := strTup_of hq
      have hl : T.plL r = true := plL_one hp
      have ev : evE ⟨runFn prg (k + 2), h.length, prg.sub, prg.xi⟩ (.var 0) [some (.tup (.str w :: r))] h = .ok (.tup (.str w :: r)) h := rfl
      have e0 := eidx ev (y := .cst (.int 0)) rfl at0
      have l1 := elen (m := 1) (n := 1) ev rfl
      have l2 := elen (m := 2) (n := 2) ev rfl
      have l3 := elen (m := 3) (n := 3) ev rfl
      have c2 := bcmp (in_two (a := "told") (b := "not told") e0)
      by_cases h1 : w = "told" ∨ w = "not told"
      · rw [decide_eq_true h1] at c2
        rw [show isC (.tup (.str w :: r)) = txOnly r from by rcases h1 with rfl | rfl <;> rfl]
        refine ife_ret c2 ?_
        match r, hl, l2, ev with
        | [], _, l2, _ => exact and_f l2
        | [t], hl, l2, ev =>
          have ht : t.pl = true := by simp only [T.plL, Bool.and_eq_true] at hl; exact hl.1
          refine (and_t l2).trans ?_
          have e1 : evL ⟨runFn prg (k + 2), h.length, prg.sub, prg.xi⟩ (.cons (.idx (.var 0) (.cst (.int 1))) (.cons (.cst (.int 8)) .nil)) [some (.tup [.str w, t])] h = .ok [t, .int 8] h := by
            rw [evL, eidx ev (y := .cst (.int 1)) rfl at1, R.bind_ok, evL, evE, R.bind_ok, evL, R.bind_ok, R.bind_ok]
          exact ecall e1 (p_lis_text k h t ht)
        | a :: b :: q, _, l2, _ =>
          rw [decide_eq_false (by simp)] at l2
          exact and_f l2
      · rw [decide_eq_false h1] at c2
        refine (ife_no c2).trans ?_
        have cq : ∀ z : Str, evB ⟨runFn prg (k + 2), h.length, prg.sub, prg.xi⟩ (.cmp .eq (.idx (.var 0) (.cst (.int 0))) (.cst (.str z))) [some (.tup (.str w :: r))] h = .ok (decide (w = z)) h := fun z => bcmp (ecmp e0 (y := .cst (.str z)) rfl cmp_eq_str)
        have c3 := cq "readings"
        by_cases h2 : w = "readings"
        · rw [decide_eq_true h2] at c3
          rw [show isC (.tup (.str w :: r)) = txN r from by subst h2; rfl]
          refine ife_ret c3 ?_
          match r, hl, l3, ev with
          | [], _, l3, _ => exact and_f l3
          | [t], _, l3, _ => exact and_f l3
          | [t, n], hl, l3, ev =>
            simp only [T.plL, Bool.and_eq_true] at hl
            refine (and_t l3).trans ?_
            have e1 : evL ⟨runFn prg (k + 2), h.length, prg.sub, prg.xi⟩ (.cons (.idx (.var 0) (.cst (.int 1))) (.cons (.cst (.int 8)) .nil)) [some (.tup [.str w, t, n])] h = .ok [t, .int 8] h := by
              rw [evL, eidx ev (y := .cst (.int 1)) rfl at1, R.bind_ok, evL, evE, R.bind_ok, evL, R.bind_ok, R.bind_ok]
            have q1 := ecall e1 (p_lis_text k h t hl.1)
            have q2 := ge_zero (k + 1) h.length hl.2.1 (eidx ev (y := .cst (.int 2)) rfl at2)
            show _ = R.ok (T.bl (isTx t && isN n)) h
            cases ht : isTx t with
            | true => rw [ht] at q1; exact (and_t q1).trans q2
            | false => rw [ht] at q1; exact and_f q1
          | a :: b :: c :: q, _, l3, _ =>
            rw [decide_eq_false (by simp)] at l3
            exact and_f l3
        · rw [decide_eq_false h2] at c3
          refine (ife_no c3).trans ?_
          have c4 := cq "longest"
          by_cases h3 : w = "longest"
          · rw [decide_eq_true h3] at c4
            rw [show isC (.tup (.str w :: r)) = nOnly r from by subst h3; rfl]
            refine ife_ret c4 ?_
            match r, hl, l2, ev with
            | [], _, l2, _ => exact and_f l2
            | [n], hl, l2, ev =>
              have hn : n.pl = true := by simp only [T.plL, Bool.and_eq_true] at hl; exact hl.1
              refine (and_t l2).trans ?_
              exact ge_zero (k + 1) h.length hn (eidx ev (y := .cst (.int 1)) rfl at1)
            | a :: b :: q, _, l2, _ =>
              rw [decide_eq_false (by simp)] at l2
              exact and_f l2
          · rw [decide_eq_false h3] at c4
            refine (ife_no c4).trans (ss_ret (ret_of ?_))
            have i2 := in_two (a := "any") (b := "nothing") e0
            by_cases h4 : w = "any" ∨ w = "nothing"
            · rw [decide_eq_true h4] at i2
              rw [and_t i2, l1, show isC (.tup (.str w :: r)) = decide ((T.str w :: r).length = 1) from by
                simp only [isC, if_pos h4]
                cases r <;> simp]
            · rw [decide_eq_false h4] at i2
              rw [and_f i2, show isC (.tup (.str w :: r)) = false from by
                have hn : (decide (w = "told") || decide (w = "not told")) = false := by simpa using h1
                simp only [isC, if_neg h4, if_neg h3, if_neg h2, hn, Bool.false_and]]
  rw [e]
  exact end_ret0 (.inl rfl) rfl
end LW
end
section
set_option maxRecDepth 100000
set_option maxHeartbeats 1000000
namespace LW
open PySem PS
theorem cutL_upto (xs : List T) (n : Nat) : cutL xs none (some (n : Int)) = xs.take n := by
  unfold cutL
  rw [HT.sIx_none, HT.sIx_nat]
  simp
theorem p_asked (k : Nat) (h : AH) (v : T) (hp : v.pl = true) (hc : isC v = true) : runFn prg (k + 1) 39 [v] h = .ok (asked v) h := by
  rw [run_eq (fn := ⟨1, 1, true, ir__law_asked⟩) rfl rfl]
  have z1 : (1 : Nat) ≤ sizeLine := thou_line (by omega)
  have z2 : (2 : Nat) ≤ sizeLine := thou_line (by omega)
  have n1 : ¬ (("longest" : Str) = "told") := by decide
  have n2 : ¬ (("longest" : Str) = "not told") := by decide
  have n3 : ¬ (("longest" : Str) = "readings") := by decide
  have n4 : ¬ (("readings" : Str) = "told") := by decide
  have n5 : ¬ (("readings" : Str) = "not told") := by decide
  have n8 : ¬ (("any" : Str) = "told") := by decide
  have n9 : ¬ (("any" : Str) = "not told") := by decide
  have m1 : ¬ (("any" : Str) = "readings") := by decide
  have m2 : ¬ (("nothing" : Str) = "told") := by decide
  have m3 : ¬ (("nothing" : Str) = "not told") := by decide
  have m4 : ¬ (("nothing" : Str) = "readings") := by decide
  have f2 : ∀ (x y : T) (h : AH), PS.fresh false [x, y] h = .ok (.lst [x, y]) h := fun x y h => fresh_f (thou_line (by simp))
  have ti : ∀ x : Str, cmpT .isin h (.str x) (.lst [.str "told", .str "not told"]) = some (decide (x = "told" ∨ x = "not told")) := fun x => two_in x _ _
  have e : evSs ⟨runFn prg k, h.length, prg.sub, prg.xi⟩ ir__law_asked ([v].map some ++ List.replicate (1 - 1) none) h = .ret none (asked v) h := by
    rcases isC_cases hc with ⟨w, rfl, rfl | rfl⟩ | ⟨n, rfl⟩ | ⟨t, n, rfl⟩ | ⟨w, t, rfl, rfl | rfl⟩
    · simp [evSs, evS, evE, evL, evB, at0, ti, f2, z1, asked, n8, n9, m1]
    · simp [evSs, evS, evE, evL, evB, at0, ti, f2, z1, asked, m2, m3, m4]
    · simp [evSs, evS, evE, evL, evB, at0, ti, f2, z1, asked, n1, n2, n3]
    · have cu : cutL [T.str "readings", t, n] none (some 2) = [T.str "readings", t] := cutL_upto _ 2
      simp [evSs, evS, evE, evL, evB, evO, at0, ti, f2, asked, n4, n5, slc_tup, cu]
    · simp [evSs, evS, evE, evL, evB, at0, at1, ti, f2, z2, asked]
    · simp [evSs, evS, evE, evL, evB, at0, at1, ti, f2, z2, asked]
  rw [e]
  exact end_ret0 (.inl rfl) (pl_und _ _ (asked_pl hp))
theorem ife_rais {C : PS.Ctx} {c e : IE} {r : ISs} {env : PS.Env} {h h1 h2 : AH} {t : T} {k : Nat} (q : evB C c env h = .ok true h1) (q2 : evE C e env h1 = .ok t h2) : evSs C (.cons (.ife c (.cons (.rais k e) .nil) .nil) r) env h = .exc k t env h2 := by
  have s : evS C (.ife c (.cons (.rais k e) .nil) .nil) env h = .exc k t env h2 := by
    refine (ife_t q).trans ?_
    have s2 : evS C (.rais k e) env h1 = .exc k t env h2 := by
      rw [evS, q2]; rfl
    rw [evSs, s2]
  rw [evSs, s]
theorem p_answer_exc (k : Nat) (h : AH) (p v : T) (hp : v.pl = true) (hq : isQ v = false) : runFn prg (k + 4) 32 [p, v] h = .exc 5 v h := by
  rw [run_eq (fn := ⟨2, 4, true, ir_answer_of⟩) rfl rfl]
  have eL : evL ⟨runFn prg (k + 3), h.length, prg.sub, prg.xi⟩ (.cons (.var 0) (.cons (.var 1) .nil)) [some p, some v, none, none] h = .ok [p, v] h := rfl
  have q := p_is_question k h p v hp
  rw [hq] at q
  have c1 := bnot (bcall (ecall eL q))
  have e : evSs ⟨runFn prg (k + 3), h.length, prg.sub, prg.xi⟩ ir_answer_of ([p, v].map some ++ List.replicate (4 - 2) none) h = .exc 5 v [some p, some v, none, none] h := ife_rais c1 rfl
  rw [e]
  exact end_exc hp
theorem asg_exc {C : PS.Ctx} {g : TG} {e : IE} {r : ISs} {env : PS.Env} {h h1 : AH} {t : T} {c : Nat} (q : evE C e env h = .exc c t h1) : evSs C (.cons (.asg g e) r) env h = .exc c t env h1 := by
  have s : evS C (.asg g e) env h = .exc c t env h1 := by
    rw [evS, q]; rfl
  rw [evSs, s]
theorem ex_exc {C : PS.Ctx} {e : IE} {r : ISs} {env : PS.Env} {h h1 : AH} {t : T} {c : Nat} (q : evE C e env h = .exc c t h1) : evSs C (.cons (.ex e) r) env h = .exc c t env h1 := by
  have s : evS C (.ex e) env h = .exc c t env h1 := by
    rw [evS, q]; rfl
  rw [evSs, s]
theorem xcall {k n0 f c : Nat} {es : IL} {env : PS.Env} {h h1 h2 : AH} {xs : List T} {t : T} (q : evL ⟨runFn prg k, n0, prg.sub, prg.xi⟩ es env h = .ok xs h1) (q2 : runFn prg k f xs h1 = .exc c t h2) : evE ⟨runFn prg k, n0, prg.sub, prg.xi⟩ (.call f es) env h = .exc c t h2 := by
  rw [evE, q, R.bind_ok]
  dsimp only
  exact q2
theorem p_paper_exc (k : Nat) (h : AH) (p v : T) (hp : v.pl = true) (hq : isQ v = false) : runFn prg (k + 5) 33 [p, v] h = .exc 5 v h := by
  rw [run_eq (fn := ⟨2, 4, true, ir_paper_of⟩) rfl rfl]
  have eL : evL ⟨runFn prg (k + 4), h.length, prg.sub, prg.xi⟩ (.cons (.var 0) (.cons (.var 1) .nil)) [some p, some v, none, none] h = .ok [p, v] h := rfl
  have e : evSs ⟨runFn prg (k + 4), h.length, prg.sub, prg.xi⟩ ir_paper_of ([p, v].map some ++ List.replicate (4 - 2) none) h = .exc 5 v [some p, some v, none, none] h := asg_exc (xcall eL (p_answer_exc k h p v hp hq))
  rw [e]
  exact end_exc hp
theorem p_question_exc (k : Nat) (h : AH) (p v : T) (hp : v.pl = true) (hq : isC v = false) : runFn prg (k + 4) 31 [p, v] h = .exc 6 v h := by
  rw [run_eq (fn := ⟨2, 3, true, ir_question_of⟩) rfl rfl]
  have eL : evL ⟨runFn prg (k + 3), h.length, prg.sub, prg.xi⟩ (.cons (.var 0) (.cons (.var 1) .nil)) [some p, some v, none] h = .ok [p, v] h := rfl
  have q := p_is_claim k h p v hp
  rw [hq] at q
  have c1 := bnot (bcall (ecall eL q))
  have e : evSs ⟨runFn prg (k + 3), h.length, prg.sub, prg.xi⟩ ir_question_of ([p, v].map some ++ List.replicate (3 - 2) none) h = .exc 6 v [some p, some v, none] h := ife_rais c1 rfl
  rw [e]
  exact end_exc hp
theorem tag_three {w : Str} {n0 : Nat} {h : AH} {v a b x : T} {c k f : Nat} (hv : v.pl = true) (hw : w.length ≤ 1000) (hx : prg.xi c = f) :
    evSs ⟨runFn prg k, n0, prg.sub, prg.xi⟩ (.cons (.ret true (.tup (.cons (.cst (.str w)) (.cons (.fle (.var 3) f) .nil)))) .nil) [some a, some b, some x, some (.exn c v)] h = .ret (some n0) (.tup [.str w, v]) h := by
  have ef : evE ⟨runFn prg k, n0, prg.sub, prg.xi⟩ (.fle (.var 3) f) [some a, some b, some x, some (.exn c v)] h = .ok v h := by
    show (if prg.xi c = f then R.ok v h else .stuck) = _
    rw [if_pos hx]
  have eL : evL ⟨runFn prg k, n0, prg.sub, prg.xi⟩ (.cons (.cst (.str w)) (.cons (.fle (.var 3) f) .nil)) [some a, some b, some x, some (.exn c v)] h = .ok [.str w, v] h := by
    rw [evL, evE, R.bind_ok, evL, ef, R.bind_ok, evL, R.bind_ok, R.bind_ok]
  have eE : evE ⟨runFn prg k, n0, prg.sub, prg.xi⟩ (.tup (.cons (.cst (.str w)) (.cons (.fle (.var 3) f) .nil))) [some a, some b, some x, some (.exn c v)] h = .ok (.tup [.str w, v]) h := by
    rw [evE, eL, R.bind_ok, if_pos (thou_line (by simp))]
  refine ss_ret ?_
  unfold evS
  rw [eE, R.toS_ok]
  show (match frzV n0 h 4 (.tup [.str w, v]) with
      | some t' => RS.ret (some n0) t' h
      | none => .stuck) = _
  rw [frz_pl 4 _ (pl_tag hw hv)]
abbrev erB : ISs := .cons (.ife (.cmp .eq (.var 0) (.cst (.int 0))) (.cons (.ex (.call 32 (.cons (.var 1) (.cons (.var 2) .nil))))
  .nil) (.cons (.ife (.cmp .eq (.var 0) (.cst (.int 1))) (.cons (.ex (.call 33 (.cons (.var 1) (.cons (.var 2) .nil))))
  .nil) (.cons (.ex (.call 31 (.cons (.var 1) (.cons (.var 2) .nil))))
  .nil))
  .nil))
  .nil
theorem sss_exc {C : PS.Ctx} {s : IS} {r : ISs} {env e1 : PS.Env} {h h1 : AH} {c : Nat} {v : T} (e : evS C s env h = .exc c v e1 h1) : evSs C (.cons s r) env h = .exc c v e1 h1 := by
  rw [evSs, e]
theorem p_error_q (k : Nat) (h : AH) (p v : T) (kd : Int) (hk : kd = 0 ∨ kd = 1) (hp : v.pl = true) (hq : isQ v = false) : runFn prg (k + 6) 40 [.int kd, p, v] h = .ok (.tup [.str "question", v]) h := by
  rw [run_eq (fn := ⟨3, 4, true, ir__law_error⟩) rfl rfl]
  have eL : evL ⟨runFn prg (k + 5), h.length, prg.sub, prg.xi⟩ (.cons (.var 1) (.cons (.var 2) .nil)) [some (.int kd), some p, some v, none] h = .ok [p, v] h := rfl
  have cq : ∀ i : Int, evB ⟨runFn prg (k + 5), h.length, prg.sub, prg.xi⟩ (.cmp .eq (.var 0) (.cst (.int i))) [some (.int kd), some p, some v, none] h = .ok (decide (kd = i)) h := fun i => bcmp (ecmp (a := .int kd) rfl (y := .cst (.int i)) rfl cmp_eq_int)
  have eb : evSs ⟨runFn prg (k + 5), h.length, prg.sub, prg.xi⟩ erB [some (.int kd), some p, some v, none] h = .exc 5 v [some (.int kd), some p, some v, none] h := by
    rcases hk with rfl | rfl
    · exact sss_exc ((ife_t (cq 0)).trans (ex_exc (xcall eL (p_answer_exc (k + 1) h p v hp hq))))
    · exact sss_exc ((ife_f (cq 0)).trans (sss_exc ((ife_t (cq 1)).trans (ex_exc (xcall eL (p_paper_exc k h p v hp hq))))))
  have es : evSs ⟨runFn prg (k + 5), h.length, prg.sub, prg.xi⟩ ir__law_error ([T.int kd, p, v].map some ++ List.replicate (4 - 3) none) h = .ret (some h.length) (.tup [.str "question", v]) h :=
    ss_ret ((tr_exc eb).trans (hs_ret rfl (tag_three hp (by decide) rfl)))
  rw [es]
  exact end_ret0 (.inr rfl) (pl_und _ _ (pl_tag (by decide) hp))
theorem p_error_c (k : Nat) (h : AH) (p v : T) (hp : v.pl = true) (hq : isC v = false) : runFn prg (k + 6) 40 [.int 2, p, v] h = .ok (.tup [.str "claim", v]) h := by
  rw [run_eq (fn := ⟨3, 4, true, ir__law_error⟩) rfl rfl]
  have eL : evL ⟨runFn prg (k + 5), h.length, prg.sub, prg.xi⟩ (.cons (.var 1) (.cons (.var 2) .nil)) [some (.int 2), some p, some v, none] h = .ok [p, v] h := rfl
  have cq : ∀ i : Int, evB ⟨runFn prg (k + 5), h.length, prg.sub, prg.xi⟩ (.cmp .eq (.var 0) (.cst (.int i))) [some (.int 2), some p, some v, none] h = .ok (decide ((2 : Int) = i)) h := fun i => bcmp (ecmp (a := .int 2) rfl (y := .cst (.int i)) rfl cmp_eq_int)
  have eb : evSs ⟨runFn prg (k + 5), h.length, prg.sub, prg.xi⟩ erB [some (.int 2), some p, some v, none] h = .exc 6 v [some (.int 2), some p, some v, none] h :=
    sss_exc ((ife_f (cq 0)).trans (sss_exc ((ife_f (cq 1)).trans (ex_exc (xcall eL (p_question_exc (k + 1) h p v hp hq))))))
  have es : evSs ⟨runFn prg (k + 5), h.length, prg.sub, prg.xi⟩ ir__law_error ([T.int 2, p, v].map some ++ List.replicate (4 - 3) none) h = .ret (some h.length) (.tup [.str "claim", v]) h :=
    ss_ret ((tr_exc eb).trans ((hs_skip rfl).trans (hs_ret rfl (tag_three hp (by decide) rfl))))
  rw [es]
  exact end_ret0 (.inr rfl) (pl_und _ _ (pl_tag (by decide) hp))
end LW
end
section
set_option maxRecDepth 100000
set_option maxHeartbeats 1000000
namespace LW
open PySem PS
theorem isR_word {a : Int} {w : Str} {c : T} {r : List T} {K : Int} (h : isR (.tup (.int a :: .str w :: c :: r)) K = true) (ha : isA w = true) : isW c = true := by
  have hl : zs_PARTS.lookup w = some (.int 0) := by
    rcases parts_cls w with q | q | q | q
    · exact q.2
    · rw [ha] at q; simp at q
    · rw [ha] at q; simp at q
    · rw [ha] at q; simp at q
  simp [isR, hl] at h
  exact h.2.2
theorem isW_len {x : Str} (h : isW (.str x) = true) : x.length ≤ 3 := by
  simp [isW] at h
  exact h.1.2
theorem notin_cell {h : AH} {n : Nat} {F : List Str} (x : Str) (hb : h[n]? = some (.lst (F.map T.str))) : cmpT .notin h (.str x) (.ref n) = some (!F.contains x) := by
  show (inT h (.str x) (.ref n)).map (!·) = _
  have : inT h (.str x) (.ref n) = some (F.contains x) := by
    unfold inT
    rw [snap_cell hb]
    exact inL_strs x F
  rw [this]; rfl
abbrev wB : ISs := .cons (.ife (.and (.cmp .isin (.idx (.var 2) (.cst (.int 1))) (.lst false (.cons (.cst (.str "left")) (.cons (.cst (.str "right")) .nil)))) (.cmp .notin (.idx (.var 2) (.cst (.int 2))) (.var 1))) (.cons (.ex (.bm false .append (.var 1) (.cons (.idx (.var 2) (.cst (.int 2))) .nil)))
  .nil) .nil)
  .nil
theorem bm_app2 {C : PS.Ctx} {a e : IE} {env : PS.Env} {h h1 : AH} {c : Nat} {xs : List T} {t : T} (e1 : evE C a env h = .ok (.ref c) h) (hc : h[c]? = some (.lst xs)) (e2 : evE C e env h = .ok t h1) (hc1 : h1[c]? = some (.lst xs)) (hz : xs.length < sizeLine) :
    evS C (.ex (.bm false .append a (.cons e .nil))) env h = .next env (h1.set c (.lst (xs ++ [t]))) := by
  have il : bmOk .append (.ref c) h = true := by
    show (isList h (.ref c)).isSome = true
    rw [isl_cell hc]; rfl
  have ap := app_cell (m := false) (t := t) hc1 hz
  unfold evS
  rw [evE, e1, R.bind_ok, if_pos il, evL, e2, R.bind_ok, evL, R.bind_ok, R.bind_ok, ap]
  rfl
theorem w_turn (k n0 L : Nat) (h : AH) (gr t : T) (K : Int) (F : List Str) (hL : L = h.length) (ht : isR t K = true) (hF : F.length ≤ 100) (hW : ∀ x ∈ F, isW (.str x) = true) :
    ∃ F' : List Str, F'.length ≤ F.length + 1 ∧ (∀ x ∈ F', isW (.str x) = true) ∧ evSs ⟨runFn prg k, n0, prg.sub, prg.xi⟩ wB [some gr, some (.ref L), some t] (h ++ [.lst (F.map T.str)]) = .next [some gr, some (.ref L), some t] (h ++ [.lst (F'.map T.str)]) := by
  subst hL
  obtain ⟨a, w, c, r, n, rfl, a0, a1, hl, q⟩ := isR_shape ht
  have ev : evE ⟨runFn prg k, n0, prg.sub, prg.xi⟩ (.var 2) [some gr, some (.ref h.length), some (.tup (.int a :: .str w :: c :: r))] (h ++ [.lst (F.map T.str)]) = .ok (.tup (.int a :: .str w :: c :: r)) (h ++ [.lst (F.map T.str)]) := rfl
  have e1 := eidx ev (y := .cst (.int 1)) rfl at1
  have e2 := eidx ev (y := .cst (.int 2)) rfl at2
  have cA := bcmp (in_two (a := "left") (b := "right") e1)
  by_cases h1 : w = "left" ∨ w = "right"
  · rw [decide_eq_true h1] at cA
    have ha : isA w = true := by rcases h1 with rfl | rfl <;> rfl
    have hw := isR_word ht ha
    obtain ⟨x, rfl⟩ := isW_str hw
    have c0 : (h ++ [Cell.lst (F.map T.str)])[h.length]? = some (.lst (F.map T.str)) := app_at h _
    have cB := bcmp (ecmp e2 (y := .var 1) rfl (notin_cell x c0))
    by_cases h2 : x ∈ F
    · have : F.contains x = true := by simpa using h2
      rw [this] at cB
      refine ⟨F, by omega, hW, (ss_next ((ife_f ((band_t cA).trans cB)).trans rfl)).trans rfl⟩
    · have : F.contains x = false := by simpa using h2
      rw [this] at cB
      refine ⟨F ++ [x], by simp, ?_, (ss_next ((ife_t ((band_t cA).trans cB)).trans ((ss_next (bm_app2 (c := h.length) rfl c0 e2 c0 (by rw [List.length_map, sizeLine_eq]; omega))).trans rfl))).trans ?_⟩
      · intro y hy
        rw [List.mem_append, List.mem_singleton] at hy
        rcases hy with hy | rfl
        · exact hW y hy
        · exact hw
      · rw [app_set, List.map_append]
        rfl
  · rw [decide_eq_false h1] at cA
    exact ⟨F, by omega, hW, (ss_next ((ife_f (band_f cA)).trans rfl)).trans rfl⟩
theorem strs_pl (n : Nat) : ∀ F : List Str, (∀ x ∈ F, x.length ≤ 1000) → T.plL (F.map T.str) = true
  | [], _ => rfl
  | x :: F, h => by
    simp only [List.map_cons, T.plL, Bool.and_eq_true]
    exact ⟨by simp [T.pl]; exact h x (by simp), strs_pl n F fun y hy => h y (by simp [hy])⟩
theorem p_law_words (k K : Nat) (h : AH) (rs : List T) (g : GI K 9 rs) : ∃ F : List Str, runFn prg (k + 1) 34 [.tup [.int K, .tup rs]] h = .ok (.lst (F.map T.str)) h ∧ F.length ≤ 9 ∧ ∀ x ∈ F, isW (.str x) = true := by
  rw [run_eq (fn := ⟨1, 3, true, ir__law_words⟩) rfl rfl]
  obtain ⟨e2, H2, el, q⟩ := forL_inv (g := TG.nm 2) (body := fun env h' => evSs ⟨runFn prg k, h.length, prg.sub, prg.xi⟩ wB env h') (chk := (⟨rs, none⟩ : Items).chk)
    (fun d e H => ∃ (F : List Str) (x2 : Option T), e = [some (.tup [.int K, .tup rs]), some (.ref h.length), x2] ∧ H = h ++ [.lst (F.map T.str)] ∧ F.length ≤ d.length ∧ d.length ≤ 9 ∧ ∀ x ∈ F, isW (.str x) = true)
    (done := []) (rest := rs) (env := [some (.tup [.int K, .tup rs]), some (.ref h.length), none]) (h := h ++ [.lst []])
    ⟨[], none, rfl, rfl, by simp, by simp, by simp⟩
    (fun d x r e H eq i => by
      obtain ⟨F, x2, rfl, rfl, fl, dl, fw⟩ := i
      have hd : (d ++ [x]).length ≤ 9 := by
        have l := g.len
        have : rs.length = (d ++ x :: r).length := by rw [← eq]; simp
        simp at this ⊢
        omega
      have hx : isR x K = true := (g.ok x (by rw [show rs = d ++ x :: r from by simpa using eq]; simp)).1
      obtain ⟨F', fl', fw', es⟩ := w_turn k h.length h.length h (.tup [.int K, .tup rs]) x K F rfl hx (by omega) fw
      refine ⟨_, rfl, _, _, es, trivial, F', _, rfl, rfl, ?_, hd, fw'⟩
      rw [List.length_append, List.length_singleton]; omega)
  obtain ⟨F, x2, rfl, rfl, fl, dl, fw⟩ := q
  rw [List.nil_append] at fl dl
  have hpf : T.plL (F.map T.str) = true := strs_pl 0 F fun x hx => by have := isW_len (fw x hx); omega
  refine ⟨F, ?_, by omega, fw⟩
  have s1 : evS ⟨runFn prg k, h.length, prg.sub, prg.xi⟩ (.asg (.nm 1) (.lst true .nil)) [some (.tup [.int K, .tup rs]), none, none] h = .next [some (.tup [.int K, .tup rs]), some (.ref h.length), none] (h ++ [.lst []]) := by
    have fr : PS.fresh true [] h = .ok (.ref h.length) (h ++ [.lst []]) := fresh_t (xs := []) (Nat.zero_le _)
    simp [evS, evE, evL, fr, TG.asg]
  have s2 : evS ⟨runFn prg k, h.length, prg.sub, prg.xi⟩ (.forr (.nm 2) (.e (.idx (.var 0) (.cst (.int 1)))) wB) [some (.tup [.int K, .tup rs]), some (.ref h.length), none] (h ++ [.lst []]) = .next [some (.tup [.int K, .tup rs]), some (.ref h.length), x2] (h ++ [.lst (F.map T.str)]) := by
    have ev : evE ⟨runFn prg k, h.length, prg.sub, prg.xi⟩ (.idx (.var 0) (.cst (.int 1))) [some (.tup [.int K, .tup rs]), some (.ref h.length), none] (h ++ [.lst []]) = .ok (.tup rs) (h ++ [.lst []]) := eidx (a := .tup [.int K, .tup rs]) rfl (y := .cst (.int 1)) rfl at1
    have ei : evI ⟨runFn prg k, h.length, prg.sub, prg.xi⟩ (.e (.idx (.var 0) (.cst (.int 1)))) [some (.tup [.int K, .tup rs]), some (.ref h.length), none] (h ++ [.lst []]) = .ok ⟨rs, none⟩ (h ++ [.lst []]) := by
      rw [evI, ev, R.bind_ok]; rfl
    unfold evS
    rw [ei, R.toS_ok]
    exact el
  have es : evSs ⟨runFn prg k, h.length, prg.sub, prg.xi⟩ ir__law_words ([T.tup [.int K, .tup rs]].map some ++ List.replicate (3 - 1) none) h = .ret (some h.length) (.lst (F.map T.str)) (h ++ [.lst (F.map T.str)]) := by
    refine (ss_next s1).trans ((ss_next s2).trans (ss_ret ?_))
    show (match frzV h.length (h ++ [Cell.lst (F.map T.str)]) 4 (T.ref h.length) with
      | some t' => RS.ret (some h.length) t' (h ++ [Cell.lst (F.map T.str)])
      | none => .stuck) = _
    rw [frz_cell (Nat.le_refl _) (app_at h _) hpf]
  rw [es]
  refine end_ret (.inr rfl) ?_
  simp only [T.und]
  exact pl_undL _ _ hpf
end LW
end
section
set_option maxRecDepth 100000
set_option maxHeartbeats 1000000
namespace LW
open PySem PS
theorem cutL_neg1 (xs : List T) : cutL xs none (some (-1)) = xs.take (xs.length - 1) := by
  unfold cutL
  rw [HT.sIx_none, show HT.sIx xs.length xs.length (some (-1)) = xs.length - 1 from by
    show (if (-1 : Int) < 0 then ((-1 : Int) + (xs.length : Int)).toNat else min (-1 : Int).toNat xs.length) = _
    rw [if_pos (by omega)]
    omega]
  simp
theorem add_lst {m : Bool} {xs ys : List T} {h : AH} : binT m .add (.lst xs) (.lst ys) h = PS.fresh m (xs ++ ys) h := rfl
theorem slc_lst {m : Bool} {xs : List T} {lo hi : Option Int} {h : AH} : slcT m (.lst xs) lo hi h = PS.fresh m (cutL xs lo hi) h := rfl
abbrev dtC : IE := .and (.cmp .gt (.bf false .len (.cons (.var 3) .nil)) (.cst (.int 1))) (.cmp .gt (.call 10 (.cons (.var 0) (.cons (.cst (.int 12)) .nil))) (.cst (.int 0)))
abbrev dtI : IE := .ite dtC (.slc false (.var 3) .none (.some (.neg (.cst (.int 1))))) (.var 3)
abbrev dtE : IE := .call 11 (.cons (.var 0) (.cons dtI .nil))
theorem ite_of {C : PS.Ctx} {c a b : IE} {env : PS.Env} {h h1 : AH} {r : Bool} (q : evE C c env h = .ok (.bl r) h1) : evE C (.ite c a b) env h = if r = true then evE C a env h1 else evE C b env h1 := by
  rw [evE, q]
  cases r <;> rfl
theorem dt_elt (k n0 n : Nat) (h : AH) (gr m x4 : Option T) (ws : List T) (hb : Box h n) (hw : ws ≠ []) (hl : ws.length ≤ 100) (hp : T.plL ws = true) :
    ∃ x h', evE ⟨runFn prg (k + 2), n0, prg.sub, prg.xi⟩ dtE [some (.ref n), gr, m, some (.lst ws), x4] h = .ok x h' ∧ BoxOnly n h h' ∧ x ∈ ws := by
  have e3 : ∀ h : AH, evE ⟨runFn prg (k + 2), n0, prg.sub, prg.xi⟩ (.var 3) [some (.ref n), gr, m, some (.lst ws), x4] h = .ok (.lst ws) h := fun h => rfl
  have el : evE ⟨runFn prg (k + 2), n0, prg.sub, prg.xi⟩ (.bf false .len (.cons (.var 3) .nil)) [some (.ref n), gr, m, some (.lst ws), x4] h = .ok (.int ws.length) h := by
    rw [evE, evL, e3, R.bind_ok, evL, R.bind_ok, R.bind_ok]; rfl
  have c1 := ecmp (o := .gt) el (y := .cst (.int 1)) rfl cmp_gt
  -- what is picked from
  have key : ∃ (h1 : AH) (us : List T), BoxOnly n h h1 ∧ us ≠ [] ∧ us.length ≤ 100 ∧ T.plL us = true ∧ (∀ x ∈ us, x ∈ ws) ∧ evE ⟨runFn prg (k + 2), n0, prg.sub, prg.xi⟩ dtI [some (.ref n), gr, m, some (.lst ws), x4] h = .ok (.lst us) h1 := by
    by_cases l1 : (1 : Int) < ws.length
    · rw [decide_eq_true l1] at c1
      obtain ⟨r, h1, e1, r0, r1, b1⟩ := p_take (k + 1) h n 12 hb (by omega) (by omega)
      have eL : evL ⟨runFn prg (k + 2), n0, prg.sub, prg.xi⟩ (.cons (.var 0) (.cons (.cst (.int 12)) .nil)) [some (.ref n), gr, m, some (.lst ws), x4] h = .ok [.ref n, .int 12] h := rfl
      have c2 := ecmp (o := .gt) (ecall eL e1) (y := .cst (.int 0)) rfl cmp_gt
      have c3 := (and_t c1).trans c2
      by_cases hr : 0 < r
      · rw [decide_eq_true hr] at c3
        refine ⟨h1, cutL ws none (some (-1)), b1, ?_, Nat.le_trans (cutL_len _ _ _) hl, plL_of fun x hx => plL_mem hp x (cutL_mem hx), fun x hx => cutL_mem hx, ?_⟩
        · rw [cutL_neg1]
          intro e
          have := congrArg List.length e
          simp at this
          omega
        · rw [ite_of c3, if_pos rfl]
          have eo : evO ⟨runFn prg (k + 2), n0, prg.sub, prg.xi⟩ (.some (.neg (.cst (.int 1)))) [some (.ref n), gr, m, some (.lst ws), x4] h1 = .ok (some (-1)) h1 := rfl
          rw [evE, e3, R.bind_ok, evO, R.bind_ok, eo, R.bind_ok, slc_lst, fresh_f (thou_line (Nat.le_trans (cutL_len _ _ _) (by omega)))]
      · rw [decide_eq_false hr] at c3
        refine ⟨h1, ws, b1, hw, hl, hp, fun x hx => hx, ?_⟩
        rw [ite_of c3, if_neg (by decide), e3]
    · rw [decide_eq_false l1] at c1
      refine ⟨h, ws, bo_refl hb, hw, hl, hp, fun x hx => hx, ?_⟩
      rw [ite_of (and_f c1), if_neg (by decide), e3]
  obtain ⟨h1, us, b1, u1, u2, u3, u4, e4⟩ := key
  obtain ⟨x, h2, e5, mx, b2⟩ := pick_mem (k := k) (bo_box hb b1) u1 (by omega) u3
  refine ⟨x, h2, ?_, bo_trans b1 b2, u4 x mx⟩
  have eL : evL ⟨runFn prg (k + 2), n0, prg.sub, prg.xi⟩ (.cons (.var 0) (.cons dtI .nil)) [some (.ref n), gr, m, some (.lst ws), x4] h = .ok [.ref n, .lst us] h1 := by
    rw [evL, show evE ⟨runFn prg (k + 2), n0, prg.sub, prg.xi⟩ (.var 0) [some (.ref n), gr, m, some (.lst ws), x4] h = .ok (.ref n) h from rfl, R.bind_ok, evL, e4, R.bind_ok, evL, R.bind_ok, R.bind_ok]
  exact ecall eL e5
theorem dt_comp (k n0 n : Nat) (gr m : Option T) (ws : List T) (hw : ws ≠ []) (hl : ws.length ≤ 100) (hp : T.plL ws = true) (I : Items) (hI : I.w = none) : ∀ (xs : List T) (h : AH), Box h n →
    ∃ ts h', compL (.nm 4) (fun _ h => .ok true h) (fun env h => (evE ⟨runFn prg (k + 2), n0, prg.sub, prg.xi⟩ dtE env h).nox) I.chk xs [some (.ref n), gr, m, some (.lst ws), none] h = .ok ts h' ∧ BoxOnly n h h' ∧ ts.length = xs.length ∧ ∀ t ∈ ts, t ∈ ws
  | [], h, hb => ⟨[], h, rfl, bo_refl hb, rfl, by simp⟩
  | x :: xs, h, hb => by
    obtain ⟨t, h1, e1, b1, mt⟩ := dt_elt k n0 n h gr m (some x) ws hb hw hl hp
    obtain ⟨ts, h2, e2, b2, l2, m2⟩ := dt_comp k n0 n gr m ws hw hl hp I hI xs h1 (bo_box hb b1)
    refine ⟨t :: ts, h2, ?_, bo_trans b1 b2, by simp [l2], ?_⟩
    · have hc : I.chk h1 := by
        show (match I.w with | none => True | some (n, c) => h1[n]? = some c)
        rw [hI]
        trivial
      rw [compL_elt (e1 := [some (.ref n), gr, m, some (.lst ws), some x]) (h1 := h) (h2 := h1) (t := t) rfl rfl (by show R.nox (evE ⟨runFn prg (k + 2), n0, prg.sub, prg.xi⟩ dtE [some (.ref n), gr, m, some (.lst ws), some x] h) = _; rw [e1]; rfl) hc, e2]
      rfl
    · intro y hy
      rcases List.mem_cons.mp hy with rfl | hy
      · exact mt
      · exact m2 y hy
theorem p_drawn_text (k K n m : Nat) (h : AH) (rs : List T) (hb : Box h n) (g : GI K 9 rs) (hm : m ≤ 8) :
    ∃ ts h', runFn prg (k + 3) 35 [.ref n, .tup [.int K, .tup rs], .int m] h = .ok (.tup ts) h' ∧ BoxOnly n h h' ∧ ts.length ≤ 8 ∧ ∀ t ∈ ts, Gd 20 0 t := by
  rw [run_eq (fn := ⟨3, 5, true, ir__law_drawn_text⟩) rfl rfl]
  obtain ⟨F, ew, fl, fw⟩ := p_law_words (k + 1) K h rs g
  have wg : ∀ t ∈ (F.map T.str ++ [.str "z"]), Gd 20 0 t := by
    intro t ht
    rw [List.mem_append, List.mem_singleton] at ht
    rcases ht with ht | rfl
    · obtain ⟨x, hx, rfl⟩ := List.mem_map.mp ht
      exact .str _ _ (by have := isW_len (fw x hx); omega)
    · exact .str _ _ (by decide)
  have wl : (F.map T.str ++ [T.str "z"]).length ≤ 100 := by simp; omega
  obtain ⟨r, h1, e1, r0, r1, b1⟩ := p_take (k + 1) h n (m + 1) hb (by omega) (by omega)
  obtain ⟨ts, h2, e2, b2, l2, m2⟩ := dt_comp k h.length n (some (.tup [.int K, .tup rs])) (some (.int m)) (F.map T.str ++ [.str "z"]) (by simp) wl (gd_plL (by omega) wg) ⟨rangeT 0 r.toNat, none⟩ rfl (rangeT 0 r.toNat) h1 (bo_box hb b1)
  rw [range_len] at l2
  refine ⟨ts, h2, ?_, bo_trans b1 b2, by omega, fun t ht => wg t (m2 t ht)⟩
  have s1 : evS ⟨runFn prg (k + 2), h.length, prg.sub, prg.xi⟩ (.asg (.nm 3) (.bin false .add (.call 34 (.cons (.var 1) .nil)) (.lst false (.cons (.cst (.str "z")) .nil)))) [some (.ref n), some (.tup [.int K, .tup rs]), some (.int m), none, none] h = .next [some (.ref n), some (.tup [.int K, .tup rs]), some (.int m), some (.lst (F.map T.str ++ [.str "z"])), none] h := by
    have ec : evE ⟨runFn prg (k + 2), h.length, prg.sub, prg.xi⟩ (.call 34 (.cons (.var 1) .nil)) [some (.ref n), some (.tup [.int K, .tup rs]), some (.int m), none, none] h = .ok (.lst (F.map T.str)) h := ecall (xs := [.tup [.int K, .tup rs]]) (h1 := h) rfl ew
    have el : evE ⟨runFn prg (k + 2), h.length, prg.sub, prg.xi⟩ (.lst false (.cons (.cst (.str "z")) .nil)) [some (.ref n), some (.tup [.int K, .tup rs]), some (.int m), none, none] h = .ok (.lst [.str "z"]) h := fresh_f (xs := [T.str "z"]) (thou_line (by simp))
    unfold evS
    rw [evE, ec, R.bind_ok, el, R.bind_ok, add_lst, fresh_f (thou_line (by omega)), R.toS_ok]
    rfl
  have er : evE ⟨runFn prg (k + 2), h.length, prg.sub, prg.xi⟩ (.call 10 (.cons (.var 0) (.cons (.bin false .add (.var 2) (.cst (.int 1))) .nil))) [some (.ref n), some (.tup [.int K, .tup rs]), some (.int m), some (.lst (F.map T.str ++ [.str "z"])), none] h = .ok (.int (r.toNat : Int)) h1 := by
    rw [Int.toNat_of_nonneg r0]
    exact ecall (xs := [.ref n, .int (m + 1)]) (h1 := h) rfl e1
  have ei := rng_items (n := r.toNat) er (small_nat (by omega))
  have ec : evE ⟨runFn prg (k + 2), h.length, prg.sub, prg.xi⟩ (.comp false [4] (.nm 4) (.rng (.call 10 (.cons (.var 0) (.cons (.bin false .add (.var 2) (.cst (.int 1))) .nil)))) .none dtE) [some (.ref n), some (.tup [.int K, .tup rs]), some (.int m), some (.lst (F.map T.str ++ [.str "z"])), none] h = .ok (.lst ts) h2 := by
    rw [evE, ei, R.bind_ok]
    refine (congrArg (fun r : R (List T) => r.nox.bind fun ts h2 => PS.fresh false ts h2) e2).trans ?_
    rw [R.nox_ok, R.bind_ok, fresh_f (thou_line (by omega))]
  have s2 : evS ⟨runFn prg (k + 2), h.length, prg.sub, prg.xi⟩ (.ret false (.bf false .tuple (.cons (.comp false [4] (.nm 4) (.rng (.call 10 (.cons (.var 0) (.cons (.bin false .add (.var 2) (.cst (.int 1))) .nil)))) .none dtE) .nil))) [some (.ref n), some (.tup [.int K, .tup rs]), some (.int m), some (.lst (F.map T.str ++ [.str "z"])), none] h = .ret none (.tup ts) h2 := by
    refine ret_of ?_
    rw [evE, evL, ec, R.bind_ok, evL, R.bind_ok, R.bind_ok]
    rfl
  have es : evSs ⟨runFn prg (k + 2), h.length, prg.sub, prg.xi⟩ ir__law_drawn_text ([T.ref n, .tup [.int K, .tup rs], .int m].map some ++ List.replicate (5 - 3) none) h = .ret none (.tup ts) h2 := (ss_next s1).trans (ss_ret s2)
  rw [es]
  refine end_box0 (bo_trans b1 b2) (.inl rfl) ?_
  simp only [T.und]
  exact pl_undL _ _ (gd_plL (by omega) fun t ht => wg t (m2 t ht))
end LW
end
section
set_option maxRecDepth 100000
set_option maxHeartbeats 1000000
namespace LW
open PySem PS
theorem mul_one {m : Bool} {j : Nat} {t : T} {h : AH} (h1 : 2 ≤ j) (h2 : j ≤ 1000) : binT m .mul (.tup [t]) (.int j) h = .ok (.tup (List.replicate j t)) h := by
  show (if [t].isEmpty = false ∧ (2 : Int) ≤ j ∧ (j : Int) ≤ 1000 ∧ [t].length ≤ 1000 then R.ok (T.tup (List.replicate (j : Int).toNat [t]).flatten) h else .stuck) = _
  rw [if_pos ⟨rfl, by omega, by omega, by simp⟩]
  simp
theorem add_fresh {h : AH} {n : Nat} {xs ys : List T} (hb : h[n]? = some (.lst xs)) (hl : xs.length + ys.length ≤ 1000) : binT true .add (.ref n) (.lst ys) h = .ok (.ref h.length) (h ++ [.lst (xs ++ ys)]) := by
  rw [add_cell hb, fresh_t (thou_line (by rw [List.length_append]; omega))]
theorem slc_cell {m : Bool} {h : AH} {n : Nat} {xs : List T} {lo hi : Option Int} (hb : h[n]? = some (.lst xs)) : slcT m (.ref n) lo hi h = PS.fresh m (cutL xs lo hi) h := by
  unfold slcT
  rw [snap_cell hb]
theorem spoilt0 (k deep : Nat) {A : Cell} (cs : AH) (d : Nat) (t : T) (hA : Bx A) (g : Gd 20 d t) :
    ∃ w A', runFn prg (k + 3 + deep) 15 [.ref 0, t, .int deep] (A :: cs) = .ok w (A' :: cs) ∧ Gd 100 (d + 1) w ∧ Bx A' := by
  obtain ⟨w, H, e, gw, b⟩ := p_spoilt k deep (A :: cs) 0 d t deep rfl (bx_box hA) g
  obtain ⟨A', x, rfl⟩ := bx_only b
  exact ⟨w, A', e, gw, x⟩
abbrev qE (sc gr tx ox : T) (x6 x7 x8 x9 x10 : Option T) : PS.Env := [some sc, some gr, some (.ref 0), some (.ref 1), some tx, some ox, x6, x7, x8, x9, x10]
theorem gs {n : Nat} {w : Str} (h : w.length ≤ 20) : Gd 20 n (.str w) := .str _ _ h
theorem gt1 {m n : Nat} {a : T} (hm : 1 ≤ m) (ha : Gd m n a) : Gd m (n + 1) (.tup [a]) := .tup _ _ (by simpa using hm) fun x hx => by
  simp at hx; subst hx; exact ha
theorem gt2 {m n : Nat} {a b : T} (hm : 2 ≤ m) (ha : Gd m n a) (hb : Gd m n b) : Gd m (n + 1) (.tup [a, b]) := .tup _ _ (by simpa using hm) fun x hx => by
  simp at hx
  rcases hx with rfl | rfl
  · exact ha
  · exact hb
theorem gt3 {m n : Nat} {a b c : T} (hm : 3 ≤ m) (ha : Gd m n a) (hb : Gd m n b) (hc : Gd m n c) : Gd m (n + 1) (.tup [a, b, c]) := .tup _ _ (by simpa using hm) fun x hx => by
  simp at hx
  rcases hx with rfl | rfl | rfl
  · exact ha
  · exact hb
  · exact hc
theorem grep {n j : Nat} {t : T} (hj : j ≤ 20) (g : Gd 20 n t) : Gd 20 (n + 1) (.tup (List.replicate j t)) := .tup _ _ (by simpa using hj) fun x hx => by
  rw [List.mem_replicate] at hx
  rw [hx.2]; exact g
theorem glst {n : Nat} {t : T} (g : Gd 20 n t) : Gd 20 (n + 1) (.lst [t]) := .lst _ _ (by simp) fun x hx => by
  simp at hx; subst hx; exact g
def Al (m n : Nat) (xs : List T) : Prop := ∀ x ∈ xs, Gd m n x
theorem Al.nil {m n : Nat} : Al m n [] := fun x hx => by simp at hx
theorem Al.cons {m n : Nat} {x : T} {xs : List T} (hx : Gd m n x) (h : Al m n xs) : Al m n (x :: xs) := fun y hy => by
  rcases List.mem_cons.mp hy with rfl | hy
  · exact hx
  · exact h y hy
theorem Al.app {m n : Nat} {xs ys : List T} (a : Al m n xs) (b : Al m n ys) : Al m n (xs ++ ys) := fun x hx => by
  rw [List.mem_append] at hx
  rcases hx with hx | hx
  · exact a x hx
  · exact b x hx
theorem Al.up {m n : Nat} {xs : List T} (a : Al 20 m xs) (h : m ≤ n) : Al 100 n xs := fun x hx => gd_mono (a x hx) (by omega) h
abbrev q1 (tx ox : T) : List T := [.tup [.str "text", tx], .tup [.str "readings", ox], .tup [.str "longest"], .tup [.str "text", .tup []], .tup [.str "text", .tup (List.replicate 8 (.str "abc"))]]
abbrev q2 (tx : T) (ts : List T) : List T := [.tup [.str "text", .tup (List.replicate 9 (.str "a"))], .tup [.str "text", .lst ts], .tup [.str "text", .tup [.str "A"]], .tup [.str "text", .tup [.int 1]], .tup [.str "text"], .tup [.str "text", tx, .int 0], .tup [.str "readings"], .tup [.str "readings", tx, .int 3]]
abbrev q3 (tx : T) : List T := [.tup [.str "longest", .int 3], .tup [.str "told", tx], .tup [.str "any"], .non, .tup [], .lst [.str "longest"], .tup [.lst []], .str "longest", .tup [.int 0], .tup [.str "text", .str "a"], .tup [.str "text", .tup [.str "abcd"]], .tup [.str "text", .tup [.str ""]], .tup [.lst [.str "text"], tx]]
abbrev c1 (tx ox : T) (i j : Int) : List T := [.tup [.str "told", tx], .tup [.str "not told", ox], .tup [.str "readings", tx, .int i], .tup [.str "longest", .int j], .tup [.str "any"], .tup [.str "nothing"], .tup [.str "readings", ox, .int 1000000000], .tup [.str "longest", .int 1000000000]]
abbrev c2 (tx : T) : List T := [.tup [.str "readings", tx, .int (-1)], .tup [.str "readings", tx, .bl true], .tup [.str "readings", tx], .tup [.str "longest"], .tup [.str "longest", .int (-1)], .tup [.str "longest", .bl true], .tup [.str "any", .int 1], .tup [.str "nothing", .int 0], .tup [.str "told"]]
abbrev c3 (tx : T) : List T := [.tup [.str "told", .tup (List.replicate 9 (.str "a"))], .tup [.str "not told", .lst [.str "a"]], .tup [.str "text", tx], .non, .tup [], .lst [.str "any"], .tup [.lst []], .str "any", .tup [.lst [.str "any"]], .tup [.str "told", tx, tx]]
section
variable {tx ox : T} {ts : List T} {i j : Int}
theorem gi20 {n : Nat} {i : Int} (h0 : -1000000000 ≤ i) (h1 : i ≤ 1000000000) : Gd 20 n (.int i) := .int _ _ (by omega) (by omega)
theorem gtn {m n : Nat} : Gd m (n + 1) (.tup []) := .tup _ _ (by simp) (by simp)
theorem gln {m n : Nat} : Gd m (n + 1) (.lst []) := .lst _ _ (by simp) (by simp)
theorem q1_al (gx : Gd 20 1 tx) (go : Gd 20 1 ox) : Al 20 2 (q1 tx ox) :=
  .cons (gt2 (by omega) (gs (by decide)) gx) (.cons (gt2 (by omega) (gs (by decide)) go) (.cons (gt1 (by omega) (gs (by decide))) (.cons (gt2 (by omega) (gs (by decide)) gtn) (.cons (gt2 (by omega) (gs (by decide)) (grep (by omega) (gs (by decide)))) .nil))))
theorem q2_al (gx : Gd 20 1 tx) (gl : Gd 20 1 (.lst ts)) : Al 20 2 (q2 tx ts) :=
  .cons (gt2 (by omega) (gs (by decide)) (grep (by omega) (gs (by decide)))) (.cons (gt2 (by omega) (gs (by decide)) gl) (.cons (gt2 (by omega) (gs (by decide)) (gt1 (by omega) (gs (by decide)))) (.cons (gt2 (by omega) (gs (by decide)) (gt1 (by omega) (gi20 (by omega) (by omega)))) (.cons (gt1 (by omega) (gs (by decide))) (.cons (gt3 (by omega) (gs (by decide)) gx (gi20 (by omega) (by omega))) (.cons (gt1 (by omega) (gs (by decide))) (.cons (gt3 (by omega) (gs (by decide)) gx (gi20 (by omega) (by omega))) .nil)))))))
theorem q3_al (gx : Gd 20 1 tx) : Al 20 2 (q3 tx) :=
  .cons (gt2 (by omega) (gs (by decide)) (gi20 (by omega) (by omega))) (.cons (gt2 (by omega) (gs (by decide)) gx) (.cons (gt1 (by omega) (gs (by decide))) (.cons (.non _) (.cons gtn (.cons (glst (gs (by decide))) (.cons (gt1 (by omega) gln) (.cons (gs (by decide)) (.cons (gt1 (by omega) (gi20 (by omega) (by omega))) (.cons (gt2 (by omega) (gs (by decide)) (gs (by decide))) (.cons (gt2 (by omega) (gs (by decide)) (gt1 (by omega) (gs (by decide)))) (.cons (gt2 (by omega) (gs (by decide)) (gt1 (by omega) (gs (by decide)))) (.cons (gt2 (by omega) (glst (gs (by decide))) gx) .nil))))))))))))
theorem c1_al (gx : Gd 20 1 tx) (go : Gd 20 1 ox) (i0 : 0 ≤ i) (i1 : i < 9) (j0 : 0 ≤ j) (j1 : j < 30) : Al 20 2 (c1 tx ox i j) :=
  .cons (gt2 (by omega) (gs (by decide)) gx) (.cons (gt2 (by omega) (gs (by decide)) go) (.cons (gt3 (by omega) (gs (by decide)) gx (gi20 (by omega) (by omega))) (.cons (gt2 (by omega) (gs (by decide)) (gi20 (by omega) (by omega))) (.cons (gt1 (by omega) (gs (by decide))) (.cons (gt1 (by omega) (gs (by decide))) (.cons (gt3 (by omega) (gs (by decide)) go (gi20 (by omega) (by omega))) (.cons (gt2 (by omega) (gs (by decide)) (gi20 (by omega) (by omega))) .nil)))))))
theorem c2_al (gx : Gd 20 1 tx) : Al 20 2 (c2 tx) :=
  .cons (gt3 (by omega) (gs (by decide)) gx (gi20 (by omega) (by omega))) (.cons (gt3 (by omega) (gs (by decide)) gx (.bl _ _)) (.cons (gt2 (by omega) (gs (by decide)) gx) (.cons (gt1 (by omega) (gs (by decide))) (.cons (gt2 (by omega) (gs (by decide)) (gi20 (by omega) (by omega))) (.cons (gt2 (by omega) (gs (by decide)) (.bl _ _)) (.cons (gt2 (by omega) (gs (by decide)) (gi20 (by omega) (by omega))) (.cons (gt2 (by omega) (gs (by decide)) (gi20 (by omega) (by omega))) (.cons (gt1 (by omega) (gs (by decide))) .nil))))))))
theorem c3_al (gx : Gd 20 1 tx) : Al 20 2 (c3 tx) :=
  .cons (gt2 (by omega) (gs (by decide)) (grep (by omega) (gs (by decide)))) (.cons (gt2 (by omega) (gs (by decide)) (glst (gs (by decide)))) (.cons (gt2 (by omega) (gs (by decide)) gx) (.cons (.non _) (.cons gtn (.cons (glst (gs (by decide))) (.cons (gt1 (by omega) gln) (.cons (gs (by decide)) (.cons (gt1 (by omega) (glst (gs (by decide)))) (.cons (gt3 (by omega) (gs (by decide)) gx gx) .nil)))))))))
end
end LW
end
section
set_option maxRecDepth 100000
set_option maxHeartbeats 4000000
namespace LW
open PySem PS
abbrev lq5 : IS := .asg (.nm 6) (.lst true (.cons (.tup (.cons (.cst (.str "text")) (.cons (.var 4) .nil))) (.cons (.tup (.cons (.cst (.str "readings")) (.cons (.var 5) .nil))) (.cons (.tup (.cons (.cst (.str "longest")) .nil)) (.cons (.tup (.cons (.cst (.str "text")) (.cons (.tup .nil) .nil))) (.cons (.tup (.cons (.cst (.str "text")) (.cons (.bin false .mul (.tup (.cons (.cst (.str "abc")) .nil)) (.cst (.int 8))) .nil))) .nil))))))
abbrev lq6 : IS := .asg (.nm 6) (.bin true .add (.var 6) (.lst false (.cons (.tup (.cons (.cst (.str "text")) (.cons (.bin false .mul (.tup (.cons (.cst (.str "a")) .nil)) (.cst (.int 9))) .nil))) (.cons (.tup (.cons (.cst (.str "text")) (.cons (.bf false .list (.cons (.var 4) .nil)) .nil))) (.cons (.tup (.cons (.cst (.str "text")) (.cons (.tup (.cons (.cst (.str "A")) .nil)) .nil))) (.cons (.tup (.cons (.cst (.str "text")) (.cons (.tup (.cons (.cst (.int 1)) .nil)) .nil))) (.cons (.tup (.cons (.cst (.str "text")) .nil)) (.cons (.tup (.cons (.cst (.str "text")) (.cons (.var 4) (.cons (.cst (.int 0)) .nil)))) (.cons (.tup (.cons (.cst (.str "readings")) .nil)) (.cons (.tup (.cons (.cst (.str "readings")) (.cons (.var 4) (.cons (.cst (.int 3)) .nil)))) .nil))))))))))
abbrev lq7 : IS := .asg (.nm 6) (.bin true .add (.var 6) (.lst false (.cons (.tup (.cons (.cst (.str "longest")) (.cons (.cst (.int 3)) .nil))) (.cons (.tup (.cons (.cst (.str "told")) (.cons (.var 4) .nil))) (.cons (.tup (.cons (.cst (.str "any")) .nil)) (.cons (.cst .non) (.cons (.tup .nil) (.cons (.lst false (.cons (.cst (.str "longest")) .nil)) (.cons (.tup (.cons (.lst false .nil) .nil)) (.cons (.cst (.str "longest")) (.cons (.tup (.cons (.cst (.int 0)) .nil)) (.cons (.tup (.cons (.cst (.str "text")) (.cons (.cst (.str "a")) .nil))) (.cons (.tup (.cons (.cst (.str "text")) (.cons (.tup (.cons (.cst (.str "abcd")) .nil)) .nil))) (.cons (.tup (.cons (.cst (.str "text")) (.cons (.tup (.cons (.cst (.str "")) .nil)) .nil))) (.cons (.tup (.cons (.lst false (.cons (.cst (.str "text")) .nil)) (.cons (.var 4) .nil))) .nil)))))))))))))))
abbrev lc8 : IS := .asg (.nm 7) (.lst true (.cons (.tup (.cons (.cst (.str "told")) (.cons (.var 4) .nil))) (.cons (.tup (.cons (.cst (.str "not told")) (.cons (.var 5) .nil))) (.cons (.tup (.cons (.cst (.str "readings")) (.cons (.var 4) (.cons (.call 10 (.cons (.var 2) (.cons (.cst (.int 9)) .nil))) .nil)))) (.cons (.tup (.cons (.cst (.str "longest")) (.cons (.call 10 (.cons (.var 2) (.cons (.cst (.int 30)) .nil))) .nil))) (.cons (.tup (.cons (.cst (.str "any")) .nil)) (.cons (.tup (.cons (.cst (.str "nothing")) .nil)) (.cons (.tup (.cons (.cst (.str "readings")) (.cons (.var 5) (.cons (.bin false .pow (.cst (.int 10)) (.cst (.int 9))) .nil)))) (.cons (.tup (.cons (.cst (.str "longest")) (.cons (.bin false .pow (.cst (.int 10)) (.cst (.int 9))) .nil))) .nil)))))))))
abbrev lc9 : IS := .asg (.nm 7) (.bin true .add (.var 7) (.lst false (.cons (.tup (.cons (.cst (.str "readings")) (.cons (.var 4) (.cons (.neg (.cst (.int 1))) .nil)))) (.cons (.tup (.cons (.cst (.str "readings")) (.cons (.var 4) (.cons (.cst (.bl true)) .nil)))) (.cons (.tup (.cons (.cst (.str "readings")) (.cons (.var 4) .nil))) (.cons (.tup (.cons (.cst (.str "longest")) .nil)) (.cons (.tup (.cons (.cst (.str "longest")) (.cons (.neg (.cst (.int 1))) .nil))) (.cons (.tup (.cons (.cst (.str "longest")) (.cons (.cst (.bl true)) .nil))) (.cons (.tup (.cons (.cst (.str "any")) (.cons (.cst (.int 1)) .nil))) (.cons (.tup (.cons (.cst (.str "nothing")) (.cons (.cst (.int 0)) .nil))) (.cons (.tup (.cons (.cst (.str "told")) .nil)) .nil)))))))))))
abbrev lc10 : IS := .asg (.nm 7) (.bin true .add (.var 7) (.lst false (.cons (.tup (.cons (.cst (.str "told")) (.cons (.bin false .mul (.tup (.cons (.cst (.str "a")) .nil)) (.cst (.int 9))) .nil))) (.cons (.tup (.cons (.cst (.str "not told")) (.cons (.lst false (.cons (.cst (.str "a")) .nil)) .nil))) (.cons (.tup (.cons (.cst (.str "text")) (.cons (.var 4) .nil))) (.cons (.cst .non) (.cons (.tup .nil) (.cons (.lst false (.cons (.cst (.str "any")) .nil)) (.cons (.tup (.cons (.lst false .nil) .nil)) (.cons (.cst (.str "any")) (.cons (.tup (.cons (.lst false (.cons (.cst (.str "any")) .nil)) .nil)) (.cons (.tup (.cons (.cst (.str "told")) (.cons (.var 4) (.cons (.var 4) .nil)))) .nil))))))))))))
theorem l_lq5 (k n0 : Nat) (H : AH) (sc gr ox : T) (ts : List T) (x6 x7 x8 x9 x10 : Option T) :
    evS ⟨runFn prg (k + 1), n0, prg.sub, prg.xi⟩ lq5 (qE sc gr (.tup ts) ox x6 x7 x8 x9 x10) H = .next (qE sc gr (.tup ts) ox (some (.ref H.length)) x7 x8 x9 x10) (H ++ [.lst (q1 (.tup ts) ox)]) := by
  have z0 : (0 : Nat) ≤ sizeLine := Nat.zero_le _
  have z1 : (1 : Nat) ≤ sizeLine := thou_line (by omega)
  have z2 : (2 : Nat) ≤ sizeLine := thou_line (by omega)
  have z3 : (3 : Nat) ≤ sizeLine := thou_line (by omega)
  have f0 : ∀ (h : AH), PS.fresh false [] h = .ok (.lst []) h := fun h => fresh_f (xs := []) (Nat.zero_le _)
  have f1 : ∀ (x : T) (h : AH), PS.fresh false [x] h = .ok (.lst [x]) h := fun x h => fresh_f (thou_line (by simp))
  have m8 : ∀ h : AH, binT false .mul (.tup [.str "abc"]) (.int 8) h = .ok (.tup (List.replicate 8 (.str "abc"))) h := fun h => mul_one (j := 8) (by omega) (by omega)
  have ft : PS.fresh true (q1 (.tup ts) ox) H = .ok (.ref H.length) (H ++ [.lst (q1 (.tup ts) ox)]) := fresh_t (thou_line (by simp))
  simp only [evS, evE, evL, R.bind_ok, List.length_cons, List.length_nil, Nat.zero_add, Nat.reduceAdd, if_pos z0, if_pos z1, if_pos z2, if_pos z3, qE, List.getElem?_cons_succ, List.getElem?_cons_zero, m8]
  rw [ft, R.toS_ok]
  rfl
theorem l_lq6 (k n0 q : Nat) (H : AH) (sc gr ox : T) (ts xs : List T) (x6 x7 x8 x9 x10 : Option T) (hq : H[q]? = some (.lst xs)) (hl : xs.length ≤ 500) (ht : ts.length ≤ 8) :
    evS ⟨runFn prg (k + 1), n0, prg.sub, prg.xi⟩ lq6 (qE sc gr (.tup ts) ox (some (.ref q)) x7 x8 x9 x10) H = .next (qE sc gr (.tup ts) ox (some (.ref H.length)) x7 x8 x9 x10) (H ++ [.lst (xs ++ q2 (.tup ts) ts)]) := by
  have z0 : (0 : Nat) ≤ sizeLine := Nat.zero_le _
  have z1 : (1 : Nat) ≤ sizeLine := thou_line (by omega)
  have z2 : (2 : Nat) ≤ sizeLine := thou_line (by omega)
  have z3 : (3 : Nat) ≤ sizeLine := thou_line (by omega)
  have f0 : ∀ (h : AH), PS.fresh false [] h = .ok (.lst []) h := fun h => fresh_f (xs := []) (Nat.zero_le _)
  have f1 : ∀ (x : T) (h : AH), PS.fresh false [x] h = .ok (.lst [x]) h := fun x h => fresh_f (thou_line (by simp))
  have m9 : ∀ h : AH, binT false .mul (.tup [.str "a"]) (.int 9) h = .ok (.tup (List.replicate 9 (.str "a"))) h := fun h => mul_one (j := 9) (by omega) (by omega)
  have bl : ∀ h : AH, bfT false .list [.tup ts] h = .ok (.lst ts) h := fun h => fresh_f (thou_line (by omega))
  have fN : ∀ (a0 a1 a2 a3 a4 a5 a6 a7 : T) (h : AH), PS.fresh false [a0, a1, a2, a3, a4, a5, a6, a7] h = .ok (.lst [a0, a1, a2, a3, a4, a5, a6, a7]) h := fun a0 a1 a2 a3 a4 a5 a6 a7 h => fresh_f (thou_line (by simp))
  have an := add_fresh (ys := q2 (.tup ts) ts) hq (by simp only [List.length_cons, List.length_nil]; omega)
  simp only [evS, evE, evL, R.bind_ok, List.length_cons, List.length_nil, Nat.zero_add, Nat.reduceAdd, if_pos z0, if_pos z1, if_pos z2, if_pos z3, qE, List.getElem?_cons_succ, List.getElem?_cons_zero, m9, bl, fN, f0, f1]
  rw [an, R.toS_ok]
  rfl
theorem l_lq7 (k n0 q : Nat) (H : AH) (sc gr ox : T) (ts xs : List T) (x6 x7 x8 x9 x10 : Option T) (hq : H[q]? = some (.lst xs)) (hl : xs.length ≤ 500) (ht : ts.length ≤ 8) :
    evS ⟨runFn prg (k + 1), n0, prg.sub, prg.xi⟩ lq7 (qE sc gr (.tup ts) ox (some (.ref q)) x7 x8 x9 x10) H = .next (qE sc gr (.tup ts) ox (some (.ref H.length)) x7 x8 x9 x10) (H ++ [.lst (xs ++ q3 (.tup ts))]) := by
  have z0 : (0 : Nat) ≤ sizeLine := Nat.zero_le _
  have z1 : (1 : Nat) ≤ sizeLine := thou_line (by omega)
  have z2 : (2 : Nat) ≤ sizeLine := thou_line (by omega)
  have z3 : (3 : Nat) ≤ sizeLine := thou_line (by omega)
  have f0 : ∀ (h : AH), PS.fresh false [] h = .ok (.lst []) h := fun h => fresh_f (xs := []) (Nat.zero_le _)
  have f1 : ∀ (x : T) (h : AH), PS.fresh false [x] h = .ok (.lst [x]) h := fun x h => fresh_f (thou_line (by simp))
  have fN : ∀ (a0 a1 a2 a3 a4 a5 a6 a7 a8 a9 a10 a11 a12 : T) (h : AH), PS.fresh false [a0, a1, a2, a3, a4, a5, a6, a7, a8, a9, a10, a11, a12] h = .ok (.lst [a0, a1, a2, a3, a4, a5, a6, a7, a8, a9, a10, a11, a12]) h := fun a0 a1 a2 a3 a4 a5 a6 a7 a8 a9 a10 a11 a12 h => fresh_f (thou_line (by simp))
  have an := add_fresh (ys := q3 (.tup ts)) hq (by simp only [List.length_cons, List.length_nil]; omega)
  simp only [evS, evE, evL, R.bind_ok, List.length_cons, List.length_nil, Nat.zero_add, Nat.reduceAdd, if_pos z0, if_pos z1, if_pos z2, if_pos z3, qE, List.getElem?_cons_succ, List.getElem?_cons_zero, fN, f0, f1]
  rw [an, R.toS_ok]
  rfl
theorem l_lc9 (k n0 q : Nat) (H : AH) (sc gr ox : T) (ts xs : List T) (x6 x7 x8 x9 x10 : Option T) (hq : H[q]? = some (.lst xs)) (hl : xs.length ≤ 500) (ht : ts.length ≤ 8) :
    evS ⟨runFn prg (k + 1), n0, prg.sub, prg.xi⟩ lc9 (qE sc gr (.tup ts) ox x6 (some (.ref q)) x8 x9 x10) H = .next (qE sc gr (.tup ts) ox x6 (some (.ref H.length)) x8 x9 x10) (H ++ [.lst (xs ++ c2 (.tup ts))]) := by
  have z0 : (0 : Nat) ≤ sizeLine := Nat.zero_le _
  have z1 : (1 : Nat) ≤ sizeLine := thou_line (by omega)
  have z2 : (2 : Nat) ≤ sizeLine := thou_line (by omega)
  have z3 : (3 : Nat) ≤ sizeLine := thou_line (by omega)
  have f0 : ∀ (h : AH), PS.fresh false [] h = .ok (.lst []) h := fun h => fresh_f (xs := []) (Nat.zero_le _)
  have f1 : ∀ (x : T) (h : AH), PS.fresh false [x] h = .ok (.lst [x]) h := fun x h => fresh_f (thou_line (by simp))
  have fN : ∀ (a0 a1 a2 a3 a4 a5 a6 a7 a8 : T) (h : AH), PS.fresh false [a0, a1, a2, a3, a4, a5, a6, a7, a8] h = .ok (.lst [a0, a1, a2, a3, a4, a5, a6, a7, a8]) h := fun a0 a1 a2 a3 a4 a5 a6 a7 a8 h => fresh_f (thou_line (by simp))
  have ng : ∀ (env : PS.Env) (h : AH), evE ⟨runFn prg (k + 1), n0, prg.sub, prg.xi⟩ (.neg (.cst (.int 1))) env h = .ok (.int (-1)) h := fun env h => rfl
  have an := add_fresh (ys := c2 (.tup ts)) hq (by simp only [List.length_cons, List.length_nil]; omega)
  simp only [evS, evE, evL, R.bind_ok, List.length_cons, List.length_nil, Nat.zero_add, Nat.reduceAdd, if_pos z0, if_pos z1, if_pos z2, if_pos z3, qE, List.getElem?_cons_succ, List.getElem?_cons_zero, fN, f0, f1, ng]
  rw [an, R.toS_ok]
  rfl
theorem l_lc10 (k n0 q : Nat) (H : AH) (sc gr ox : T) (ts xs : List T) (x6 x7 x8 x9 x10 : Option T) (hq : H[q]? = some (.lst xs)) (hl : xs.length ≤ 500) (ht : ts.length ≤ 8) :
    evS ⟨runFn prg (k + 1), n0, prg.sub, prg.xi⟩ lc10 (qE sc gr (.tup ts) ox x6 (some (.ref q)) x8 x9 x10) H = .next (qE sc gr (.tup ts) ox x6 (some (.ref H.length)) x8 x9 x10) (H ++ [.lst (xs ++ c3 (.tup ts))]) := by
  have z0 : (0 : Nat) ≤ sizeLine := Nat.zero_le _
  have z1 : (1 : Nat) ≤ sizeLine := thou_line (by omega)
  have z2 : (2 : Nat) ≤ sizeLine := thou_line (by omega)
  have z3 : (3 : Nat) ≤ sizeLine := thou_line (by omega)
  have f0 : ∀ (h : AH), PS.fresh false [] h = .ok (.lst []) h := fun h => fresh_f (xs := []) (Nat.zero_le _)
  have f1 : ∀ (x : T) (h : AH), PS.fresh false [x] h = .ok (.lst [x]) h := fun x h => fresh_f (thou_line (by simp))
  have m9 : ∀ h : AH, binT false .mul (.tup [.str "a"]) (.int 9) h = .ok (.tup (List.replicate 9 (.str "a"))) h := fun h => mul_one (j := 9) (by omega) (by omega)
  have fN : ∀ (a0 a1 a2 a3 a4 a5 a6 a7 a8 a9 : T) (h : AH), PS.fresh false [a0, a1, a2, a3, a4, a5, a6, a7, a8, a9] h = .ok (.lst [a0, a1, a2, a3, a4, a5, a6, a7, a8, a9]) h := fun a0 a1 a2 a3 a4 a5 a6 a7 a8 a9 h => fresh_f (thou_line (by simp))
  have an := add_fresh (ys := c3 (.tup ts)) hq (by simp only [List.length_cons, List.length_nil]; omega)
  simp only [evS, evE, evL, R.bind_ok, List.length_cons, List.length_nil, Nat.zero_add, Nat.reduceAdd, if_pos z0, if_pos z1, if_pos z2, if_pos z3, qE, List.getElem?_cons_succ, List.getElem?_cons_zero, m9, fN, f0, f1]
  rw [an, R.toS_ok]
  rfl
theorem l_lc8 (k n0 : Nat) {A : Cell} (cs : AH) (sc gr ox : T) (ts : List T) (x6 x7 x8 x9 x10 : Option T) (hA : Bx A) :
    ∃ i j A', Bx A' ∧ 0 ≤ i ∧ i < 9 ∧ 0 ≤ j ∧ j < 30 ∧ evS ⟨runFn prg (k + 1), n0, prg.sub, prg.xi⟩ lc8 (qE sc gr (.tup ts) ox x6 x7 x8 x9 x10) (A :: cs) = .next (qE sc gr (.tup ts) ox x6 (some (.ref (cs.length + 1))) x8 x9 x10) (A' :: (cs ++ [.lst (c1 (.tup ts) ox i j)])) := by
  have z0 : (0 : Nat) ≤ sizeLine := Nat.zero_le _
  have z1 : (1 : Nat) ≤ sizeLine := thou_line (by omega)
  have z2 : (2 : Nat) ≤ sizeLine := thou_line (by omega)
  have z3 : (3 : Nat) ≤ sizeLine := thou_line (by omega)
  have f0 : ∀ (h : AH), PS.fresh false [] h = .ok (.lst []) h := fun h => fresh_f (xs := []) (Nat.zero_le _)
  have f1 : ∀ (x : T) (h : AH), PS.fresh false [x] h = .ok (.lst [x]) h := fun x h => fresh_f (thou_line (by simp))
  obtain ⟨i, A1, e1, i0, i1, b1⟩ := take0 k cs 9 hA (by omega) (by omega)
  obtain ⟨j, A2, e2, j0, j1, b2⟩ := take0 k cs 30 b1 (by omega) (by omega)
  refine ⟨i, j, A2, b2, i0, i1, j0, j1, ?_⟩
  have p9 : ∀ h : AH, binT false .pow (.int 10) (.int 9) h = .ok (.int 1000000000) h := fun h => by
    rw [bin_pow, if_pos (by decide)]; rfl
  have ft : PS.fresh true (c1 (.tup ts) ox i j) (A2 :: cs) = .ok (.ref (cs.length + 1)) (A2 :: (cs ++ [.lst (c1 (.tup ts) ox i j)])) := fresh_t (h := A2 :: cs) (thou_line (by simp))
  simp only [evS, evE, evL, R.bind_ok, List.length_cons, List.length_nil, Nat.zero_add, Nat.reduceAdd, if_pos z0, if_pos z1, if_pos z2, if_pos z3, qE, List.getElem?_cons_succ, List.getElem?_cons_zero, p9, e1, e2]
  rw [ft, R.toS_ok]
  rfl
end LW
end
section
set_option maxRecDepth 100000
set_option maxHeartbeats 1000000
namespace LW
open PySem PS
abbrev lHH (A B C2 C3 : Cell) (qs : List T) (C5 C6 : Cell) (cs : List T) : AH := [A, B, C2, C3, .lst qs, C5, C6, .lst cs]
abbrev lS (s : Nat) (n : Int) : IE := .call 15 (.cons (.var 2) (.cons (.call 11 (.cons (.var 2) (.cons (.slc false (.var s) .none (.some (.cst (.int n)))) .nil))) (.cons (.cst (.int 3)) .nil)))
abbrev lB11 : ISs := .cons (.ex (.bm false .append (.var 6) (.cons (lS 6 5) .nil))) (.cons (.ex (.bm false .append (.var 7) (.cons (lS 7 8) .nil))) .nil)
theorem sp_of (k n0 s n q : Nat) {A : Cell} (cs : AH) (env : PS.Env) (hd rest : List T) (hA : Bx A) (e2 : ∀ h, evE ⟨runFn prg (k + 6), n0, prg.sub, prg.xi⟩ (.var 2) env h = .ok (.ref 0) h) (es : ∀ h, evE ⟨runFn prg (k + 6), n0, prg.sub, prg.xi⟩ (.var s) env h = .ok (.ref q) h) (hq : (A :: cs)[q]? = some (.lst (hd ++ rest))) (hn : hd.length = n) (hl : (hd ++ rest).length ≤ 900) (ne : hd ≠ []) (g : Al 20 2 hd) :
    ∃ w A', Bx A' ∧ Gd 100 3 w ∧ evE ⟨runFn prg (k + 6), n0, prg.sub, prg.xi⟩ (lS s n) env (A :: cs) = .ok w (A' :: cs) := by
  obtain ⟨v, A1, e1, hv, b1⟩ := pick0 (k + 4) cs hd hA ne (by rw [List.length_append] at hl; omega) (gd_plL (by omega) g)
  obtain ⟨w, A2, e3, gw, b2⟩ := spoilt0 k 3 cs 2 v b1 (g v hv)
  refine ⟨w, A2, b2, gw, ?_⟩
  have cu : cutL (hd ++ rest) none (some (n : Int)) = hd := by
    rw [cutL_upto, ← hn, List.take_left']
    rfl
  have esl : evE ⟨runFn prg (k + 6), n0, prg.sub, prg.xi⟩ (.slc false (.var s) .none (.some (.cst (.int n)))) env (A :: cs) = .ok (.lst hd) (A :: cs) := by
    rw [evE, es, R.bind_ok, evO, R.bind_ok, evO, evE, R.bind_ok, R.bind_ok, slc_cell hq, cu, fresh_f (thou_line (by rw [List.length_append] at hl; omega))]
  have eL : evL ⟨runFn prg (k + 6), n0, prg.sub, prg.xi⟩ (.cons (.var 2) (.cons (.slc false (.var s) .none (.some (.cst (.int n)))) .nil)) env (A :: cs) = .ok [.ref 0, .lst hd] (A :: cs) := by
    rw [evL, e2, R.bind_ok, evL, esl, R.bind_ok, evL, R.bind_ok, R.bind_ok]
  have ep := ecall eL e1
  have eL2 : evL ⟨runFn prg (k + 6), n0, prg.sub, prg.xi⟩ (.cons (.var 2) (.cons (.call 11 (.cons (.var 2) (.cons (.slc false (.var s) .none (.some (.cst (.int n)))) .nil))) (.cons (.cst (.int 3)) .nil))) env (A :: cs) = .ok [.ref 0, v, .int 3] (A1 :: cs) := by
    rw [evL, e2, R.bind_ok, evL, ep, R.bind_ok, evL, evE, R.bind_ok, evL, R.bind_ok, R.bind_ok, R.bind_ok]
  exact ecall eL2 e3
structure Sp (hd : List T) (n : Nat) (xs : List T) : Prop where
  ex : ∃ rest, xs = hd ++ rest ∧ Al 100 3 rest
  len : xs.length ≤ n
theorem Sp.put {hd xs : List T} {n : Nat} {w : T} (h : Sp hd n xs) (hw : Gd 100 3 w) : Sp hd (n + 1) (xs ++ [w]) := by
  obtain ⟨⟨rest, rfl, a⟩, l⟩ := h
  exact ⟨⟨rest ++ [w], by rw [List.append_assoc], a.app (.cons hw .nil)⟩, by rw [List.length_append, List.length_singleton]; omega⟩
theorem turn11q (k n0 nq nc : Nat) {A : Cell} (B C2 C3 C5 C6 : Cell) (sc gr tx ox : T) (qh ch qs cs : List T) (x8 x9 x10 : Option T) (hA : Bx A) (gq : Al 20 2 qh) (gc : Al 20 2 ch) (lq : qh.length = 5) (lc : ch.length = 8) (sq : Sp qh nq qs) (scl : Sp ch nc cs) (hnq : nq ≤ 500) (hnc : nc ≤ 500) :
    ∃ A' qs' cs', Bx A' ∧ Sp qh (nq + 1) qs' ∧ Sp ch (nc + 1) cs' ∧ evSs ⟨runFn prg (k + 6), n0, prg.sub, prg.xi⟩ lB11 (qE sc gr tx ox (some (.ref 4)) (some (.ref 7)) x8 x9 x10) (lHH A B C2 C3 qs C5 C6 cs) = .next (qE sc gr tx ox (some (.ref 4)) (some (.ref 7)) x8 x9 x10) (lHH A' B C2 C3 qs' C5 C6 cs') := by
  have nq0 : qh ≠ [] := by intro e; rw [e] at lq; simp at lq
  have nc0 : ch ≠ [] := by intro e; rw [e] at lc; simp at lc
  obtain ⟨⟨rq, e1, aq⟩, l1⟩ := sq
  obtain ⟨⟨rc, e2, ac⟩, l2⟩ := scl
  have z1 : qs.length < sizeLine := by rw [sizeLine_eq]; omega
  have z2 : cs.length < sizeLine := by rw [sizeLine_eq]; omega
  obtain ⟨w, A1, b1, gw, ew⟩ := sp_of k n0 6 5 4 [B, C2, C3, .lst qs, C5, C6, .lst cs] (qE sc gr tx ox (some (.ref 4)) (some (.ref 7)) x8 x9 x10) qh rq hA (fun h => rfl) (fun h => rfl) (by rw [← e1]; rfl) lq (by rw [← e1]; omega) nq0 gq
  have s1 := bm_app2 (C := ⟨runFn prg (k + 6), n0, prg.sub, prg.xi⟩) (a := .var 6) (c := 4) (xs := qs) rfl rfl ew rfl z1
  obtain ⟨v, A2, b2, gv, ev⟩ := sp_of k n0 7 8 7 [B, C2, C3, .lst (qs ++ [w]), C5, C6, .lst cs] (qE sc gr tx ox (some (.ref 4)) (some (.ref 7)) x8 x9 x10) ch rc b1 (fun h => rfl) (fun h => rfl) (by rw [← e2]; rfl) lc (by rw [← e2]; omega) nc0 gc
  have s2 := bm_app2 (C := ⟨runFn prg (k + 6), n0, prg.sub, prg.xi⟩) (a := .var 7) (c := 7) (xs := cs) rfl rfl ev rfl z2
  exact ⟨A2, qs ++ [w], cs ++ [v], b2, Sp.put ⟨⟨rq, e1, aq⟩, l1⟩ gw, Sp.put ⟨⟨rc, e2, ac⟩, l2⟩ gv, (ss_next s1).trans ((ss_next s2).trans rfl)⟩
abbrev lR11 : IS := .forr (.nm 8) (.rng (.cst (.int 6))) lB11
theorem l_r11q (k n0 nq nc : Nat) {A : Cell} (B C2 C3 C5 C6 : Cell) (sc gr tx ox : T) (qh ch qs cs : List T) (x8 x9 x10 : Option T) (hA : Bx A) (gq : Al 20 2 qh) (gc : Al 20 2 ch) (lq : qh.length = 5) (lc : ch.length = 8) (sq : Sp qh nq qs) (scl : Sp ch nc cs) (hnq : nq ≤ 400) (hnc : nc ≤ 400) :
    ∃ A' qs' cs' y8, Bx A' ∧ Sp qh (nq + 6) qs' ∧ Sp ch (nc + 6) cs' ∧ evS ⟨runFn prg (k + 6), n0, prg.sub, prg.xi⟩ lR11 (qE sc gr tx ox (some (.ref 4)) (some (.ref 7)) x8 x9 x10) (lHH A B C2 C3 qs C5 C6 cs) = .next (qE sc gr tx ox (some (.ref 4)) (some (.ref 7)) y8 x9 x10) (lHH A' B C2 C3 qs' C5 C6 cs') := by
  obtain ⟨e2, H2, el, q⟩ := forL_inv (g := TG.nm 8) (body := fun env h => evSs ⟨runFn prg (k + 6), n0, prg.sub, prg.xi⟩ lB11 env h) (chk := (⟨rangeT 0 6, none⟩ : Items).chk)
    (fun d e H => ∃ A qs cs y8, e = qE sc gr tx ox (some (.ref 4)) (some (.ref 7)) y8 x9 x10 ∧ H = lHH A B C2 C3 qs C5 C6 cs ∧ Bx A ∧ Sp qh (nq + d.length) qs ∧ Sp ch (nc + d.length) cs ∧ d.length ≤ 6)
    (done := []) (rest := rangeT 0 6) (env := qE sc gr tx ox (some (.ref 4)) (some (.ref 7)) x8 x9 x10) (h := lHH A B C2 C3 qs C5 C6 cs)
    ⟨A, qs, cs, x8, rfl, rfl, hA, sq, scl, by simp⟩
    (fun d x r e H eq i => by
      obtain ⟨A, qs, cs, y8, rfl, rfl, b, s1, s2, dl⟩ := i
      have hd : (d ++ [x]).length ≤ 6 := by
        have : 6 = (d ++ x :: r).length := by rw [← eq]; simp [range_len]
        simp at this ⊢
        omega
      obtain ⟨A', qs', cs', b', s1', s2', es⟩ := turn11q k n0 (nq + d.length) (nc + d.length) B C2 C3 C5 C6 sc gr tx ox qh ch qs cs (some x) x9 x10 b gq gc lq lc s1 s2 (by omega) (by omega)
      refine ⟨_, rfl, _, _, es, trivial, A', qs', cs', _, rfl, rfl, b', ?_, ?_, hd⟩
      · rw [List.length_append, List.length_singleton, ← Nat.add_assoc]; exact s1'
      · rw [List.length_append, List.length_singleton, ← Nat.add_assoc]; exact s2')
  obtain ⟨A', qs', cs', y8, rfl, rfl, b, s1, s2, dl⟩ := q
  have l6 : ([] ++ rangeT 0 6).length = 6 := by simp [range_len]
  rw [l6] at s1 s2
  refine ⟨A', qs', cs', y8, b, s1, s2, ?_⟩
  have ei : evI ⟨runFn prg (k + 6), n0, prg.sub, prg.xi⟩ (.rng (.cst (.int 6))) (qE sc gr tx ox (some (.ref 4)) (some (.ref 7)) x8 x9 x10) (lHH A B C2 C3 qs C5 C6 cs) = .ok ⟨rangeT 0 6, none⟩ (lHH A B C2 C3 qs C5 C6 cs) := rng_items (n := 6) (h1 := lHH A B C2 C3 qs C5 C6 cs) rfl (small_nat (by omega))
  unfold evS
  rw [ei, R.toS_ok]
  exact el
theorem ne_self {h : AH} {n : Nat} {t : T} (hd : DD n t) (hn : n ≤ 180) (s : snap h t = t) : cmpT .ne h t t = some false := by
  show (eqT (snap h t) (snap h t)).map (!·) = _
  rw [s, eqT_B hd hd (.inl hn), eqB_self hd]
  rfl
theorem dd_two {n : Nat} {w : Str} {v : T} (hv : DD n v) : DD (n + 1) (.tup [.str w, v]) := dd_tup fun x hx => by
  simp at hx
  rcases hx with rfl | rfl
  · exact ⟨_, rfl, Nat.zero_le _⟩
  · exact hv
theorem asked_dd {v : T} (g : Gd 100 3 v) : DD 4 (asked v) := by
  have base : DD 4 (.tup [.str "longest"]) := dd_tup fun x hx => by
    simp at hx; subst hx; exact ⟨_, rfl, Nat.zero_le _⟩
  unfold asked
  split
  · rename_i w t r
    have ht : DD 3 t := by
      cases g with
      | tup n xs hl hx =>
        obtain ⟨d, e, l⟩ := gd_dd (hx t (by simp))
        exact ⟨d, e, by omega⟩
    split
    · exact dd_two ht
    · split
      · exact dd_two ht
      · exact base
  · exact base
theorem asked_tup (v : T) : ∃ xs, asked v = .tup xs := by
  unfold asked
  split
  · split
    · exact ⟨_, rfl⟩
    · split <;> exact ⟨_, rfl⟩
  · exact ⟨_, rfl⟩
abbrev lV (f : Nat) : IE := .call f (.cons (.var 9) .nil)
abbrev lPV (f : Nat) : IE := .call f (.cons (.var 3) (.cons (.var 9) .nil))
abbrev lDue (f : Nat) : IS := .ife (.not (.call 14 (.cons (lPV f) (.cons (.var 10) .nil)))) (.cons (.ret true (.cst (.bl false)))
  .nil) .nil
theorem due_row (k n0 f : Nat) (H : AH) (env : PS.Env) (p v : T) (b : Bool) (e3 : evE ⟨runFn prg (k + 1), n0, prg.sub, prg.xi⟩ (.var 3) env H = .ok p H) (e9 : evE ⟨runFn prg (k + 1), n0, prg.sub, prg.xi⟩ (.var 9) env H = .ok v H) (e10 : evE ⟨runFn prg (k + 1), n0, prg.sub, prg.xi⟩ (.var 10) env H = .ok (.bl b) H) (ef : runFn prg (k + 1) f [p, v] H = .ok (.bl b) H) :
    evS ⟨runFn prg (k + 1), n0, prg.sub, prg.xi⟩ (lDue f) env H = .next env H := by
  have eL : evL ⟨runFn prg (k + 1), n0, prg.sub, prg.xi⟩ (.cons (.var 3) (.cons (.var 9) .nil)) env H = .ok [p, v] H := by
    rw [evL, e3, R.bind_ok, evL, e9, R.bind_ok, evL, R.bind_ok, R.bind_ok]
  have eL2 : evL ⟨runFn prg (k + 1), n0, prg.sub, prg.xi⟩ (.cons (lPV f) (.cons (.var 10) .nil)) env H = .ok [.bl b, .bl b] H := by
    rw [evL, ecall eL ef, R.bind_ok, evL, e10, R.bind_ok, evL, R.bind_ok, R.bind_ok]
  have c := bnot (bcall (ecall eL2 (p_is_due k H b b)))
  rw [show (!(b == b)) = false from by cases b <;> rfl] at c
  exact (ife_f c).trans rfl
abbrev lNE (i : Int) (w : Str) : IE := .cmp .ne (.call 40 (.cons (.cst (.int i)) (.cons (.var 3) (.cons (.var 9) .nil)))) (.tup (.cons (.cst (.str w)) (.cons (.var 9) .nil)))
theorem ne_row (k n0 : Nat) (H : AH) (env : PS.Env) (i : Int) (w : Str) (p v : T) (hv : DD 100 v) (e3 : evE ⟨runFn prg k, n0, prg.sub, prg.xi⟩ (.var 3) env H = .ok p H) (e9 : evE ⟨runFn prg k, n0, prg.sub, prg.xi⟩ (.var 9) env H = .ok v H) (ef : runFn prg k 40 [.int i, p, v] H = .ok (.tup [.str w, v]) H) :
    evB ⟨runFn prg k, n0, prg.sub, prg.xi⟩ (lNE i w) env H = .ok false H := by
  have eL : evL ⟨runFn prg k, n0, prg.sub, prg.xi⟩ (.cons (.cst (.int i)) (.cons (.var 3) (.cons (.var 9) .nil))) env H = .ok [.int i, p, v] H := by
    rw [evL, evE, R.bind_ok, evL, e3, R.bind_ok, evL, e9, R.bind_ok, evL, R.bind_ok, R.bind_ok, R.bind_ok]
  have et : evE ⟨runFn prg k, n0, prg.sub, prg.xi⟩ (.tup (.cons (.cst (.str w)) (.cons (.var 9) .nil))) env H = .ok (.tup [.str w, v]) H := by
    rw [evE, evL, evE, R.bind_ok, evL, e9, R.bind_ok, evL, R.bind_ok, R.bind_ok, R.bind_ok, if_pos (thou_line (by simp))]
  exact bcmp (ecmp (ecall eL ef) et (ne_self (dd_two hv) (by omega) rfl))
theorem bvar {C : PS.Ctx} {i : Nat} {env : PS.Env} {h : AH} {b : Bool} (e : evE C (.var i) env h = .ok (.bl b) h) : evB C (.var i) env h = .ok b h := by
  show R.isB (evE C (.var i) env h) = _
  rw [e]; rfl
abbrev lX12 : IS := .ife (.and (.not (.var 10)) (.or (lNE 0 "question") (lNE 1 "question"))) (.cons (.ret true (.cst (.bl false)))
  .nil) .nil
abbrev lB12 : ISs := .cons (.asg (.nm 10) (lV 38)) (.cons (lDue 29) (.cons lX12 .nil))
theorem turn12 (k n0 : Nat) (H : AH) (sc gr tx ox v : T) (x6 x7 x8 x10 : Option T) (gv : Gd 100 3 v) :
    ∃ y10, evSs ⟨runFn prg (k + 6), n0, prg.sub, prg.xi⟩ lB12 (qE sc gr tx ox x6 x7 x8 (some v) x10) H = .next (qE sc gr tx ox x6 x7 x8 (some v) y10) H := by
  have pv := gd_pl (by omega) gv
  have dv : DD 100 v := by
    obtain ⟨d, e, l⟩ := gd_dd gv
    exact ⟨d, e, by omega⟩
  refine ⟨some (.bl (isQ v)), ?_⟩
  have s1 : evS ⟨runFn prg (k + 6), n0, prg.sub, prg.xi⟩ (.asg (.nm 10) (lV 38)) (qE sc gr tx ox x6 x7 x8 (some v) x10) H = .next (qE sc gr tx ox x6 x7 x8 (some v) (some (.bl (isQ v)))) H := by
    have e := ecall (k := k + 6) (n0 := n0) (es := .cons (.var 9) .nil) (env := qE sc gr tx ox x6 x7 x8 (some v) x10) (h := H) (h1 := H) (xs := [v]) rfl (p_lis_question (k + 3) H v pv)
    unfold evS
    rw [e, R.toS_ok]
    rfl
  have s2 := due_row (k + 5) n0 29 H (qE sc gr tx ox x6 x7 x8 (some v) (some (.bl (isQ v)))) (.ref 1) v (isQ v) rfl rfl rfl (p_is_question (k + 3) H (.ref 1) v pv)
  have s3 : evS ⟨runFn prg (k + 6), n0, prg.sub, prg.xi⟩ lX12 (qE sc gr tx ox x6 x7 x8 (some v) (some (.bl (isQ v)))) H = .next (qE sc gr tx ox x6 x7 x8 (some v) (some (.bl (isQ v)))) H := by
    have c0 := bnot (bvar (C := ⟨runFn prg (k + 6), n0, prg.sub, prg.xi⟩) (i := 10) (env := qE sc gr tx ox x6 x7 x8 (some v) (some (.bl (isQ v)))) (h := H) (b := isQ v) rfl)
    cases hq : isQ v with
    | true =>
      rw [hq] at c0
      exact (ife_f (band_f c0)).trans rfl
    | false =>
      rw [hq] at c0
      have n1 := ne_row (k + 6) n0 H (qE sc gr tx ox x6 x7 x8 (some v) (some (.bl false))) 0 "question" (.ref 1) v dv rfl rfl (p_error_q k H (.ref 1) v 0 (.inl rfl) pv hq)
      have n2 := ne_row (k + 6) n0 H (qE sc gr tx ox x6 x7 x8 (some v) (some (.bl false))) 1 "question" (.ref 1) v dv rfl rfl (p_error_q k H (.ref 1) v 1 (.inr rfl) pv hq)
      exact (ife_f ((band_t c0).trans ((bor_f n1).trans n2))).trans rfl
  exact (ss_next s1).trans ((ss_next s2).trans ((ss_next s3).trans rfl))
abbrev lNA : IE := .cmp .ne (lPV 31) (lV 39)
abbrev lX13 : IS := .ife (.or (.and (.var 10) lNA) (.and (.not (.var 10)) (lNE 2 "claim"))) (.cons (.ret true (.cst (.bl false)))
  .nil) .nil
abbrev lB13 : ISs := .cons (.asg (.nm 10) (lV 37)) (.cons (lDue 30) (.cons lX13 .nil))
theorem turn13 (k n0 : Nat) (H : AH) (sc gr tx ox v : T) (x6 x7 x8 x10 : Option T) (gv : Gd 100 3 v) :
    ∃ y10, evSs ⟨runFn prg (k + 6), n0, prg.sub, prg.xi⟩ lB13 (qE sc gr tx ox x6 x7 x8 (some v) x10) H = .next (qE sc gr tx ox x6 x7 x8 (some v) y10) H := by
  have pv := gd_pl (by omega) gv
  have dv : DD 100 v := by
    obtain ⟨d, e, l⟩ := gd_dd gv
    exact ⟨d, e, by omega⟩
  refine ⟨some (.bl (isC v)), ?_⟩
  have s1 : evS ⟨runFn prg (k + 6), n0, prg.sub, prg.xi⟩ (.asg (.nm 10) (lV 37)) (qE sc gr tx ox x6 x7 x8 (some v) x10) H = .next (qE sc gr tx ox x6 x7 x8 (some v) (some (.bl (isC v)))) H := by
    have e := ecall (k := k + 6) (n0 := n0) (es := .cons (.var 9) .nil) (env := qE sc gr tx ox x6 x7 x8 (some v) x10) (h := H) (h1 := H) (xs := [v]) rfl (p_claim_form (k + 3) H v pv)
    unfold evS
    rw [e, R.toS_ok]
    rfl
  have s2 := due_row (k + 5) n0 30 H (qE sc gr tx ox x6 x7 x8 (some v) (some (.bl (isC v)))) (.ref 1) v (isC v) rfl rfl rfl (p_is_claim (k + 3) H (.ref 1) v pv)
  have s3 : evS ⟨runFn prg (k + 6), n0, prg.sub, prg.xi⟩ lX13 (qE sc gr tx ox x6 x7 x8 (some v) (some (.bl (isC v)))) H = .next (qE sc gr tx ox x6 x7 x8 (some v) (some (.bl (isC v)))) H := by
    have c1 := bvar (C := ⟨runFn prg (k + 6), n0, prg.sub, prg.xi⟩) (i := 10) (env := qE sc gr tx ox x6 x7 x8 (some v) (some (.bl (isC v)))) (h := H) (b := isC v) rfl
    have c0 := bnot c1
    cases hq : isC v with
    | true =>
      rw [hq] at c0 c1
      have ea := ecall (k := k + 6) (n0 := n0) (es := .cons (.var 3) (.cons (.var 9) .nil)) (env := qE sc gr tx ox x6 x7 x8 (some v) (some (.bl true))) (h := H) (h1 := H) (xs := [.ref 1, v]) rfl (p_question_of (k + 2) H (.ref 1) v pv hq)
      have eb := ecall (k := k + 6) (n0 := n0) (es := .cons (.var 9) .nil) (env := qE sc gr tx ox x6 x7 x8 (some v) (some (.bl true))) (h := H) (h1 := H) (xs := [v]) rfl (p_asked (k + 5) H v pv hq)
      have sn : snap H (asked v) = asked v := by
        obtain ⟨xs, e⟩ := asked_tup v
        rw [e]; rfl
      have n1 := bcmp (ecmp ea eb (ne_self (h := H) (asked_dd gv) (by omega) sn))
      exact (ife_f ((bor_f ((band_t c1).trans n1)).trans (band_f c0))).trans rfl
    | false =>
      rw [hq] at c0 c1
      have n2 := ne_row (k + 6) n0 H (qE sc gr tx ox x6 x7 x8 (some v) (some (.bl false))) 2 "claim" (.ref 1) v dv rfl rfl (p_error_c k H (.ref 1) v pv hq)
      exact (ife_f ((bor_f (band_f c1)).trans ((band_t c0).trans n2))).trans rfl
  exact (ss_next s1).trans ((ss_next s2).trans ((ss_next s3).trans rfl))
theorem loop_vals (k n0 s q : Nat) (H : AH) (sc gr tx ox : T) (B : ISs) (vs : List T) (x6 x7 x8 x9 x10 : Option T) (hs : ∀ y9 y10, evE ⟨runFn prg (k + 6), n0, prg.sub, prg.xi⟩ (.var s) (qE sc gr tx ox x6 x7 x8 y9 y10) H = .ok (.ref q) H) (hq : H[q]? = some (.lst vs))
    (turn : ∀ v y10, v ∈ vs → ∃ z10, evSs ⟨runFn prg (k + 6), n0, prg.sub, prg.xi⟩ B (qE sc gr tx ox x6 x7 x8 (some v) y10) H = .next (qE sc gr tx ox x6 x7 x8 (some v) z10) H) :
    ∃ y9 y10, evS ⟨runFn prg (k + 6), n0, prg.sub, prg.xi⟩ (.forr (.nm 9) (.e (.var s)) B) (qE sc gr tx ox x6 x7 x8 x9 x10) H = .next (qE sc gr tx ox x6 x7 x8 y9 y10) H := by
  obtain ⟨e2, H2, el, i⟩ := forL_inv (g := TG.nm 9) (body := fun env h => evSs ⟨runFn prg (k + 6), n0, prg.sub, prg.xi⟩ B env h) (chk := (⟨vs, some (q, .lst vs)⟩ : Items).chk)
    (fun d e H' => ∃ y9 y10, e = qE sc gr tx ox x6 x7 x8 y9 y10 ∧ H' = H)
    (done := []) (rest := vs) (env := qE sc gr tx ox x6 x7 x8 x9 x10) (h := H)
    ⟨x9, x10, rfl, rfl⟩
    (fun d x r e H' eq i => by
      obtain ⟨y9, y10, rfl, rfl⟩ := i
      obtain ⟨z10, es⟩ := turn x y10 (by rw [show vs = d ++ x :: r from by simpa using eq]; simp)
      exact ⟨_, rfl, _, _, es, hq, _, _, rfl, rfl⟩)
  obtain ⟨y9, y10, rfl, rfl⟩ := i
  refine ⟨y9, y10, ?_⟩
  have ei : evI ⟨runFn prg (k + 6), n0, prg.sub, prg.xi⟩ (.e (.var s)) (qE sc gr tx ox x6 x7 x8 x9 x10) H2 = .ok ⟨vs, some (q, .lst vs)⟩ H2 := by
    rw [evI, hs, R.bind_ok, items_cell hq]
    rfl
  unfold evS
  rw [ei, R.toS_ok]
  exact el
end LW
end
section
set_option maxRecDepth 100000
set_option maxHeartbeats 1000000
namespace LW
open PySem PS
theorem Sp.all {hd xs : List T} {n : Nat} (h : Sp hd n xs) (a : Al 20 2 hd) : ∀ v ∈ xs, Gd 100 3 v := by
  obtain ⟨⟨rest, rfl, b⟩, _⟩ := h
  exact (a.up (by omega)).app b
theorem pure_law (k : Nat) (ns : List Int) : ∃ h', runFn prg (k + 21) 25 [.lst (ns.map T.int)] [] = .ok (.bl true) h' := by
  obtain ⟨K, rs, eg, k1, k2, ne, g⟩ := p_grammar (k + 16) ns
  obtain ⟨g0, s0, hg, hs, eb⟩ := p_box (k + 19) [] ns 4 (by omega) (by omega)
  rw [List.nil_append] at eb
  have hl := g.len
  have gK : Gd 100 3 (.int K) := .int _ _ (by omega) (by omega)
  have gR : Gd 100 3 (.tup rs) := .tup _ _ (by omega) fun x hx => gd_mono (g.ok x hx).2 (by omega) (by omega)
  have em := p_made (k + 14) [.lst [.int g0, .int s0]] (.int K) (.tup rs) (gd_pl (by omega) gK) (gd_pl (by omega) gR) (gi_due k1 k2 ne g)
  have b0 : Bx (.lst [.int g0, .int s0]) := ⟨_, _, hg, hs, rfl⟩
  -- two texts
  obtain ⟨ts, H1, e4, bb1, tl, tg⟩ := p_drawn_text (k + 17) K 0 8 [.lst [.int g0, .int s0], pObj (.int K) (.tup rs)] rs (bx_box b0) g (by omega)
  obtain ⟨A1, b1, rfl⟩ := bx_only bb1
  obtain ⟨os, H2, e5, bb2, ol, og⟩ := p_drawn_text (k + 17) K 0 3 [A1, pObj (.int K) (.tup rs)] rs (bx_box b1) g (by omega)
  obtain ⟨A2, b2, rfl⟩ := bx_only bb2
  have gx : Gd 20 1 (.tup ts) := .tup _ _ (by omega) tg
  have gl : Gd 20 1 (.lst ts) := .lst _ _ (by omega) tg
  have go : Gd 20 1 (.tup os) := .tup _ _ (by omega) og
  have s1 : evS ⟨runFn prg (k + 20), 0, prg.sub, prg.xi⟩ (.asg (.nm 1) (.call 19 (.cons (.var 0) (.cons (.cst (.int 9)) .nil)))) [some (.lst (ns.map T.int)), none, none, none, none, none, none, none, none, none, none] [] = .next [some (.lst (ns.map T.int)), some (.tup [.int K, .tup rs]), none, none, none, none, none, none, none, none, none] [] := by
    have e := ecall (k := k + 20) (n0 := 0) (es := .cons (.var 0) (.cons (.cst (.int 9)) .nil)) (env := [some (.lst (ns.map T.int)), none, none, none, none, none, none, none, none, none, none]) (h := []) (h1 := []) (xs := [.lst (ns.map T.int), .int 9]) rfl eg
    unfold evS
    rw [e, R.toS_ok]
    rfl
  have s2 : evS ⟨runFn prg (k + 20), 0, prg.sub, prg.xi⟩ (.asg (.nm 2) (.call 9 (.cons (.var 0) (.cons (.cst (.int 4)) .nil)))) [some (.lst (ns.map T.int)), some (.tup [.int K, .tup rs]), none, none, none, none, none, none, none, none, none] [] = .next [some (.lst (ns.map T.int)), some (.tup [.int K, .tup rs]), some (.ref 0), none, none, none, none, none, none, none, none] [.lst [.int g0, .int s0]] := by
    have e := ecall (k := k + 20) (n0 := 0) (es := .cons (.var 0) (.cons (.cst (.int 4)) .nil)) (env := [some (.lst (ns.map T.int)), some (.tup [.int K, .tup rs]), none, none, none, none, none, none, none, none, none]) (h := []) (h1 := []) (xs := [.lst (ns.map T.int), .int 4]) rfl eb
    unfold evS
    rw [e, R.toS_ok]
    rfl
  have s3 : evS ⟨runFn prg (k + 20), 0, prg.sub, prg.xi⟩ (.asg (.nm 3) (.call 20 (.cons (.var 1) .nil))) [some (.lst (ns.map T.int)), some (.tup [.int K, .tup rs]), some (.ref 0), none, none, none, none, none, none, none, none] [.lst [.int g0, .int s0]] = .next [some (.lst (ns.map T.int)), some (.tup [.int K, .tup rs]), some (.ref 0), some (.ref 1), none, none, none, none, none, none, none] [.lst [.int g0, .int s0], pObj (.int K) (.tup rs)] := by
    have e := ecall (k := k + 20) (n0 := 0) (es := .cons (.var 1) .nil) (env := [some (.lst (ns.map T.int)), some (.tup [.int K, .tup rs]), some (.ref 0), none, none, none, none, none, none, none, none]) (h := [.lst [.int g0, .int s0]]) (h1 := [.lst [.int g0, .int s0]]) (xs := [.tup [.int K, .tup rs]]) rfl em
    unfold evS
    rw [e, R.toS_ok]
    rfl
  have s4 : evS ⟨runFn prg (k + 20), 0, prg.sub, prg.xi⟩ (.asg (.tp (.cons (.nm 4) (.cons (.nm 5) .nil))) (.tup (.cons (.call 35 (.cons (.var 2) (.cons (.var 1) (.cons (.cst (.int 8)) .nil)))) (.cons (.call 35 (.cons (.var 2) (.cons (.var 1) (.cons (.cst (.int 3)) .nil)))) .nil)))) [some (.lst (ns.map T.int)), some (.tup [.int K, .tup rs]), some (.ref 0), some (.ref 1), none, none, none, none, none, none, none] [.lst [.int g0, .int s0], pObj (.int K) (.tup rs)] = .next (qE (.lst (ns.map T.int)) (.tup [.int K, .tup rs]) (.tup ts) (.tup os) none none none none none) [A2, pObj (.int K) (.tup rs)] := by
    have t1 := ecall (k := k + 20) (n0 := 0) (es := .cons (.var 2) (.cons (.var 1) (.cons (.cst (.int 8)) .nil))) (env := [some (.lst (ns.map T.int)), some (.tup [.int K, .tup rs]), some (.ref 0), some (.ref 1), none, none, none, none, none, none, none]) (h := [.lst [.int g0, .int s0], pObj (.int K) (.tup rs)]) (h1 := [.lst [.int g0, .int s0], pObj (.int K) (.tup rs)]) (xs := [.ref 0, .tup [.int K, .tup rs], .int 8]) rfl e4
    have t2 := ecall (k := k + 20) (n0 := 0) (es := .cons (.var 2) (.cons (.var 1) (.cons (.cst (.int 3)) .nil))) (env := [some (.lst (ns.map T.int)), some (.tup [.int K, .tup rs]), some (.ref 0), some (.ref 1), none, none, none, none, none, none, none]) (h := [A1, pObj (.int K) (.tup rs)]) (h1 := [A1, pObj (.int K) (.tup rs)]) (xs := [.ref 0, .tup [.int K, .tup rs], .int 3]) rfl e5
    unfold evS
    rw [evE, evL, t1, R.bind_ok, evL, t2, R.bind_ok, evL, R.bind_ok, R.bind_ok, R.bind_ok, if_pos (show [T.tup ts, T.tup os].length ≤ sizeLine from thou_line (by simp)), R.toS_ok]
    rfl
  have s5 := l_lq5 (k + 19) 0 [A2, pObj (.int K) (.tup rs)] (.lst (ns.map T.int)) (.tup [.int K, .tup rs]) (.tup os) ts none none none none none
  have s6 := l_lq6 (k + 19) 0 2 [A2, pObj (.int K) (.tup rs), .lst (q1 (.tup ts) (.tup os))] (.lst (ns.map T.int)) (.tup [.int K, .tup rs]) (.tup os) ts (q1 (.tup ts) (.tup os)) none none none none none rfl (by simp) tl
  have s7 := l_lq7 (k + 19) 0 3 [A2, pObj (.int K) (.tup rs), .lst (q1 (.tup ts) (.tup os)), .lst (q1 (.tup ts) (.tup os) ++ q2 (.tup ts) ts)] (.lst (ns.map T.int)) (.tup [.int K, .tup rs]) (.tup os) ts (q1 (.tup ts) (.tup os) ++ q2 (.tup ts) ts) none none none none none rfl (by simp) tl
  obtain ⟨i, j, A3, b3, i0, i1, j0, j1, s8⟩ := l_lc8 (k + 19) 0 (A := A2) [pObj (.int K) (.tup rs), .lst (q1 (.tup ts) (.tup os)), .lst (q1 (.tup ts) (.tup os) ++ q2 (.tup ts) ts), .lst (q1 (.tup ts) (.tup os) ++ q2 (.tup ts) ts ++ q3 (.tup ts))] (.lst (ns.map T.int)) (.tup [.int K, .tup rs]) (.tup os) ts (some (.ref 4)) none none none none b2
  have s9 := l_lc9 (k + 19) 0 5 [A3, pObj (.int K) (.tup rs), .lst (q1 (.tup ts) (.tup os)), .lst (q1 (.tup ts) (.tup os) ++ q2 (.tup ts) ts), .lst (q1 (.tup ts) (.tup os) ++ q2 (.tup ts) ts ++ q3 (.tup ts)), .lst (c1 (.tup ts) (.tup os) i j)] (.lst (ns.map T.int)) (.tup [.int K, .tup rs]) (.tup os) ts (c1 (.tup ts) (.tup os) i j) (some (.ref 4)) none none none none rfl (by simp) tl
  have s10 := l_lc10 (k + 19) 0 6 [A3, pObj (.int K) (.tup rs), .lst (q1 (.tup ts) (.tup os)), .lst (q1 (.tup ts) (.tup os) ++ q2 (.tup ts) ts), .lst (q1 (.tup ts) (.tup os) ++ q2 (.tup ts) ts ++ q3 (.tup ts)), .lst (c1 (.tup ts) (.tup os) i j), .lst (c1 (.tup ts) (.tup os) i j ++ c2 (.tup ts))] (.lst (ns.map T.int)) (.tup [.int K, .tup rs]) (.tup os) ts (c1 (.tup ts) (.tup os) i j ++ c2 (.tup ts)) (some (.ref 4)) none none none none rfl (by simp) tl
  have aq := q1_al gx go
  have ac := c1_al gx go i0 i1 j0 j1
  have spq : Sp (q1 (.tup ts) (.tup os)) 30 (q1 (.tup ts) (.tup os) ++ q2 (.tup ts) ts ++ q3 (.tup ts)) := ⟨⟨q2 (.tup ts) ts ++ q3 (.tup ts), by rw [List.append_assoc], ((q2_al gx gl).up (by omega)).app ((q3_al gx).up (by omega))⟩, by simp⟩
  have spc : Sp (c1 (.tup ts) (.tup os) i j) 30 (c1 (.tup ts) (.tup os) i j ++ c2 (.tup ts) ++ c3 (.tup ts)) := ⟨⟨c2 (.tup ts) ++ c3 (.tup ts), by rw [List.append_assoc], ((c2_al gx).up (by omega)).app ((c3_al gx).up (by omega))⟩, by simp⟩
  obtain ⟨A4, qs, cs, y8, b4, sq, sc, s11⟩ := l_r11q (k + 14) 0 30 30 (A := A3) (pObj (.int K) (.tup rs)) (.lst (q1 (.tup ts) (.tup os))) (.lst (q1 (.tup ts) (.tup os) ++ q2 (.tup ts) ts)) (.lst (c1 (.tup ts) (.tup os) i j)) (.lst (c1 (.tup ts) (.tup os) i j ++ c2 (.tup ts))) (.lst (ns.map T.int)) (.tup [.int K, .tup rs]) (.tup ts) (.tup os) _ _ _ _ none none none b3 aq ac rfl rfl spq spc (by omega) (by omega)
  obtain ⟨y9, y10, s12⟩ := loop_vals (k + 14) 0 6 4 (lHH A4 (pObj (.int K) (.tup rs)) (.lst (q1 (.tup ts) (.tup os))) (.lst (q1 (.tup ts) (.tup os) ++ q2 (.tup ts) ts)) qs (.lst (c1 (.tup ts) (.tup os) i j)) (.lst (c1 (.tup ts) (.tup os) i j ++ c2 (.tup ts))) cs) (.lst (ns.map T.int)) (.tup [.int K, .tup rs]) (.tup ts) (.tup os) lB12 qs (some (.ref 4)) (some (.ref 7)) y8 none none (fun _ _ => rfl) rfl (fun v y10 hv => turn12 (k + 14) 0 _ _ _ _ _ v _ _ _ y10 (sq.all aq v hv))
  obtain ⟨z9, z10, s13⟩ := loop_vals (k + 14) 0 7 7 (lHH A4 (pObj (.int K) (.tup rs)) (.lst (q1 (.tup ts) (.tup os))) (.lst (q1 (.tup ts) (.tup os) ++ q2 (.tup ts) ts)) qs (.lst (c1 (.tup ts) (.tup os) i j)) (.lst (c1 (.tup ts) (.tup os) i j ++ c2 (.tup ts))) cs) (.lst (ns.map T.int)) (.tup [.int K, .tup rs]) (.tup ts) (.tup os) lB13 cs (some (.ref 4)) (some (.ref 7)) y8 y9 y10 (fun _ _ => rfl) rfl (fun v y10 hv => turn13 (k + 14) 0 _ _ _ _ _ v _ _ _ y10 (sc.all ac v hv))
  have s14 : evS ⟨runFn prg (k + 20), 0, prg.sub, prg.xi⟩ (.ret true (.cst (.bl true))) (qE (.lst (ns.map T.int)) (.tup [.int K, .tup rs]) (.tup ts) (.tup os) (some (.ref 4)) (some (.ref 7)) y8 z9 z10) (lHH A4 (pObj (.int K) (.tup rs)) (.lst (q1 (.tup ts) (.tup os))) (.lst (q1 (.tup ts) (.tup os) ++ q2 (.tup ts) ts)) qs (.lst (c1 (.tup ts) (.tup os) i j)) (.lst (c1 (.tup ts) (.tup os) i j ++ c2 (.tup ts))) cs) = .ret (some 0) (.bl true) (lHH A4 (pObj (.int K) (.tup rs)) (.lst (q1 (.tup ts) (.tup os))) (.lst (q1 (.tup ts) (.tup os) ++ q2 (.tup ts) ts)) qs (.lst (c1 (.tup ts) (.tup os) i j)) (.lst (c1 (.tup ts) (.tup os) i j ++ c2 (.tup ts))) cs) := rfl
  refine ⟨[], ?_⟩
  rw [run_eq (fn := ⟨1, 11, true, ir_law⟩) rfl rfl]
  have es : evSs ⟨runFn prg (k + 20), List.length ([] : AH), prg.sub, prg.xi⟩ ir_law ([T.lst (ns.map T.int)].map some ++ List.replicate (11 - 1) none) [] = .ret (some 0) (.bl true) (lHH A4 (pObj (.int K) (.tup rs)) (.lst (q1 (.tup ts) (.tup os))) (.lst (q1 (.tup ts) (.tup os) ++ q2 (.tup ts) ts)) qs (.lst (c1 (.tup ts) (.tup os) i j)) (.lst (c1 (.tup ts) (.tup os) i j ++ c2 (.tup ts))) cs) :=
    (ss_next s1).trans ((ss_next s2).trans ((ss_next s3).trans ((ss_next s4).trans ((ss_next s5).trans ((ss_next s6).trans ((ss_next s7).trans ((ss_next s8).trans ((ss_next s9).trans ((ss_next s10).trans ((ss_next s11).trans ((ss_next s12).trans ((ss_next s13).trans (ss_ret s14)))))))))))))
  rw [es]
  exact end_ret (h := []) (m := some 0) (t := .bl true) (.inr rfl) rfl
end LW
end
set_option maxRecDepth 100000 in
set_option maxHeartbeats 8000000 in
theorem PySem.Challenge.cw_treestacks_k40_questions_and_claims_by_f_holds : PySem.Challenge.rw_treestacks_k40_questions_and_claims_by_f.Holds := by
  exact LW.holds_of (k := 21) ⟨rfl, by decide, by decide⟩ fun ns _ => LW.pure_law 0 ns
