import PyProof.Rows.All
import Wide.All
import OpenK.AllK
import Wide.FinOn
import HandS.ForMost
import HandS.Flow
import HandS.TupAny
import HandS.Deep
import HandS.DictComp
import HandS.RevTup
import HandS.Rev
import HandS.SortKw
import HandS.IsInst
import HandS.More
import HandS.Conv
import HandS.Ends
import HandS.Words
import HandS.SetKeys
import PyProof.NeData
import KE.DataCmp
import KE.SortKeyHeap
import KE.SortData
import PySem.Challenge.RW_booksbetween_k01_facts_and_answers
set_option Elab.async false
set_option linter.all false
set_option maxRecDepth 100000
set_option maxHeartbeats 4000000
/-! EvCore: values, heaps, a small language, its interpreter. Own work; no model text. -/
namespace Ev
open PySem

/-- a Python value: tuples by value, lists, dicts, instances by their place in the heap -/
inductive Val where
  | non | bl (b : Bool) | int (i : Int) | str (s : Str) | tup (xs : List Val) | ref (n : Nat)

mutual
def Val.dec : (a b : Val) → Decidable (a = b)
  | .non, .non => .isTrue rfl
  | .bl a, .bl b => if h : a = b then .isTrue (by rw [h]) else .isFalse (fun e => h (Val.bl.inj e))
  | .int a, .int b => if h : a = b then .isTrue (by rw [h]) else .isFalse (fun e => h (Val.int.inj e))
  | .str a, .str b => if h : a = b then .isTrue (by rw [h]) else .isFalse (fun e => h (Val.str.inj e))
  | .ref a, .ref b => if h : a = b then .isTrue (by rw [h]) else .isFalse (fun e => h (Val.ref.inj e))
  | .tup a, .tup b => match Val.decs a b with
    | .isTrue h => .isTrue (by rw [h])
    | .isFalse h => .isFalse (fun e => h (Val.tup.inj e))
  | .non, .bl _ | .non, .int _ | .non, .str _ | .non, .tup _ | .non, .ref _ => .isFalse (fun e => nomatch e)
  | .bl _, .non | .bl _, .int _ | .bl _, .str _ | .bl _, .tup _ | .bl _, .ref _ => .isFalse (fun e => nomatch e)
  | .int _, .non | .int _, .bl _ | .int _, .str _ | .int _, .tup _ | .int _, .ref _ => .isFalse (fun e => nomatch e)
  | .str _, .non | .str _, .bl _ | .str _, .int _ | .str _, .tup _ | .str _, .ref _ => .isFalse (fun e => nomatch e)
  | .tup _, .non | .tup _, .bl _ | .tup _, .int _ | .tup _, .str _ | .tup _, .ref _ => .isFalse (fun e => nomatch e)
  | .ref _, .non | .ref _, .bl _ | .ref _, .int _ | .ref _, .str _ | .ref _, .tup _ => .isFalse (fun e => nomatch e)
def Val.decs : (a b : List Val) → Decidable (a = b)
  | [], [] => .isTrue rfl
  | x :: xs, y :: ys => match Val.dec x y, Val.decs xs ys with
    | .isTrue h, .isTrue k => .isTrue (by rw [h, k])
    | .isFalse h, _ => .isFalse (fun e => h (List.cons.inj e).1)
    | _, .isFalse k => .isFalse (fun e => k (List.cons.inj e).2)
  | [], _ :: _ => .isFalse (fun e => nomatch e)
  | _ :: _, [] => .isFalse (fun e => nomatch e)
end
instance : DecidableEq Val := Val.dec

/-- what lies in the heap: a list, the law's script (never written), a dict, a dict that is walked (not written meanwhile) -/
inductive Ob where
  | lst (xs : List Val) | frz (xs : List Val) | dic (kvs : List (Val × Val)) | fdc (kvs : List (Val × Val))
  deriving DecidableEq

abbrev Hpe := List Ob
abbrev En := List (Option Val)

inductive Res (α : Type) where
  | ok (a : α) (h : Hpe) | bad
def Res.bind {α β : Type} (r : Res α) (f : α → Hpe → Res β) : Res β := match r with
  | .ok a h => f a h
  | .bad => .bad
@[simp] theorem Res.bind_ok {α β : Type} (a : α) (h : Hpe) (f : α → Hpe → Res β) : (Res.ok a h).bind f = f a h := rfl
@[simp] theorem Res.bind_bad {α β : Type} (f : α → Hpe → Res β) : (Res.bad : Res α).bind f = .bad := rfl
theorem Res.bind_eq {α β : Type} {r : Res α} {f : α → Hpe → Res β} {b : β} {h' : Hpe} (e : r.bind f = .ok b h') : ∃ a h, r = .ok a h ∧ f a h = .ok b h' := by
  cases r with
  | ok a h => exact ⟨a, h, rfl, e⟩
  | bad => exact nomatch e

/-! ### the language -/
inductive Bop where
  | add | sub | mul | fdiv | mod | pow
  deriving DecidableEq
inductive Cop where
  | eq | ne | lt | le | gt | ge | isn | isnn | inn | nin
  deriving DecidableEq
inductive Con where
  | non | bl (b : Bool) | int (i : Int) | str (s : Str)
  deriving DecidableEq
inductive Ty where
  | int | bool | str | tuple | list
  deriving DecidableEq
inductive Blt where
  | len | abs | int | str | tuple | list | sum | any | all | dict
  deriving DecidableEq
inductive Mth where
  | append | extend | insert | pop | reverse | get | join
  deriving DecidableEq

mutual
inductive E where
  | var (i : Nat) | con (c : Con) | glb (x : Str)
  | tup (es : Es) | lst (es : Es) | dct0
  | bin (o : Bop) (a b : E) | neg (a : E)
  | cmp (o : Cop) (a b : E) | chn (o1 o2 : Cop) (a b c : E)
  | andv (a b : E) | orv (a b : E) | one (a : E) | notv (a : E)
  | ife (c : T) (a b : E)
  | ix (a b : E) | sl (a : E) (lo hi : O)
  | call (f : Str) (es : Es) | blt (b : Blt) (a : E) | mth (m : Mth) (o : E) (es : Es)
  | isi (a : E) (t : Ty)
  | lc (elt : E) (tg : Tg) (it : I) (c : T) (own : List Nat)
  | dc (k v : E) (tg : Tg) (it : I) (c : T) (own : List Nat)
  | tuprev (a : E)
  | srt (a : E) (f : Str)
  | setd (d k v : E)
  | lock (i : Nat) (e : E)
inductive Es where
  | nil | cons (e : E) (es : Es)
inductive O where
  | no | yes (e : E)
inductive T where
  | tt | val (e : E) | cmp (o : Cop) (a b : E) | chn (o1 o2 : Cop) (a b c : E) | and (a b : T) | or (a b : T) | one (a : T) | not (a : T)
inductive I where
  | seq (e : E) | rng1 (a : E) | rng2 (a b : E) | dky (e : E)
inductive Tg where
  | nm (i : Nat) | tp (is : List Nat)
end

mutual
inductive S where
  | set (i : Nat) (e : E)
  | setSub (o i v : E)
  | par (is : List Nat) (e : E)
  | aug (i : Nat) (o : Bop) (e : E)
  | expr (e : E)
  | ret (e : E) | retN
  | ifs (c : T) (a b : Ss)
  | fors (tg : Tg) (it : I) (body : Ss)
  | whil (c : T) (body : Ss)
  | pass | brk | cnt
  | lock (i : Nat) (s : S)
inductive Ss where
  | nil | cons (s : S) (ss : Ss)
end

/-- a def: the number of its parameters, of its slots, its body -/
structure Fn where
  np : Nat
  nl : Nat
  body : Ss

/-! ### operations on values -/
def sizeMax : Nat := 16777216

mutual
/-- == of values without places -/
def Val.eqv : Val → Val → Bool
  | .non, .non => true
  | .bl a, .bl b => a == b
  | .bl a, .int j => (if a then 1 else 0) == j
  | .int i, .bl b => i == (if b then 1 else 0)
  | .int i, .int j => i == j
  | .str x, .str y => x == y
  | .tup xs, .tup ys => Val.eqvs xs ys
  | _, _ => false
def Val.eqvs : List Val → List Val → Bool
  | [], [] => true
  | x :: xs, y :: ys => Val.eqv x y && Val.eqvs xs ys
  | _, _ => false
end
mutual
def Val.flat : Val → Bool
  | .ref _ => false
  | .tup xs => Val.flats xs
  | _ => true
def Val.flats : List Val → Bool
  | [] => true
  | x :: xs => Val.flat x && Val.flats xs
end
mutual
def Val.dep : Val → Nat
  | .tup xs => Val.deps xs + 1
  | _ => 0
def Val.deps : List Val → Nat
  | [] => 0
  | x :: xs => max (Val.dep x) (Val.deps xs)
end
/-- they may be compared: no places in them, the less deep one at most 100 deep -/
def canEq (a b : Val) : Bool := a.flat && b.flat && decide (min a.dep b.dep ≤ 100)

/-- the list that stands there -/
def lstAt (h : Hpe) (n : Nat) : Option (List Val) := match h[n]? with
  | some (.lst xs) => some xs
  | some (.frz xs) => some xs
  | _ => none

/-- the dict that stands there -/
def dicAt (h : Hpe) (n : Nat) : Option (List (Val × Val)) := match h[n]? with
  | some (.dic kvs) => some kvs
  | some (.fdc kvs) => some kvs
  | _ => none

/-- the items of a list or a tuple -/
def seqOf (v : Val) (h : Hpe) : Option (List Val) := match v with
  | .tup xs => some xs
  | .ref n => lstAt h n
  | _ => none

def truth (v : Val) (h : Hpe) : Res Bool := match v with
  | .non => .ok false h
  | .bl b => .ok b h
  | .int i => .ok (i != 0) h
  | .str s => if s.length ≤ sizeMax then .ok (decide (s.length ≠ 0)) h else .bad
  | .tup xs => .ok (!xs.isEmpty) h
  | .ref n => match h[n]? with
    | some (.lst xs) => .ok (!xs.isEmpty) h
    | some (.frz xs) => .ok (!xs.isEmpty) h
    | _ => .bad

def alloc (o : Ob) (h : Hpe) : Res Val := .ok (.ref h.length) (h ++ [o])

def binop (o : Bop) (a b : Val) (h : Hpe) : Res Val := match o, a, b with
  | .add, .int i, .int j => .ok (.int (i + j)) h
  | .sub, .int i, .int j => .ok (.int (i - j)) h
  | .mul, .int i, .int j => if (-(2 ^ 64) < i ∧ i < 2 ^ 64) ∨ (-(2 ^ 64) < j ∧ j < 2 ^ 64) then .ok (.int (i * j)) h else .bad
  | .fdiv, .int i, .int j => if 0 < j ∧ j < 1073741824 then .ok (.int (i / j)) h else .bad
  | .mod, .int i, .int j => if 0 < j then .ok (.int (i % j)) h else .bad
  | .pow, .int i, .int j => if 0 ≤ j ∧ j ≤ 1000 ∧ i.natAbs < 2 ^ 64 then .ok (.int (i ^ j.toNat)) h else .bad
  | .add, .str x, .str y => if x.length + y.length ≤ sizeMax then .ok (.str (x ++ y)) h else .bad
  | .add, .tup xs, .tup ys => if xs.length + ys.length ≤ sizeMax then .ok (.tup (xs ++ ys)) h else .bad
  | .add, .ref m, .ref n => match h[m]?, h[n]? with
    | some (.lst xs), some (.lst ys) => if xs.length + ys.length ≤ sizeMax then alloc (.lst (xs ++ ys)) h else .bad
    | _, _ => .bad
  | _, _, _ => .bad

def lookD (kvs : List (Val × Val)) (k : Val) : Option Val := (kvs.find? fun p => decide (p.1 = k)).map (·.2)

/-- x in what y is -/
def inside (x y : Val) (h : Hpe) : Res Bool := match y with
  | .tup ys => if ys.all (canEq x) then .ok (ys.any fun z => z.eqv x) h else .bad
  | .ref n => match h[n]? with
    | some (.lst ys) => if ys.all (canEq x) then .ok (ys.any fun z => z.eqv x) h else .bad
    | _ => match dicAt h n with
      | some kvs => match x with
        | .str _ => .ok (lookD kvs x).isSome h
        | _ => .bad
      | none => .bad
  | _ => .bad

mutual
/-- a value without places, as the library's data -/
def Val.toD : Val → PyData
  | .non => .none
  | .bl b => .bool b
  | .int i => .int i
  | .str x => .str x
  | .tup xs => .tuple (Val.toDs xs)
  | .ref _ => .none
def Val.toDs : List Val → List PyData
  | [] => []
  | x :: xs => Val.toD x :: Val.toDs xs
end
def cmpop (o : Cop) (a b : Val) (h : Hpe) : Res Bool := match o with
  | .eq => if canEq a b then .ok (a.eqv b) h else .bad
  | .ne => if canEq a b then .ok (!a.eqv b) h else .bad
  | .isn => if b = .non then .ok (decide (a = .non)) h else .bad
  | .isnn => if b = .non then .ok (!decide (a = .non)) h else .bad
  | .inn => inside a b h
  | .nin => (inside a b h).bind fun r h => .ok (!r) h
  | .lt => match a, b with
    | .int i, .int j => .ok (decide (i < j)) h
    | .str x, .str y => .ok (decide (x.cps.toList < y.cps.toList)) h
    | .tup xs, .tup ys => if canEq (.tup xs) (.tup ys) && PySem.W.alike (Val.tup xs).toD (Val.tup ys).toD then .ok (PySem.W.dataLt (Val.tup xs).toD (Val.tup ys).toD) h else .bad
    | _, _ => .bad
  | .le => match a, b with
    | .int i, .int j => .ok (decide (i ≤ j)) h
    | .str x, .str y => .ok (!decide (y.cps.toList < x.cps.toList)) h
    | _, _ => .bad
  | .gt => match a, b with
    | .int i, .int j => .ok (decide (j < i)) h
    | _, _ => .bad
  | .ge => match a, b with
    | .int i, .int j => .ok (decide (j ≤ i)) h
    | _, _ => .bad

/-- the place that an index means -/
def place (n : Nat) (i : Int) : Option Nat := if 0 ≤ i then (if i < n then some i.toNat else none) else if -(n : Int) ≤ i then some (i + n).toNat else none

def index (a b : Val) (h : Hpe) : Res Val := match b with
  | .int i => match a with
    | .str s => if s.length ≤ sizeMax then match (place s.cps.toList.length i).bind (s.cps.toList[·]?) with
      | some c => .ok (.str ⟨#[c]⟩) h
      | none => .bad else .bad
    | _ => match seqOf a h with
      | some xs => match (place xs.length i).bind (xs[·]?) with
        | some v => .ok v h
        | none => .bad
      | none => .bad
  | .str _ => match a with
    | .ref n => match (dicAt h n).bind (lookD · b) with
      | some v => .ok v h
      | none => .bad
    | _ => .bad
  | _ => .bad

/-- where a slice begins or ends -/
def bound (n d : Nat) : Option Int → Nat
  | none => d
  | some i => if i < 0 then (i + n).toNat else min i.toNat n
def cut {α : Type} (xs : List α) (lo hi : Option Int) : List α := (xs.drop (bound xs.length 0 lo)).take (bound xs.length xs.length hi - bound xs.length 0 lo)

def slice (a : Val) (lo hi : Option Int) (h : Hpe) : Res Val := match a with
  | .str s => if s.length ≤ sizeMax then .ok (.str ⟨(cut s.cps.toList lo hi).toArray⟩) h else .bad
  | .tup xs => .ok (.tup (cut xs lo hi)) h
  | .ref n => match lstAt h n with
    | some xs => alloc (.lst (cut xs lo hi)) h
    | none => .bad
  | _ => .bad

/-- ints of values -/
def intsOf : List Val → Option (List Int)
  | [] => some []
  | .int i :: r => (intsOf r).map (i :: ·)
  | _ :: _ => none
def strsOf : List Val → Option (List Str)
  | [] => some []
  | .str i :: r => (strsOf r).map (i :: ·)
  | _ :: _ => none
def blsOf : List Val → Option (List Bool)
  | [] => some []
  | .bl i :: r => (blsOf r).map (i :: ·)
  | _ :: _ => none

def builtin (b : Blt) (a : Val) (h : Hpe) : Res Val := match b with
  | .len => match a with
    | .str s => if s.length ≤ sizeMax then .ok (.int s.length) h else .bad
    | _ => match seqOf a h with
      | some xs => .ok (.int xs.length) h
      | none => .bad
  | .abs => match a with
    | .int i => .ok (.int (if i < 0 then -i else i)) h
    | _ => .bad
  | .int => match a with
    | .int i => .ok (.int i) h
    | .bl k => .ok (.int (if k then 1 else 0)) h
    | _ => .bad
  | .str => match a with
    | .int i => if i.natAbs < 2 ^ 1000 then .ok (.str (Str.ofString (toString i))) h else .bad
    | _ => .bad
  | .tuple => match seqOf a h with
    | some xs => .ok (.tup xs) h
    | none => .bad
  | .list => match seqOf a h with
    | some xs => alloc (.lst xs) h
    | none => .bad
  | .sum => match a with
    | .ref n => match (lstAt h n).bind intsOf with
      | some ns => .ok (.int ns.sum) h
      | none => .bad
    | _ => .bad
  | .any => match a with
    | .ref n => match (lstAt h n).bind blsOf with
      | some bs => .ok (.bl (bs.any id)) h
      | none => .bad
    | _ => .bad
  | .all => match a with
    | .ref n => match (lstAt h n).bind blsOf with
      | some bs => .ok (.bl (bs.all id)) h
      | none => .bad
    | _ => .bad
  | .dict => match a with
    | .ref n => match dicAt h n with
      | some kvs => alloc (.dic kvs) h
      | none => .bad
    | _ => .bad

/-- the dict with v at k -/
def putD (kvs : List (Val × Val)) (k v : Val) : List (Val × Val) :=
  if kvs.any (fun p => decide (p.1 = k)) then kvs.map (fun p => if p.1 = k then (p.1, v) else p) else kvs ++ [(k, v)]

/-- the receiver is of the kind that has the method -/
def recvOk (m : Mth) (o : Val) (h : Hpe) : Bool := match m, o with
  | .get, .ref n => (dicAt h n).isSome
  | .join, .str _ => true
  | .get, _ => false
  | .join, _ => false
  | _, .ref n => match h[n]? with
    | some (.lst _) => true
    | _ => false
  | _, _ => false

def method (m : Mth) (o : Val) (as : List Val) (h : Hpe) : Res Val := match m, o, as with
  | .append, .ref n, [v] => match h[n]? with
    | some (.lst xs) => if xs.length < sizeMax then .ok .non (h.set n (.lst (xs ++ [v]))) else .bad
    | _ => .bad
  | .extend, .ref n, [.ref k] => match h[n]?, h[k]? with
    | some (.lst xs), some (.lst ys) => if xs.length + ys.length ≤ sizeMax then .ok .non (h.set n (.lst (xs ++ ys))) else .bad
    | _, _ => .bad
  | .insert, .ref n, [.int i, v] => match h[n]? with
    | some (.lst xs) => if xs.length < sizeMax ∧ 0 ≤ i ∧ i < 2 ^ 62 then .ok .non (h.set n (.lst (xs.take i.toNat ++ v :: xs.drop i.toNat))) else .bad
    | _ => .bad
  | .pop, .ref n, [] => match h[n]? with
    | some (.lst xs) => match xs.getLast? with
      | some v => .ok v (h.set n (.lst xs.dropLast))
      | none => .bad
    | _ => .bad
  | .pop, .ref n, [.int i] => match h[n]? with
    | some (.lst xs) => if -(2 ^ 62) ≤ i ∧ i < 2 ^ 62 then match place xs.length i with
      | some k => match xs[k]? with
        | some v => .ok v (h.set n (.lst (xs.eraseIdx k)))
        | none => .bad
      | none => .bad else .bad
    | _ => .bad
  | .reverse, .ref n, [] => match h[n]? with
    | some (.lst xs) => .ok .non (h.set n (.lst xs.reverse))
    | _ => .bad
  | .get, .ref n, [.str k] => match dicAt h n with
    | some kvs => .ok ((lookD kvs (.str k)).getD .non) h
    | none => .bad
  | .get, .ref n, [.str k, d] => match dicAt h n with
    | some kvs => .ok ((lookD kvs (.str k)).getD d) h
    | none => .bad
  | .join, .str s, [.ref n] => match (lstAt h n).bind strsOf with
    | some xs => if (xs.map (·.length)).sum + xs.length * s.length ≤ sizeMax then .ok (.str (Str.join s xs)) h else .bad
    | none => .bad
  | _, _, _ => .bad

/-- d.setdefault(y, z), d the dict at n -/
def setDef (n : Nat) (y z : Val) (h : Hpe) : Res Val := match y with
  | .str k => match h[n]? with
    | some (.dic kvs) => if kvs.length < sizeMax then match lookD kvs (.str k) with
      | some u => .ok u h
      | none => .ok z (h.set n (.dic (putD kvs (.str k) z))) else .bad
    | _ => .bad
  | _ => .bad

def setItem (o i v : Val) (h : Hpe) : Res Unit := match o, i with
  | .ref n, .int k => match h[n]? with
    | some (.lst xs) => match place xs.length k with
      | some j => .ok () (h.set n (.lst (xs.set j v)))
      | none => .bad
    | _ => .bad
  | .ref n, .str k => match h[n]? with
    | some (.dic kvs) => if kvs.length < sizeMax then .ok () (h.set n (.dic (putD kvs (.str k) v))) else .bad
    | _ => .bad
  | _, _ => .bad

def tyOk (t : Ty) (v : Val) (h : Hpe) : Res Bool := match v with
  | .non => .ok false h
  | .bl _ => .ok (t == .bool || t == .int) h
  | .int _ => .ok (t == .int) h
  | .str _ => .ok (t == .str) h
  | .tup _ => .ok (t == .tuple) h
  | .ref n => match h[n]? with
    | some (.lst _) => .ok (t == .list) h
    | some (.frz _) => .ok (t == .list) h
    | some (.dic _) => .ok false h
    | some (.fdc _) => .ok false h
    | none => .bad

/-- what must stay while a loop walks: nothing, a list, a dict -/
inductive At where
  | no | lst (n : Nat) | dic (n : Nat) (kvs : List (Val × Val))
/-- what a loop walks -/
structure Src where
  items : List Val
  at_ : At
def Src.stays (s : Src) (h : Hpe) : Bool := match s.at_ with
  | .no => true
  | .lst n => decide (lstAt h n = some s.items)
  | .dic n kvs => decide (h[n]? = some (.fdc kvs))

def wipeE (σ : En) : List Nat → En
  | [] => σ
  | v :: vs => (wipeE σ vs).set v none

def store (tg : Tg) (v : Val) (σ : En) : Option En := match tg with
  | .nm i => some (σ.set i (some v))
  | .tp is => match v with
    | .tup xs => if xs.length = is.length then some ((is.zip xs).foldl (fun σ p => σ.set p.1 (some p.2)) σ) else none
    | _ => none

/-- how a statement ends -/
inductive Fl where
  | nx (σ : En) | rt (v : Val) | bk (σ : En) | ct (σ : En)

/-- one turn of a list comprehension, of a dict comprehension -/
def lcStep (tg : Tg) (σ : En) (c : En → Hpe → Res Bool) (elt : En → Hpe → Res Val) (x : Val) (h2 : Hpe) : Res (Option Val) := match store tg x σ with
  | some σ2 => (c σ2 h2).bind fun k h3 => if k then (elt σ2 h3).bind fun v h4 => .ok (some v) h4 else .ok none h3
  | none => .bad
def dcStep (tg : Tg) (σ : En) (c : En → Hpe → Res Bool) (ke ve : En → Hpe → Res Val) (x : Val) (h2 : Hpe) : Res (Option (Val × Val)) := match store tg x σ with
  | some σ2 => (c σ2 h2).bind fun b h3 => if b then (ke σ2 h3).bind fun kv h4 => (ve σ2 h4).bind fun vv h5 => .ok (some (kv, vv)) h5 else .ok none h3
  | none => .bad
/-- a list comprehension's turns: D the new list -/
def lcL (D : Nat) (s : Src) (step : Val → Hpe → Res (Option Val)) : List Val → Hpe → Res Unit
  | [], h => if s.stays h then .ok () h else .bad
  | x :: xs, h => if s.stays h then (step x h).bind fun r h1 => match r with
    | none => lcL D s step xs h1
    | some v => match h1[D]? with
      | some (.lst acc) => if acc.length < sizeMax then lcL D s step xs (h1.set D (.lst (acc ++ [v]))) else .bad
      | _ => .bad
    else .bad
def dcL (D : Nat) (s : Src) (step : Val → Hpe → Res (Option (Val × Val))) : List Val → Hpe → Res Unit
  | [], h => if s.stays h then .ok () h else .bad
  | x :: xs, h => if s.stays h then (step x h).bind fun r h1 => match r with
    | none => dcL D s step xs h1
    | some (.str k, v) => match h1[D]? with
      | some (.dic acc) => if acc.length < sizeMax then dcL D s step xs (h1.set D (.dic (putD acc (.str k) v))) else .bad
      | _ => .bad
    | _ => .bad
    else .bad
/-- a for loop's turns -/
def forL (s : Src) (tg : Tg) (body : En → Hpe → Res Fl) : List Val → En → Hpe → Res Fl
  | [], σ, h => if s.stays h then .ok (.nx σ) h else .bad
  | x :: xs, σ, h => if s.stays h then match store tg x σ with
    | some σ1 => (body σ1 h).bind fun f h1 => match f with
      | .nx σ2 => forL s tg body xs σ2 h1
      | .ct σ2 => forL s tg body xs σ2 h1
      | .bk σ2 => .ok (.nx σ2) h1
      | .rt v => .ok (.rt v) h1
    | none => .bad
    else .bad
def whileL (c : En → Hpe → Res Bool) (body : En → Hpe → Res Fl) : Nat → En → Hpe → Res Fl
  | 0, _, _ => .bad
  | n + 1, σ, h => (c σ h).bind fun b h1 => if b then (body σ h1).bind fun f h2 => match f with
      | .nx σ2 => whileL c body n σ2 h2
      | .ct σ2 => whileL c body n σ2 h2
      | .bk σ2 => .ok (.nx σ2) h2
      | .rt v => .ok (.rt v) h2
    else .ok (.nx σ) h1

/-- what the interpreter asks of the world around: own defs, the module's constants, how often a while may turn -/
structure Rc where
  fn : Str → List Val → Hpe → Res Val
  fn1 : Str → List Val → Hpe → Res Val
  key : Str → Bool
  con : Str → Option Val
  fuel : Nat

def conV : Con → Val
  | .non => .non
  | .bl b => .bl b
  | .int i => .int i
  | .str s => .str s

/-- keys of a sort, one after another -/
def keysL (f : Val → Hpe → Res Val) : List Val → Hpe → Res (List Val)
  | [], h => .ok [] h
  | x :: xs, h => (f x h).bind fun k h1 => (keysL f xs h1).bind fun ks h2 => .ok (k :: ks) h2

/-- keys that sorting takes: all alike, and all of them tuples with an item, or none a tuple -/
def sortable (ks : List Val) : Bool := ks.all (fun a => ks.all fun b => PySem.W.alike a.toD b.toD) && ks.all (fun a => a.flat && decide (a.dep ≤ 50)) &&
  (ks.all (fun a => match a with | .tup (_ :: _) => true | _ => false) || ks.all (fun a => match a with | .tup _ => false | .non => false | _ => true))
/-- items sorted by their keys: stable -/
def sortBy (xs ks : List Val) : List Val := ((ks.zip xs).mergeSort (PySem.W.dataLe false fun p => p.1.toD)).map (·.2)

mutual
def ev (R : Rc) : E → En → Hpe → Res Val
  | .var i, σ, h => match σ[i]? with
    | some (some v) => .ok v h
    | _ => .bad
  | .con c, _, h => .ok (conV c) h
  | .glb x, _, h => match R.con x with
    | some v => .ok v h
    | none => .bad
  | .tup es, σ, h => (evs R es σ h).bind fun vs h1 => if vs.length ≤ sizeMax then .ok (.tup vs) h1 else .bad
  | .lst es, σ, h => (evs R es σ h).bind fun vs h1 => if vs.length ≤ sizeMax then alloc (.lst vs) h1 else .bad
  | .dct0, _, h => alloc (.dic []) h
  | .bin o a b, σ, h => (ev R a σ h).bind fun x h1 => (ev R b σ h1).bind fun y h2 => binop o x y h2
  | .neg a, σ, h => (ev R a σ h).bind fun x h1 => match x with
    | .int i => .ok (.int (-i)) h1
    | _ => .bad
  | .cmp o a b, σ, h => (ev R a σ h).bind fun x h1 => (ev R b σ h1).bind fun y h2 => (cmpop o x y h2).bind fun r h3 => .ok (.bl r) h3
  | .chn o1 o2 a b c, σ, h => (ev R a σ h).bind fun x h1 => (ev R b σ h1).bind fun y h2 => (cmpop o1 x y h2).bind fun r h3 =>
      if r then (ev R c σ h3).bind fun z h4 => (cmpop o2 y z h4).bind fun r2 h5 => .ok (.bl r2) h5 else .ok (.bl false) h3
  | .andv a b, σ, h => (ev R a σ h).bind fun x h1 => (truth x h1).bind fun k h2 => if k then ev R b σ h2 else .ok x h2
  | .orv a b, σ, h => (ev R a σ h).bind fun x h1 => (truth x h1).bind fun k h2 => if k then .ok x h2 else ev R b σ h2
  | .one a, σ, h => ev R a σ h
  | .notv a, σ, h => (ev R a σ h).bind fun x h1 => (truth x h1).bind fun k h2 => .ok (.bl (!k)) h2
  | .ife c a b, σ, h => (evt R c σ h).bind fun k h1 => if k then ev R a σ h1 else ev R b σ h1
  | .ix a b, σ, h => (ev R a σ h).bind fun x h1 => (ev R b σ h1).bind fun y h2 => index x y h2
  | .sl a lo hi, σ, h => (ev R a σ h).bind fun x h1 => (evo R lo σ h1).bind fun l h2 => (evo R hi σ h2).bind fun u h3 => slice x l u h3
  | .call f es, σ, h => (evs R es σ h).bind fun vs h1 => R.fn f vs h1
  | .blt b a, σ, h => (ev R a σ h).bind fun x h1 => builtin b x h1
  | .mth m o es, σ, h => (ev R o σ h).bind fun x h1 => if recvOk m x h1 then (evs R es σ h1).bind fun vs h2 => method m x vs h2 else .bad
  | .isi a t, σ, h => (ev R a σ h).bind fun x h1 => (tyOk t x h1).bind fun k h2 => .ok (.bl k) h2
  | .lc elt tg it c own, σ, h => (evi R it σ h).bind fun s h1 =>
      (lcL h1.length s (lcStep tg (wipeE σ own) (evt R c) (ev R elt)) s.items (h1 ++ [.lst []])).bind fun _ h5 => .ok (.ref h1.length) h5
  | .dc k v tg it c own, σ, h => (evi R it σ h).bind fun s h1 =>
      (dcL h1.length s (dcStep tg (wipeE σ own) (evt R c) (ev R k) (ev R v)) s.items (h1 ++ [.dic []])).bind fun _ h5 => .ok (.ref h1.length) h5
  | .tuprev a, σ, h => (ev R a σ h).bind fun x h1 => match x with
    | .ref n => match lstAt h1 n with
      | some xs => .ok (.tup xs.reverse) h1
      | none => .bad
    | _ => .bad
  | .srt a f, σ, h => (ev R a σ h).bind fun x h1 => match x with
    | .ref n => match lstAt h1 n with
      | some xs => if R.key f = false then .bad else (keysL (fun v h => R.fn1 f [v] h) xs h1).bind fun ks h2 => if sortable ks then alloc (.lst (sortBy xs ks)) h2 else .bad
      | none => .bad
    | _ => .bad
  | .setd d k v, σ, h => (ev R d σ h).bind fun x h1 => match x with
    | .ref n => if (dicAt h1 n).isSome then (ev R k σ h1).bind fun y h2 => (ev R v σ h2).bind fun z h3 => setDef n y z h3 else .bad
    | _ => .bad
  | .lock i e, σ, h => match σ[i]? with
    | some (some (.ref n)) => match h[n]? with
      | some (.dic kvs) => (ev R e σ (h.set n (.fdc kvs))).bind fun v h1 => match h1[n]? with
        | some (.fdc _) => .ok v (h1.set n (.dic kvs))
        | _ => .bad
      | _ => .bad
    | _ => .bad
def evs (R : Rc) : Es → En → Hpe → Res (List Val)
  | .nil, _, h => .ok [] h
  | .cons e es, σ, h => (ev R e σ h).bind fun x h1 => (evs R es σ h1).bind fun xs h2 => .ok (x :: xs) h2
def evo (R : Rc) : O → En → Hpe → Res (Option Int)
  | .no, _, h => .ok none h
  | .yes e, σ, h => (ev R e σ h).bind fun x h1 => match x with
    | .int i => .ok (some i) h1
    | _ => .bad
def evt (R : Rc) : T → En → Hpe → Res Bool
  | .tt, _, h => .ok true h
  | .val e, σ, h => (ev R e σ h).bind fun x h1 => truth x h1
  | .cmp o a b, σ, h => (ev R a σ h).bind fun x h1 => (ev R b σ h1).bind fun y h2 => cmpop o x y h2
  | .chn o1 o2 a b c, σ, h => (ev R a σ h).bind fun x h1 => (ev R b σ h1).bind fun y h2 => (cmpop o1 x y h2).bind fun r h3 =>
      if r then (ev R c σ h3).bind fun z h4 => cmpop o2 y z h4 else .ok false h3
  | .one a, σ, h => evt R a σ h
  | .and a b, σ, h => (evt R a σ h).bind fun k h1 => if k then evt R b σ h1 else .ok false h1
  | .or a b, σ, h => (evt R a σ h).bind fun k h1 => if k then .ok true h1 else evt R b σ h1
  | .not a, σ, h => (evt R a σ h).bind fun k h1 => .ok (!k) h1
def evi (R : Rc) : I → En → Hpe → Res Src
  | .seq e, σ, h => (ev R e σ h).bind fun x h1 => match x with
    | .tup xs => .ok ⟨xs, .no⟩ h1
    | .ref n => match lstAt h1 n with
      | some xs => .ok ⟨xs, .lst n⟩ h1
      | none => .bad
    | _ => .bad
  | .rng1 a, σ, h => (ev R a σ h).bind fun x h1 => match x with
    | .int j => if -(2 ^ 62) ≤ j ∧ j < 2 ^ 62 then .ok ⟨(List.range j.toNat).map fun (i : Nat) => Val.int (0 + (i : Int)), .no⟩ h1 else .bad
    | _ => .bad
  | .rng2 a b, σ, h => (ev R a σ h).bind fun x h1 => (ev R b σ h1).bind fun y h2 => match x, y with
    | .int i, .int j => if -(2 ^ 62) ≤ i ∧ i < 2 ^ 62 ∧ -(2 ^ 62) ≤ j ∧ j < 2 ^ 62 then .ok ⟨(List.range (j - i).toNat).map fun (k : Nat) => Val.int (i + (k : Int)), .no⟩ h2 else .bad
    | _, _ => .bad
  | .dky e, σ, h => (ev R e σ h).bind fun x h1 => match x with
    | .ref n => match h1[n]? with
      | some (.fdc kvs) => .ok ⟨kvs.map (·.1), .dic n kvs⟩ h1
      | _ => .bad
    | _ => .bad
end

mutual
def run (R : Rc) : S → En → Hpe → Res Fl
  | .set i e, σ, h => (ev R e σ h).bind fun v h1 => .ok (.nx (σ.set i (some v))) h1
  | .setSub o i v, σ, h => (ev R v σ h).bind fun x h1 => (ev R o σ h1).bind fun y h2 => (ev R i σ h2).bind fun z h3 => (setItem y z x h3).bind fun _ h4 => .ok (.nx σ) h4
  | .par is e, σ, h => (ev R e σ h).bind fun v h1 => match seqOf v h1 with
    | some xs => if xs.length = is.length then .ok (.nx ((is.zip xs).foldl (fun σ p => σ.set p.1 (some p.2)) σ)) h1 else .bad
    | none => .bad
  | .aug i o e, σ, h => match σ[i]? with
    | some (some x) => (ev R e σ h).bind fun y h1 => match x, y with
      | .int a, .int b => match o with
        | .add => .ok (.nx (σ.set i (some (.int (a + b))))) h1
        | .sub => .ok (.nx (σ.set i (some (.int (a - b))))) h1
        | _ => .bad
      | _, _ => .bad
    | _ => .bad
  | .expr e, σ, h => (ev R e σ h).bind fun _ h1 => .ok (.nx σ) h1
  | .ret e, σ, h => (ev R e σ h).bind fun v h1 => .ok (.rt v) h1
  | .retN, _, h => .ok (.rt .non) h
  | .ifs c a b, σ, h => (evt R c σ h).bind fun k h1 => if k then runs R a σ h1 else runs R b σ h1
  | .fors tg it body, σ, h => (evi R it σ h).bind fun s h1 => forL s tg (runs R body) s.items σ h1
  | .whil c body, σ, h => whileL (evt R c) (runs R body) R.fuel σ h
  | .pass, σ, h => .ok (.nx σ) h
  | .brk, σ, h => .ok (.bk σ) h
  | .cnt, σ, h => .ok (.ct σ) h
  | .lock i s, σ, h => match σ[i]? with
    | some (some (.ref n)) => match h[n]? with
      | some (.dic kvs) => (run R s σ (h.set n (.fdc kvs))).bind fun v h1 => match h1[n]? with
        | some (.fdc _) => .ok v (h1.set n (.dic kvs))
        | _ => .bad
      | _ => .bad
    | _ => .bad
def runs (R : Rc) : Ss → En → Hpe → Res Fl
  | .nil, σ, h => .ok (.nx σ) h
  | .cons s ss, σ, h => (run R s σ h).bind fun f h1 => match f with
    | .nx σ1 => runs R ss σ1 h1
    | f => .ok f h1
end

/-- a program: its defs, its constants -/
structure Prog where
  fn : Str → Option Fn
  con : Str → Option Val
  fuel : Nat

def startE (nl : Nat) (vs : List Val) : En := vs.map some ++ List.replicate (nl - vs.length) none

/-- a def's call by its body -/
def callBy (P : Prog) (fn fn1 : Str → List Val → Hpe → Res Val) (key : Str → Bool) (f : Str) (vs : List Val) (h : Hpe) : Res Val := match P.fn f with
  | some F => if vs.length = F.np then (runs ⟨fn, fn1, key, P.con, P.fuel⟩ F.body (startE F.nl vs) h).bind fun r h1 => match r with
      | .rt v => .ok v h1
      | .nx _ => .ok .non h1
      | _ => .bad
    else .bad
  | none => .bad
def keyOk (P : Prog) (k : Nat) (f : Str) : Bool := decide (k ≠ 0) && (P.fn f).isSome
/-- a def's call, at most k calls deep, and at most k - 1 -/
def call2 (P : Prog) : Nat → (Str → List Val → Hpe → Res Val) × (Str → List Val → Hpe → Res Val)
  | 0 => (fun _ _ _ => .bad, fun _ _ _ => .bad)
  | k + 1 => (callBy P (call2 P k).1 (call2 P k).2 (keyOk P k), (call2 P k).1)
def call (P : Prog) (k : Nat) : Str → List Val → Hpe → Res Val := (call2 P k).1
theorem call_zero (P : Prog) (f : Str) (vs : List Val) (h : Hpe) : call P 0 f vs h = .bad := rfl
theorem call_succ (P : Prog) (k : Nat) (f : Str) (vs : List Val) (h : Hpe) : call P (k + 1) f vs h = callBy P (call P k) (call2 P k).2 (keyOk P k) f vs h := rfl
theorem call2_succ (P : Prog) (k : Nat) : (call2 P (k + 1)).2 = call P k := rfl
theorem call2_zero (P : Prog) (f : Str) (vs : List Val) (h : Hpe) : (call2 P 0).2 f vs h = .bad := rfl
end Ev
/-! EvRel: how the small heap lies in the hand layer's heap. -/
namespace Ev
open PySem PySem.Spec PyProof.Rows L2

mutual
inductive Rep (K : PySem.W.Frag) (m : List Addr) (H : Hp) : Val → V → Prop
  | non : Rep K m H .non .non
  | bl (b : Bool) : Rep K m H (.bl b) (.bl b)
  | int (i : Int) : Rep K m H (.int i) (.int i)
  | str (x : Str) : Rep K m H (.str x) (.str x)
  | tup {a : Addr} {xs : List Val} {ys : List V} : SqT K H a ys → Reps K m H xs ys → Rep K m H (.tup xs) (.ref a)
  | ref {n : Nat} {a : Addr} : m[n]? = some a → Rep K m H (.ref n) (.ref a)
inductive Reps (K : PySem.W.Frag) (m : List Addr) (H : Hp) : List Val → List V → Prop
  | nil : Reps K m H [] []
  | cons {x : Val} {xs : List Val} {y : V} {ys : List V} : Rep K m H x y → Reps K m H xs ys → Reps K m H (x :: xs) (y :: ys)
end

/-- more objects, the tuples as they were -/
structure Grow (m m' : List Addr) (H H' : Hp) : Prop where
  pre : ∀ (n : Nat) (a : Addr), m[n]? = some a → m'[n]? = some a
  tups : ∀ a xs, Rd H a (.tup xs) → Rd H' a (.tup xs)
  frzs : ∀ a o u, H a = some (.frz o u) → H' a = some (.frz o u)
theorem Grow.refl (m : List Addr) (H : Hp) : Grow m m H H := ⟨fun _ _ e => e, fun _ _ e => e, fun _ _ _ e => e⟩
theorem Grow.trans {m m1 m2 : List Addr} {H H1 H2 : Hp} (a : Grow m m1 H H1) (b : Grow m1 m2 H1 H2) : Grow m m2 H H2 :=
  ⟨fun n c e => b.pre n c (a.pre n c e), fun c xs e => b.tups c xs (a.tups c xs e), fun c o u e => b.frzs c o u (a.frzs c o u e)⟩
theorem Grow.sqT {K : PySem.W.Frag} {m m' : List Addr} {H H' : Hp} (g : Grow m m' H H') {a : Addr} {xs : List V} (h : SqT K H a xs) : SqT K H' a xs := by
  rcases h with h | h
  · exact .inl (g.tups a xs h)
  · exact .inr h
mutual
theorem Rep.mono0 {K : PySem.W.Frag} {m m' : List Addr} {H H' : Hp} (gp : ∀ (n : Nat) (a : Addr), m[n]? = some a → m'[n]? = some a) (gt : ∀ a xs, Rd H a (.tup xs) → Rd H' a (.tup xs)) : ∀ {v : Val} {x : V}, Rep K m H v x → Rep K m' H' v x
  | _, _, .non => .non
  | _, _, .bl b => .bl b
  | _, _, .int b => .int b
  | _, _, .str b => .str b
  | _, _, .tup h r => .tup (by rcases h with h | h; exact .inl (gt _ _ h); exact .inr h) (Reps.mono0 gp gt r)
  | _, _, .ref h => .ref (gp _ _ h)
theorem Reps.mono0 {K : PySem.W.Frag} {m m' : List Addr} {H H' : Hp} (gp : ∀ (n : Nat) (a : Addr), m[n]? = some a → m'[n]? = some a) (gt : ∀ a xs, Rd H a (.tup xs) → Rd H' a (.tup xs)) : ∀ {v : List Val} {x : List V}, Reps K m H v x → Reps K m' H' v x
  | _, _, .nil => .nil
  | _, _, .cons h r => .cons (Rep.mono0 gp gt h) (Reps.mono0 gp gt r)
end
mutual
theorem Rep.mono {K : PySem.W.Frag} {m m' : List Addr} {H H' : Hp} (g : Grow m m' H H') : ∀ {v : Val} {x : V}, Rep K m H v x → Rep K m' H' v x
  | _, _, .non => .non
  | _, _, .bl b => .bl b
  | _, _, .int b => .int b
  | _, _, .str b => .str b
  | _, _, .tup h r => .tup (g.sqT h) (Reps.mono g r)
  | _, _, .ref h => .ref (g.pre _ _ h)
theorem Reps.mono {K : PySem.W.Frag} {m m' : List Addr} {H H' : Hp} (g : Grow m m' H H') : ∀ {v : List Val} {x : List V}, Reps K m H v x → Reps K m' H' v x
  | _, _, .nil => .nil
  | _, _, .cons h r => .cons (Rep.mono g h) (Reps.mono g r)
end
section
variable {K : PySem.W.Frag} {m : List Addr} {H : Hp}
theorem Reps.length : ∀ {xs : List Val} {ys : List V}, Reps K m H xs ys → xs.length = ys.length
  | _, _, .nil => rfl
  | _, _, .cons _ r => congrArg (· + 1) (Reps.length r)
theorem Reps.get : ∀ {xs : List Val} {ys : List V} {i : Nat} {x : Val}, Reps K m H xs ys → xs[i]? = some x → ∃ y, ys[i]? = some y ∧ Rep K m H x y
  | _, _, _, _, .nil, e => by simp at e
  | _, _, 0, _, .cons r _, e => by simp at e; subst e; exact ⟨_, rfl, r⟩
  | _, _, i + 1, x, .cons _ t, e => by
    obtain ⟨u, h1, h2⟩ := Reps.get (i := i) (x := x) t (by simpa using e)
    exact ⟨u, by simpa using h1, h2⟩
theorem Reps.append : ∀ {xs ys : List Val} {us ws : List V}, Reps K m H xs us → Reps K m H ys ws → Reps K m H (xs ++ ys) (us ++ ws)
  | _, _, _, _, .nil, s => s
  | _, _, _, _, .cons r t, s => .cons r (Reps.append t s)
theorem Reps.take : ∀ {xs : List Val} {us : List V} (n : Nat), Reps K m H xs us → Reps K m H (xs.take n) (us.take n)
  | _, _, 0, _ => .nil
  | _, _, _ + 1, .nil => .nil
  | _, _, n + 1, .cons r t => .cons r (Reps.take n t)
theorem Reps.drop : ∀ {xs : List Val} {us : List V} (n : Nat), Reps K m H xs us → Reps K m H (xs.drop n) (us.drop n)
  | _, _, 0, r => r
  | _, _, _ + 1, .nil => .nil
  | _, _, n + 1, .cons _ t => Reps.drop n t
theorem Reps.set {x : Val} {u : V} (r : Rep K m H x u) : ∀ {xs : List Val} {us : List V} (i : Nat), Reps K m H xs us → Reps K m H (xs.set i x) (us.set i u)
  | _, _, _, .nil => .nil
  | _, _, 0, .cons _ t => .cons r t
  | _, _, i + 1, .cons q t => .cons q (Reps.set r i t)
theorem Reps.eraseIdx : ∀ {xs : List Val} {us : List V} (i : Nat), Reps K m H xs us → Reps K m H (xs.eraseIdx i) (us.eraseIdx i)
  | _, _, _, .nil => .nil
  | _, _, 0, .cons _ t => t
  | _, _, i + 1, .cons q t => .cons q (Reps.eraseIdx i t)
theorem Reps.dropLast {xs : List Val} {us : List V} (h : Reps K m H xs us) : Reps K m H xs.dropLast us.dropLast := by
  rw [List.dropLast_eq_take, List.dropLast_eq_take, h.length]
  exact h.take _
theorem Reps.snoc {xs : List Val} {us : List V} {x : Val} {u : V} (h : Reps K m H xs us) (r : Rep K m H x u) : Reps K m H (xs ++ [x]) (us ++ [u]) := h.append (.cons r .nil)
theorem Reps.reverse : ∀ {xs : List Val} {us : List V}, Reps K m H xs us → Reps K m H xs.reverse us.reverse
  | _, _, .nil => .nil
  | _, _, .cons r t => by
    rw [List.reverse_cons, List.reverse_cons]
    exact (Reps.reverse t).snoc r
theorem Reps.one {x : Val} {us : List V} (h : Reps K m H [x] us) : ∃ u, us = [u] ∧ Rep K m H x u := by
  cases h with
  | cons r t => cases t; exact ⟨_, rfl, r⟩
theorem Reps.two {x y : Val} {us : List V} (h : Reps K m H [x, y] us) : ∃ u w, us = [u, w] ∧ Rep K m H x u ∧ Rep K m H y w := by
  cases h with
  | cons r t => obtain ⟨w, rfl, r'⟩ := t.one; exact ⟨_, _, rfl, r, r'⟩
theorem Reps.zero {us : List V} (h : Reps K m H [] us) : us = [] := by cases h; rfl
theorem Rep.int_inv {i : Int} {x : V} (h : Rep K m H (.int i) x) : x = .int i := by cases h; rfl
theorem Rep.str_inv {i : Str} {x : V} (h : Rep K m H (.str i) x) : x = .str i := by cases h; rfl
theorem Rep.bl_inv {i : Bool} {x : V} (h : Rep K m H (.bl i) x) : x = .bl i := by cases h; rfl
theorem Rep.non_inv {x : V} (h : Rep K m H .non x) : x = .non := by cases h; rfl
theorem Rep.ref_inv {n : Nat} {x : V} (h : Rep K m H (.ref n) x) : ∃ a, x = .ref a ∧ m[n]? = some a := by cases h with | ref e => exact ⟨_, rfl, e⟩
theorem Rep.tup_inv {xs : List Val} {x : V} (h : Rep K m H (.tup xs) x) : ∃ a ys, x = .ref a ∧ SqT K H a ys ∧ Reps K m H xs ys := by cases h with | tup h r => exact ⟨_, _, rfl, h, r⟩
theorem Reps.ints : ∀ {ns : List Int}, Reps K m H (ns.map Val.int) (ns.map V.int)
  | [] => .nil
  | _ :: _ => .cons (.int _) Reps.ints
theorem reps_ints : ∀ {xs : List Val} {ys : List V} {ns : List Int}, Reps K m H xs ys → intsOf xs = some ns → ys = ns.map V.int
  | _, _, ns, .nil, e => by cases e; rfl
  | x :: xs, _, ns, .cons r t, e => by
    cases r with
    | int i =>
      simp only [intsOf, Option.map_eq_some_iff] at e
      obtain ⟨r', e1, rfl⟩ := e
      rw [List.map_cons, ← reps_ints t e1]
    | _ => simp [intsOf] at e
theorem reps_strs : ∀ {xs : List Val} {ys : List V} {ns : List Str}, Reps K m H xs ys → strsOf xs = some ns → ys = ns.map V.str
  | _, _, ns, .nil, e => by cases e; rfl
  | x :: xs, _, ns, .cons r t, e => by
    cases r with
    | str i =>
      simp only [strsOf, Option.map_eq_some_iff] at e
      obtain ⟨r', e1, rfl⟩ := e
      rw [List.map_cons, ← reps_strs t e1]
    | _ => simp [strsOf] at e
theorem reps_bls : ∀ {xs : List Val} {ys : List V} {ns : List Bool}, Reps K m H xs ys → blsOf xs = some ns → ys = ns.map V.bl
  | _, _, ns, .nil, e => by cases e; rfl
  | x :: xs, _, ns, .cons r t, e => by
    cases r with
    | bl i =>
      simp only [blsOf, Option.map_eq_some_iff] at e
      obtain ⟨r', e1, rfl⟩ := e
      rw [List.map_cons, ← reps_bls t e1]
    | _ => simp [blsOf] at e
end

/-- a dict's entries: keys ints or texts -/
inductive KRep (K : PySem.W.Frag) (m : List Addr) (H : Hp) : List (Val × Val) → List (Key × V) → Prop
  | nil : KRep K m H [] []
  | str {x : Str} {v : Val} {y : V} {r : List (Val × Val)} {s : List (Key × V)} : Rep K m H v y → KRep K m H r s → KRep K m H ((.str x, v) :: r) ((.inr x, y) :: s)
  | int {x : Int} {v : Val} {y : V} {r : List (Val × Val)} {s : List (Key × V)} : Rep K m H v y → KRep K m H r s → KRep K m H ((.int x, v) :: r) ((.inl x, y) :: s)
theorem KRep.mono {K : PySem.W.Frag} {m m' : List Addr} {H H' : Hp} (g : Grow m m' H H') : ∀ {v : List (Val × Val)} {x : List (Key × V)}, KRep K m H v x → KRep K m' H' v x
  | _, _, .nil => .nil
  | _, _, .str h r => .str (h.mono g) (r.mono g)
  | _, _, .int h r => .int (h.mono g) (r.mono g)
theorem KRep.mono0 {K : PySem.W.Frag} {m m' : List Addr} {H H' : Hp} (gp : ∀ (n : Nat) (a : Addr), m[n]? = some a → m'[n]? = some a) (gt : ∀ a xs, Rd H a (.tup xs) → Rd H' a (.tup xs)) : ∀ {v : List (Val × Val)} {x : List (Key × V)}, KRep K m H v x → KRep K m' H' v x
  | _, _, .nil => .nil
  | _, _, .str h r => .str (h.mono0 gp gt) (r.mono0 gp gt)
  | _, _, .int h r => .int (h.mono0 gp gt) (r.mono0 gp gt)
theorem KRep.length {K : PySem.W.Frag} {m : List Addr} {H : Hp} : ∀ {v : List (Val × Val)} {x : List (Key × V)}, KRep K m H v x → v.length = x.length
  | _, _, .nil => rfl
  | _, _, .str _ r => congrArg (· + 1) r.length
  | _, _, .int _ r => congrArg (· + 1) r.length
/-- a key of the small language and one of the layer -/
inductive KeyR : Val → Key → Prop
  | str (x : Str) : KeyR (.str x) (.inr x)
  | int (x : Int) : KeyR (.int x) (.inl x)
theorem KeyR.eq {a b : Val} {c d : Key} (h : KeyR a c) (k : KeyR b d) : (a = b) ↔ (c = d) := by
  cases h <;> cases k <;> simp
theorem KeyR.rep {K : PySem.W.Frag} {m : List Addr} {H : Hp} {a : Val} {c : Key} (h : KeyR a c) {x : V} (r : Rep K m H a x) : x = kV c := by
  cases h <;> cases r <;> rfl
theorem KRep.cons_inv {K : PySem.W.Frag} {m : List Addr} {H : Hp} {p : Val × Val} {r : List (Val × Val)} {s : List (Key × V)} (h : KRep K m H (p :: r) s) :
    ∃ c y t, s = (c, y) :: t ∧ KeyR p.1 c ∧ Rep K m H p.2 y ∧ KRep K m H r t := by
  cases h with
  | str a b => exact ⟨_, _, _, rfl, .str _, a, b⟩
  | int a b => exact ⟨_, _, _, rfl, .int _, a, b⟩
theorem KRep.cons_mk {K : PySem.W.Frag} {m : List Addr} {H : Hp} {k v : Val} {c : Key} {y : V} {r : List (Val × Val)} {s : List (Key × V)} (hk : KeyR k c) (hv : Rep K m H v y) (h : KRep K m H r s) : KRep K m H ((k, v) :: r) ((c, y) :: s) := by
  cases hk with
  | str x => exact .str hv h
  | int x => exact .int hv h
theorem KRep.look {K : PySem.W.Frag} {m : List Addr} {H : Hp} {k : Val} {c : Key} (hk : KeyR k c) : ∀ {r : List (Val × Val)} {s : List (Key × V)}, KRep K m H r s →
    (∀ v, lookD r k = some v → ∃ y, valV s c = some y ∧ Rep K m H v y) ∧ (lookD r k = none → valV s c = none)
  | [], s, h => by cases h; exact ⟨fun v e => by simp [lookD] at e, fun _ => rfl⟩
  | p :: r, s, h => by
    obtain ⟨c', y, t, rfl, k', rv, rt⟩ := h.cons_inv
    have ih := KRep.look hk rt
    by_cases e : p.1 = k
    · have e' : c' = c := (k'.eq hk).mp e
      refine ⟨fun v hv => ?_, fun hv => ?_⟩
      · have : lookD (p :: r) k = some p.2 := by simp [lookD, List.find?_cons, e]
        rw [this] at hv; cases hv
        exact ⟨y, valV_pos e', rv⟩
      · simp [lookD, List.find?_cons, e] at hv
    · have e' : ¬ c' = c := fun q => e ((k'.eq hk).mpr q)
      have l1 : lookD (p :: r) k = lookD r k := by simp [lookD, List.find?_cons, e]
      have l2 : valV ((c', y) :: t) c = valV t c := valV_neg e'
      rw [l1, l2]
      exact ih
theorem KRep.any {K : PySem.W.Frag} {m : List Addr} {H : Hp} {k : Val} {c : Key} (hk : KeyR k c) : ∀ {r : List (Val × Val)} {s : List (Key × V)}, KRep K m H r s →
    (r.any fun p => decide (p.1 = k)) = (s.any fun p => decide (p.1 = c))
  | [], s, h => by cases h; rfl
  | p :: r, s, h => by
    obtain ⟨c', y, t, rfl, k', rv, rt⟩ := h.cons_inv
    rw [List.any_cons, List.any_cons, KRep.any hk rt]
    congr 1
    by_cases e : p.1 = k
    · rw [decide_eq_true e, decide_eq_true ((k'.eq hk).mp e)]
    · rw [decide_eq_false e, decide_eq_false fun q => e ((k'.eq hk).mpr q)]
theorem KRep.snoc {K : PySem.W.Frag} {m : List Addr} {H : Hp} {k v : Val} {c : Key} {y : V} (hk : KeyR k c) (hv : Rep K m H v y) : ∀ {r : List (Val × Val)} {s : List (Key × V)}, KRep K m H r s → KRep K m H (r ++ [(k, v)]) (s ++ [(c, y)])
  | [], s, h => by cases h; exact .cons_mk hk hv .nil
  | p :: r, s, h => by
    obtain ⟨c', y', t, rfl, k', rv, rt⟩ := h.cons_inv
    exact .cons_mk k' rv (KRep.snoc hk hv rt)
theorem KRep.repl {K : PySem.W.Frag} {m : List Addr} {H : Hp} {k v : Val} {c : Key} {y : V} (hk : KeyR k c) (hv : Rep K m H v y) : ∀ {r : List (Val × Val)} {s : List (Key × V)}, KRep K m H r s →
    KRep K m H (r.map fun p => if p.1 = k then (p.1, v) else p) (s.map fun p => if p.1 = c then (p.1, y) else p)
  | [], s, h => by cases h; exact .nil
  | p :: r, s, h => by
    obtain ⟨c', y', t, rfl, k', rv, rt⟩ := h.cons_inv
    have ih := KRep.repl hk hv rt
    rw [List.map_cons, List.map_cons]
    by_cases e : p.1 = k
    · rw [if_pos e, if_pos (show (c', y').1 = c from (k'.eq hk).mp e)]
      exact .cons_mk k' hv ih
    · rw [if_neg e, if_neg (show ¬ (c', y').1 = c from fun q => e ((k'.eq hk).mpr q))]
      exact .cons_mk k' rv ih
theorem KRep.put {K : PySem.W.Frag} {m : List Addr} {H : Hp} {k v : Val} {c : Key} {y : V} (hk : KeyR k c) (hv : Rep K m H v y) {r : List (Val × Val)} {s : List (Key × V)} (h : KRep K m H r s) : KRep K m H (putD r k v) (putK s c y) := by
  unfold putD
  by_cases e : (r.any fun p => decide (p.1 = k)) = true
  · rw [if_pos e]
    have e2 : putK s c y = s.map fun p => if p.1 = c then (p.1, y) else p := by
      unfold putK
      have e' : (s.any fun p => decide (p.1 = c)) = true := by rw [← h.any hk]; exact e
      simp only [e', if_true]
    rw [e2]
    exact h.repl hk hv
  · rw [if_neg e]
    have e2 : putK s c y = s ++ [(c, y)] := by
      refine putK_new y ?_
      have e' : (s.any fun p => decide (p.1 = c)) = false := by rw [← h.any hk]; exact Bool.eq_false_iff.mpr e
      rw [valV_any] at e'
      cases q : valV s c with
      | none => rfl
      | some _ => rw [q] at e'; cases e'
    rw [e2]
    exact h.snoc hk hv

/-- a list that is read alone: frozen, or the written part's -/
def FrzL (K : PySem.W.Frag) (H : Hp) (a : Addr) (ys : List V) : Prop := (∃ o, H a = some (.frz o (.lst ys))) ∨
  ∃ (o : Obj) (its : Array Value) (n : Nat), K.lookup a = some o ∧ o.cls = .type "list" ∧ o.dict = none ∧ o.data = .seq its n ∧ its.size ≤ sizeLine ∧ Vals ys its.toList
theorem FrzL.sqL {K : PySem.W.Frag} {H : Hp} {a : Addr} {ys : List V} (h : FrzL K H a ys) : SqL K H a ys := by
  rcases h with ⟨o, h⟩ | h
  · exact .inl (.inr ⟨o, h⟩)
  · exact .inr h
/-- what stands at an object's address -/
def ObR (K : PySem.W.Frag) (m : List Addr) (H : Hp) (a : Addr) : Ob → Prop
  | .lst xs => ∃ ys, H a = some (.lst ys) ∧ Reps K m H xs ys
  | .frz xs => ∃ ys, FrzL K H a ys ∧ Reps K m H xs ys
  | .dic kvs => ∃ ws, H a = some (.dK ws) ∧ KRep K m H kvs ws
  | .fdc kvs => ∃ o ws, H a = some (.frz o (.dK ws)) ∧ KRep K m H kvs ws
/-- an object of our own (not the script) -/
def Ob.wr : Ob → Bool
  | .frz _ => false
  | _ => true
/-- an object that may be written -/
def Ob.mut : Ob → Bool
  | .lst _ => true
  | .dic _ => true
  | _ => false
theorem Ob.mut.wr {o : Ob} (h : o.mut = true) : o.wr = true := by cases o <;> first | rfl | cases h
structure StR (K : PySem.W.Frag) (m : List Addr) (h : Hpe) (H : Hp) : Prop where
  len : m.length = h.length
  ob : ∀ (n : Nat) (o : Ob), h[n]? = some o → ∃ a, m[n]? = some a ∧ ObR K m H a o
  inj : ∀ (i j : Nat) (a : Addr) (o u : Ob), m[i]? = some a → m[j]? = some a → h[i]? = some o → h[j]? = some u → o.wr = true → u.wr = true → i = j
theorem StR.at {K : PySem.W.Frag} {m : List Addr} {h : Hpe} {H : Hp} (S : StR K m h H) {n : Nat} {a : Addr} {o : Ob} (e : h[n]? = some o) (ea : m[n]? = some a) : ObR K m H a o := by
  obtain ⟨b, eb, r⟩ := S.ob n o e
  rw [ea] at eb; cases eb
  exact r
/-- the tracked object of our own one -/
theorem ObR.tracked {K : PySem.W.Frag} {m : List Addr} {H : Hp} {a : Addr} {o : Ob} (r : ObR K m H a o) (w : o.wr = true) : ∃ u, H a = some u ∧ ∀ o' xs, u ≠ .frz o' (.lst xs) := by
  cases o with
  | lst xs => obtain ⟨ys, h, _⟩ := r; exact ⟨_, h, fun _ _ z => nomatch z⟩
  | frz xs => cases w
  | dic kvs => obtain ⟨ys, h, _⟩ := r; exact ⟨_, h, fun _ _ z => nomatch z⟩
  | fdc kvs => obtain ⟨o', ws, h, _⟩ := r; exact ⟨_, h, fun _ _ z => nomatch z⟩
theorem ObR.mutable {K : PySem.W.Frag} {m : List Addr} {H : Hp} {a : Addr} {o : Ob} (r : ObR K m H a o) (w : o.mut = true) : ∃ u, H a = some u ∧ ((∃ xs, u = .lst xs) ∨ ∃ kvs, u = .dK kvs) := by
  cases o with
  | lst xs => obtain ⟨ys, h, _⟩ := r; exact ⟨_, h, .inl ⟨_, rfl⟩⟩
  | frz xs => cases w
  | dic kvs => obtain ⟨ys, h, _⟩ := r; exact ⟨_, h, .inr ⟨_, rfl⟩⟩
  | fdc kvs => cases w
theorem ObR.mono {K : PySem.W.Frag} {m m' : List Addr} {H H' : Hp} (g : Grow m m' H H') {a : Addr} {o : Ob} (e : ∀ u, H a = some u → H' a = some u) (r : ObR K m H a o) : ObR K m' H' a o := by
  cases o with
  | lst xs => obtain ⟨ys, h, q⟩ := r; exact ⟨ys, e _ h, q.mono g⟩
  | frz xs =>
    obtain ⟨ys, h, q⟩ := r
    refine ⟨ys, ?_, q.mono g⟩
    rcases h with ⟨o, h⟩ | h
    · exact .inl ⟨o, e _ h⟩
    · exact .inr h
  | dic kvs => obtain ⟨ys, h, q⟩ := r; exact ⟨ys, e _ h, q.mono g⟩
  | fdc kvs => obtain ⟨o', ys, h, q⟩ := r; exact ⟨o', ys, e _ h, q.mono g⟩
section
variable {K : PySem.W.Frag} {m : List Addr} {h : Hpe} {H : Hp}
/-- a new object -/
theorem StR.growA (S : StR K m h H) {p : Addr} (hp : H p = none) (u : HO) : Grow m (m ++ [p]) H (upd H p u) := by
  refine ⟨fun n a e => ?_, fun a xs e => ?_, fun a o u e => by rw [upd_ne (ne_of_none e hp)]; exact e⟩
  · rw [List.getElem?_append_left (List.getElem?_eq_some_iff.mp e).1]; exact e
  · rcases e with e | ⟨o, e⟩
    · exact .inl (by rw [upd_ne (ne_of_none e hp)]; exact e)
    · exact .inr ⟨o, by rw [upd_ne (ne_of_none e hp)]; exact e⟩
theorem StR.alloc (S : StR K m h H) {p : Addr} (hp : H p = none) {u : HO} {o : Ob} (hr : ObR K (m ++ [p]) (upd H p u) p o) : StR K (m ++ [p]) (h ++ [o]) (upd H p u) := by
  have g := S.growA hp u
  refine ⟨by rw [List.length_append, List.length_append, S.len]; rfl, fun n o' e => ?_, fun i j a o1 o2 e1 e2 e3 e4 w1 w2 => ?_⟩
  · by_cases hn : n < h.length
    · rw [List.getElem?_append_left hn] at e
      obtain ⟨a, ea, r⟩ := S.ob n o' e
      refine ⟨a, g.pre _ _ ea, ObR.mono g (fun u' e' => by rw [upd_ne (ne_of_none e' hp)]; exact e') r⟩
    · have hl : n < (h ++ [o]).length := (List.getElem?_eq_some_iff.mp e).1
      rw [List.length_append] at hl
      have hn' : n = h.length := by simp at hl; omega
      subst hn'
      rw [List.getElem?_append_right (Nat.le_refl _)] at e
      simp at e
      subst e
      refine ⟨p, ?_, hr⟩
      rw [← S.len, List.getElem?_append_right (Nat.le_refl _)]
      simp
  · have old : ∀ (k : Nat) (u' : Ob), (m ++ [p])[k]? = some a → (h ++ [o])[k]? = some u' → u'.wr = true → (k < h.length ∧ m[k]? = some a ∧ h[k]? = some u' ∧ a ≠ p) ∨ (k = h.length ∧ a = p) := by
      intro k u' k1 k2 k3
      by_cases hk : k < h.length
      · rw [List.getElem?_append_left (by rw [S.len]; exact hk)] at k1
        rw [List.getElem?_append_left hk] at k2
        obtain ⟨x, hx, _⟩ := (S.at k2 k1).tracked k3
        exact .inl ⟨hk, k1, k2, ne_of_none hx hp⟩
      · have hl : k < (h ++ [o]).length := (List.getElem?_eq_some_iff.mp k2).1
        rw [List.length_append] at hl
        have hk' : k = h.length := by simp at hl; omega
        subst hk'
        rw [← S.len, List.getElem?_append_right (Nat.le_refl _)] at k1
        simp at k1
        exact .inr ⟨rfl, k1.symm⟩
    rcases old i o1 e1 e3 w1 with ⟨a1, a2, a3, a4⟩ | ⟨a1, a2⟩ <;> rcases old j o2 e2 e4 w2 with ⟨b1, b2, b3, b4⟩ | ⟨b1, b2⟩
    · exact S.inj i j a o1 o2 a2 b2 a3 b3 w1 w2
    · exact absurd b2 a4
    · exact absurd a2 b4
    · omega
/-- a writable object is changed -/
theorem Grow.write {a : Addr} {u u' : HO} (ha : H a = some u) (hu : ∀ xs, u ≠ .tup xs) (hf : ∀ o x, u ≠ .frz o x) : Grow m m H (upd H a u') := by
  refine ⟨fun _ _ e => e, fun b xs e => ?_, fun b o x e => by
    rw [upd_ne]
    · exact e
    · rintro rfl
      rw [ha] at e; cases e
      exact hf _ _ rfl⟩
  rcases e with e | ⟨o, e⟩
  · refine .inl ?_
    rw [upd_ne]
    · exact e
    · rintro rfl
      rw [ha] at e; cases e
      exact hu _ rfl
  · refine .inr ⟨o, ?_⟩
    rw [upd_ne]
    · exact e
    · rintro rfl
      rw [ha] at e; cases e
      exact hf _ _ rfl
theorem StR.put (S : StR K m h H) {n : Nat} {a : Addr} {o o' : Ob} {u' : HO} (e : h[n]? = some o) (ea : m[n]? = some a) (w : o.wr = true) (g : ∀ v x, Rep K m H v x → Rep K m (upd H a u') v x) (gs : ∀ v x, Reps K m H v x → Reps K m (upd H a u') v x)
    (gk : ∀ v x, KRep K m H v x → KRep K m (upd H a u') v x) (hr : ObR K m (upd H a u') a o') : StR K m (h.set n o') (upd H a u') := by
  obtain ⟨x, hx, hk⟩ := (S.at e ea).tracked w
  have hl : n < h.length := (List.getElem?_eq_some_iff.mp e).1
  refine ⟨by rw [List.length_set]; exact S.len, fun i oi ei => ?_, fun i j b o1 o2 e1 e2 e3 e4 w1 w2 => ?_⟩
  · by_cases hi : n = i
    · subst hi
      rw [List.getElem?_set_self hl] at ei
      cases ei
      exact ⟨a, ea, hr⟩
    · rw [List.getElem?_set_ne hi] at ei
      obtain ⟨b, eb, r⟩ := S.ob i oi ei
      refine ⟨b, eb, ?_⟩
      have hne : oi.wr = true → b ≠ a := fun hw q => hi (S.inj n i a o oi ea (q ▸ eb) e ei w hw)
      cases oi with
      | lst xs => obtain ⟨ys, h1, q⟩ := r; exact ⟨ys, by rw [upd_ne (hne rfl)]; exact h1, gs _ _ q⟩
      | dic xs => obtain ⟨ys, h1, q⟩ := r; exact ⟨ys, by rw [upd_ne (hne rfl)]; exact h1, gk _ _ q⟩
      | fdc xs => obtain ⟨o', ys, h1, q⟩ := r; exact ⟨o', ys, by rw [upd_ne (hne rfl)]; exact h1, gk _ _ q⟩
      | frz xs =>
        obtain ⟨ys, hf, q⟩ := r
        refine ⟨ys, ?_, gs _ _ q⟩
        rcases hf with ⟨ob, hf⟩ | hf
        · refine .inl ⟨ob, ?_⟩
          rw [upd_ne]
          · exact hf
          · rintro rfl
            rw [hf] at hx; cases hx
            exact hk _ _ rfl
        · exact .inr hf
  · have back : ∀ (k : Nat) (u : Ob), (h.set n o')[k]? = some u → u.wr = true → ∃ v, h[k]? = some v ∧ v.wr = true := by
      intro k u k1 k2
      by_cases hk : n = k
      · subst hk; exact ⟨o, e, w⟩
      · rw [List.getElem?_set_ne hk] at k1; exact ⟨u, k1, k2⟩
    obtain ⟨v1, c1, d1⟩ := back i o1 e3 w1
    obtain ⟨v2, c2, d2⟩ := back j o2 e4 w2
    exact S.inj i j b v1 v2 e1 e2 c1 c2 d1 d2
theorem StR.write (S : StR K m h H) {n : Nat} {a : Addr} {o o' : Ob} {u' : HO} (e : h[n]? = some o) (ea : m[n]? = some a) (w : o.mut = true) (hr : ObR K m (upd H a u') a o') :
    StR K m (h.set n o') (upd H a u') ∧ Grow m m H (upd H a u') := by
  obtain ⟨x, hx, hk⟩ := (S.at e ea).mutable w
  have g : Grow m m H (upd H a u') := Grow.write hx (fun xs q => by rcases hk with ⟨_, k⟩ | ⟨_, k⟩ <;> rw [k] at q <;> cases q) (fun o xs q => by rcases hk with ⟨_, k⟩ | ⟨_, k⟩ <;> rw [k] at q <;> cases q)
  exact ⟨S.put e ea (Ob.mut.wr w) (fun _ _ r => r.mono g) (fun _ _ r => r.mono g) (fun _ _ r => r.mono g) hr, g⟩
/-- what is not a tuple may be changed under the eyes of data -/
theorem tups_put {a : Addr} {u u' : HO} (ha : H a = some u) (hu : ∀ xs, u ≠ .tup xs) (hf : ∀ o xs, u ≠ .frz o (.tup xs)) : ∀ b xs, Rd H b (.tup xs) → Rd (upd H a u') b (.tup xs) := fun b xs e => by
  rcases e with e | ⟨o, e⟩
  · refine .inl ?_
    rw [upd_ne]
    · exact e
    · rintro rfl
      rw [ha] at e; cases e
      exact hu _ rfl
  · refine .inr ⟨o, ?_⟩
    rw [upd_ne]
    · exact e
    · rintro rfl
      rw [ha] at e; cases e
      exact hf _ _ rfl
/-- a new tuple: nothing new in the small heap -/
theorem StR.tup (S : StR K m h H) {p : Addr} (hp : H p = none) (ys : List V) : StR K m h (upd H p (.tup ys)) ∧ Grow m m H (upd H p (.tup ys)) := by
  have g : Grow m m H (upd H p (.tup ys)) := ⟨fun _ _ e => e, fun a xs e => by
    rcases e with e | ⟨o, e⟩
    · exact .inl (by rw [upd_ne (ne_of_none e hp)]; exact e)
    · exact .inr ⟨o, by rw [upd_ne (ne_of_none e hp)]; exact e⟩, fun a o u e => by rw [upd_ne (ne_of_none e hp)]; exact e⟩
  refine ⟨⟨S.len, fun n o e => ?_, S.inj⟩, g⟩
  obtain ⟨a, ea, r⟩ := S.ob n o e
  exact ⟨a, ea, ObR.mono g (o := o) (fun u eu => by rw [upd_ne (ne_of_none eu hp)]; exact eu) r⟩
/-- a list that stands there -/
theorem StR.list (S : StR K m h H) {n : Nat} {a : Addr} {xs : List Val} (e : lstAt h n = some xs) (ea : m[n]? = some a) : ∃ ys, SqL K H a ys ∧ Reps K m H xs ys := by
  unfold lstAt at e
  split at e
  · rename_i zs q
    cases e
    obtain ⟨ys, h1, h2⟩ := S.at q ea
    exact ⟨ys, .of h1, h2⟩
  · rename_i zs q
    cases e
    obtain ⟨ys, h1, h2⟩ := S.at q ea
    exact ⟨ys, h1.sqL, h2⟩
  · cases e
theorem StR.lst (S : StR K m h H) {n : Nat} {a : Addr} {xs : List Val} (e : h[n]? = some (.lst xs)) (ea : m[n]? = some a) : ∃ ys, H a = some (.lst ys) ∧ Reps K m H xs ys := S.at e ea
/-- a dict that stands there -/
theorem StR.dict (S : StR K m h H) {n : Nat} {a : Addr} {xs : List (Val × Val)} (e : dicAt h n = some xs) (ea : m[n]? = some a) : ∃ ys, Rd H a (.dK ys) ∧ KRep K m H xs ys := by
  unfold dicAt at e
  split at e
  · rename_i zs q
    cases e
    obtain ⟨ys, h1, h2⟩ := S.at q ea
    exact ⟨ys, .inl h1, h2⟩
  · rename_i zs q
    cases e
    obtain ⟨o, ys, h1, h2⟩ := S.at q ea
    exact ⟨ys, .inr ⟨o, h1⟩, h2⟩
  · cases e
theorem StR.fdc (S : StR K m h H) {n : Nat} {a : Addr} {xs : List (Val × Val)} (e : h[n]? = some (.fdc xs)) (ea : m[n]? = some a) : ∃ o ys, H a = some (.frz o (.dK ys)) ∧ KRep K m H xs ys := S.at e ea
/-- a dict is locked -/
theorem StR.lock (S : StR K m h H) {n : Nat} {a : Addr} {xs : List (Val × Val)} {ys : List (Key × V)} (e : h[n]? = some (.dic xs)) (ea : m[n]? = some a) (eh : H a = some (.dK ys)) (rk : KRep K m H xs ys) (od : Obj) :
    StR K m (h.set n (.fdc xs)) (upd H a (.frz od (.dK ys))) ∧ Grow m m H (upd H a (.frz od (.dK ys))) := by
  have g : Grow m m H (upd H a (.frz od (.dK ys))) := Grow.write eh (fun _ z => nomatch z) (fun _ _ z => nomatch z)
  exact S.write e ea rfl ⟨od, ys, upd_same, rk.mono g⟩
/-- .. and let go -/
theorem StR.unlock {m' : List Addr} {H' : Hp} {h' : Hpe} (S' : StR K m' h' H') (g : Grow m m' (upd H a (.frz od (.dK ys))) H') (eh : H a = some (.dK ys)) {n : Nat} {xs xs' : List (Val × Val)} (rk : KRep K m H xs ys) (e : h'[n]? = some (.fdc xs')) (ea : m'[n]? = some a) :
    H' a = some (.frz od (.dK ys)) ∧ StR K m' (h'.set n (.dic xs)) (upd H' a (.dK ys)) ∧ Grow m m' H (upd H' a (.dK ys)) ∧ ∀ v x, Rep K m' H' v x → Rep K m' (upd H' a (.dK ys)) v x := by
  have ef : H' a = some (.frz od (.dK ys)) := g.frzs _ _ _ upd_same
  have t2 := tups_put (u' := .dK ys) ef (fun _ z => nomatch z) (fun _ _ z => nomatch z)
  have t1 : ∀ b zs, Rd H b (.tup zs) → Rd (upd H' a (.dK ys)) b (.tup zs) := fun b zs q => t2 _ _ (g.tups _ _ (tups_put (u' := .frz od (.dK ys)) eh (fun _ z => nomatch z) (fun _ _ z => nomatch z) _ _ q))
  refine ⟨ef, S'.put e ea rfl (fun _ _ r => r.mono0 (fun _ _ q => q) t2) (fun _ _ r => r.mono0 (fun _ _ q => q) t2) (fun _ _ r => r.mono0 (fun _ _ q => q) t2) ⟨ys, upd_same, rk.mono0 g.pre t1⟩, ⟨g.pre, t1, fun b o u q => ?_⟩, fun _ _ r => r.mono0 (fun _ _ q => q) t2⟩
  have hne : b ≠ a := by rintro rfl; rw [eh] at q; cases q
  rw [upd_ne hne]
  exact g.frzs _ _ _ (by rw [upd_ne hne]; exact q)
theorem StR.dic (S : StR K m h H) {n : Nat} {a : Addr} {xs : List (Val × Val)} (e : h[n]? = some (.dic xs)) (ea : m[n]? = some a) : ∃ ys, H a = some (.dK ys) ∧ KRep K m H xs ys := S.at e ea
end

/-- the slots -/
structure EnR (K : PySem.W.Frag) (m : List Addr) (H : Hp) (σ : En) (τ : L2.St) : Prop where
  len : σ.length = τ.length
  at_ : ∀ (i : Nat) (v : Val), σ[i]? = some (some v) → ∃ x, τ[i]? = some (some x) ∧ Rep K m H v x
theorem EnR.mono {K : PySem.W.Frag} {m m' : List Addr} {H H' : Hp} {σ : En} {τ : L2.St} (g : Grow m m' H H') (r : EnR K m H σ τ) : EnR K m' H' σ τ :=
  ⟨r.len, fun i v e => let ⟨x, h1, h2⟩ := r.at_ i v e; ⟨x, h1, h2.mono g⟩⟩
theorem EnR.set {K : PySem.W.Frag} {m : List Addr} {H : Hp} {σ : En} {τ : L2.St} (r : EnR K m H σ τ) (i : Nat) {v : Val} {x : V} (rv : Rep K m H v x) : EnR K m H (σ.set i (some v)) (τ.set i (some x)) := by
  refine ⟨by rw [List.length_set, List.length_set]; exact r.len, fun j w e => ?_⟩
  by_cases hj : i = j
  · subst hj
    have hl : i < σ.length := by
      have := (List.getElem?_eq_some_iff.mp e).1
      rwa [List.length_set] at this
    rw [List.getElem?_set_self hl] at e
    cases e
    exact ⟨x, by rw [List.getElem?_set_self (r.len ▸ hl)], rv⟩
  · rw [List.getElem?_set_ne hj] at e
    rw [List.getElem?_set_ne hj]
    exact r.at_ j w e
theorem EnR.none {K : PySem.W.Frag} {m : List Addr} {H : Hp} {σ : En} {τ : L2.St} (r : EnR K m H σ τ) (i : Nat) : EnR K m H (σ.set i none) (τ.set i none) := by
  refine ⟨by rw [List.length_set, List.length_set]; exact r.len, fun j w e => ?_⟩
  by_cases hj : i = j
  · subst hj
    have hl : i < σ.length := by
      have := (List.getElem?_eq_some_iff.mp e).1
      rwa [List.length_set] at this
    rw [List.getElem?_set_self hl] at e
    cases e
  · rw [List.getElem?_set_ne hj] at e
    rw [List.getElem?_set_ne hj]
    exact r.at_ j w e
theorem EnR.wipe {K : PySem.W.Frag} {m : List Addr} {H : Hp} {σ : En} {τ : L2.St} (r : EnR K m H σ τ) : ∀ vs : List Nat, EnR K m H (wipeE σ vs) (L2.wipe τ vs)
  | [] => r
  | v :: vs => (EnR.wipe r vs).none v
theorem EnR.start {K : PySem.W.Frag} {m : List Addr} {H : Hp} {vs : List Val} {xs : List V} (r : Reps K m H vs xs) {N : List Str} {n : Nat} (hn : n = N.length) : EnR K m H (startE n vs) (L2.start N xs) := by
  have hl := r.length
  refine ⟨by unfold startE L2.start; rw [List.length_append, List.length_append, List.length_map, List.length_map, List.length_replicate, List.length_replicate, hl, hn], fun i v e => ?_⟩
  unfold startE at e
  unfold L2.start
  by_cases hi : i < vs.length
  · rw [List.getElem?_append_left (by simpa using hi), List.getElem?_map] at e
    rw [List.getElem?_append_left (by rw [List.length_map, ← hl]; exact hi), List.getElem?_map]
    cases q : vs[i]? with
    | none => rw [q] at e; cases e
    | some w =>
      rw [q] at e; cases e
      obtain ⟨y, h1, h2⟩ := r.get q
      exact ⟨y, by rw [h1]; rfl, h2⟩
  · rw [List.getElem?_append_right (by simpa using hi), List.getElem?_replicate] at e
    split at e <;> cases e
end Ev
/-! EvOps: the operations of the small language over the hand layer's rules. -/
namespace Ev
open PySem PySem.Spec PyProof.Rows L2

/-! ### == of data -/
mutual
inductive Hv (h : Heap) : Val → Value → Prop
  | non : Hv h .non .none
  | bl (b : Bool) : Hv h (.bl b) (.bool b)
  | int (i : Int) (t : Tok) : Hv h (.int i) (.int i t)
  | str (x : Str) (t : Tok) : Hv h (.str x) (.str x t)
  | tup {a : Addr} {xs : List Val} {us : List Value} : IsTup h a us.toArray → Hvs h xs us → Hv h (.tup xs) (.ref a)
inductive Hvs (h : Heap) : List Val → List Value → Prop
  | nil : Hvs h [] []
  | cons {x : Val} {xs : List Val} {u : Value} {us : List Value} : Hv h x u → Hvs h xs us → Hvs h (x :: xs) (u :: us)
end
section
variable {h : Heap}
theorem Hvs.length : ∀ {xs : List Val} {us : List Value}, Hvs h xs us → xs.length = us.length
  | _, _, .nil => rfl
  | _, _, .cons _ r => congrArg (· + 1) r.length
mutual
theorem Hv.uniq : ∀ {v v' : Val} {u : Value}, Hv h v u → Hv h v' u → v = v'
  | _, _, _, .non, k => by cases k; rfl
  | _, _, _, .bl b, k => by cases k; rfl
  | _, _, _, .int i t, k => by cases k; rfl
  | _, _, _, .str i t, k => by cases k; rfl
  | _, _, _, .tup ht hs, k => by
    cases k with
    | tup kt ks =>
      obtain ⟨o, e, _, n, d⟩ := ht
      obtain ⟨o', e', _, n', d'⟩ := kt
      rw [e] at e'; cases e'
      rw [d] at d'
      injection d' with d1 _
      have := congrArg Array.toList d1
      simp at this
      subst this
      rw [Hvs.uniq hs ks]
theorem Hvs.uniq : ∀ {v v' : List Val} {u : List Value}, Hvs h v u → Hvs h v' u → v = v'
  | _, _, _, .nil, k => by cases k; rfl
  | _, _, _, .cons a b, k => by
    cases k with
    | cons c d => rw [Hv.uniq a c, Hvs.uniq b d]
end
end
mutual
theorem Val.eqv_refl : ∀ v : Val, v.flat = true → v.eqv v = true
  | .non, _ => rfl
  | .bl b, _ => by simp [Val.eqv]
  | .int b, _ => by simp [Val.eqv]
  | .str b, _ => by simp [Val.eqv]
  | .tup xs, h => by
    rw [Val.eqv]
    exact Val.eqvs_refl xs (by simpa [Val.flat] using h)
  | .ref _, h => by simp [Val.flat] at h
theorem Val.eqvs_refl : ∀ v : List Val, Val.flats v = true → Val.eqvs v v = true
  | [], _ => rfl
  | x :: xs, h => by
    have h' : x.flat = true ∧ Val.flats xs = true := by simpa [Val.flats] using h
    rw [Val.eqvs, Val.eqv_refl x h'.1, Val.eqvs_refl xs h'.2]
    rfl
end
/-- == of the j-th items -/
def eqAtJ (xs ys : List Val) (j : Nat) : Bool := match xs[j]?, ys[j]? with
  | some x, some y => x.eqv y
  | _, _ => false
theorem eqvs_all : ∀ xs ys : List Val, Val.eqvs xs ys = ((List.range (min xs.length ys.length)).all (eqAtJ xs ys) && xs.length == ys.length)
  | [], [] => by simp [Val.eqvs]
  | [], _ :: _ => by simp [Val.eqvs]
  | _ :: _, [] => by simp [Val.eqvs]
  | x :: xs, y :: ys => by
    have ih := eqvs_all xs ys
    have e : min (x :: xs).length (y :: ys).length = min xs.length ys.length + 1 := by simp only [List.length_cons]; omega
    rw [Val.eqvs, ih, e, List.range_succ_eq_map, List.all_cons, List.all_map]
    have e2 : (fun j => eqAtJ (x :: xs) (y :: ys) j) ∘ Nat.succ = eqAtJ xs ys := by
      funext j
      simp [eqAtJ]
    have e3 : eqAtJ (x :: xs) (y :: ys) 0 = x.eqv y := by simp [eqAtJ]
    have e4 : ((x :: xs).length == (y :: ys).length) = (xs.length == ys.length) := by simp
    rw [e2, e3, e4, Bool.and_assoc]
theorem room_a {u m n : Nat} (h : u + min (m + 1) n < cLine) (hn : 0 < n) : u < cLine := by omega
theorem hvs_get {h : Heap} : ∀ {xs : List Val} {us : List Value} {j : Nat} (hj : j < us.length), Hvs h xs us → ∃ x, xs[j]? = some x ∧ Hv h x us[j]
  | _, _, _, hj, .nil => absurd hj (Nat.not_lt_zero _)
  | _, _, 0, _, .cons a _ => ⟨_, rfl, a⟩
  | _, _, j + 1, hj, .cons _ b => by
    obtain ⟨x, h1, h2⟩ := hvs_get (j := j) (Nat.lt_of_succ_lt_succ hj) b
    exact ⟨x, by simpa using h1, by simpa using h2⟩
theorem dep_get : ∀ {xs : List Val} {j : Nat} {x : Val}, xs[j]? = some x → x.dep ≤ Val.deps xs
  | [], _, _, e => by simp at e
  | y :: ys, 0, x, e => by simp at e; subst e; rw [Val.deps]; exact Nat.le_max_left _ _
  | y :: ys, j + 1, x, e => by
    rw [Val.deps]
    exact Nat.le_trans (dep_get (j := j) (by simpa using e)) (Nat.le_max_right _ _)
theorem flat_get : ∀ {xs : List Val} {j : Nat} {x : Val}, Val.flats xs = true → xs[j]? = some x → x.flat = true
  | [], _, _, _, e => by simp at e
  | y :: ys, 0, x, f, e => by
    have f' : y.flat = true ∧ Val.flats ys = true := by simpa [Val.flats] using f
    simp at e; subst e; exact f'.1
  | y :: ys, j + 1, x, f, e => by
    have f' : y.flat = true ∧ Val.flats ys = true := by simpa [Val.flats] using f
    exact flat_get (j := j) f'.2 (by simpa using e)

theorem hv_eqAt : ∀ (n : Nat) (a b : Val) (A : Around) (s : Shared) (u w : Value), min a.dep b.dep ≤ n → Hv s.heap a u → Hv s.heap b w → a.flat = true → b.flat = true → A.units + min a.dep b.dep < cLine → SeqAt.EqAt A s u w (a.eqv b) := by
  intro n
  induction n with
  | zero =>
    intro a b A s u w hn ha hb fa fb hu
    have hu0 : A.units < cLine := by omega
    cases ha with
    | non => cases hb with
      | non => exact SeqAt.EqAt.same _
      | bl y => exact SeqAt.EqAt.none_bool y
      | int y t => exact SeqAt.EqAt.none_int y t
      | str y t => exact SeqAt.EqAt.none_str y t
      | tup k1 k2 => exact SeqAt.EqAt.none_tuple k1 hu0
    | bl x => cases hb with
      | non => exact SeqAt.EqAt.bool_none x
      | bl y => exact SeqAt.EqAt.bool_bool x y
      | int y t => exact SeqAt.EqAt.bool_int x y t
      | str y t => exact SeqAt.EqAt.bool_str x y t
      | tup k1 k2 => exact SeqAt.EqAt.bool_tuple x k1 hu0
    | int x t => cases hb with
      | non => exact SeqAt.EqAt.int_none x t
      | bl y => exact SeqAt.EqAt.int_bool x t y
      | int y t' => exact SeqAt.EqAt.int_int x t y t'
      | str y t' => exact SeqAt.EqAt.int_str x t y t'
      | tup k1 k2 => exact SeqAt.EqAt.int_tuple x t k1 hu0
    | str x t => cases hb with
      | non => exact SeqAt.EqAt.str_none x t
      | bl y => exact SeqAt.EqAt.str_bool x t y
      | int y t' => exact SeqAt.EqAt.str_int x t y t'
      | str y t' => exact SeqAt.EqAt.str_str x t y t'
      | tup k1 k2 => exact SeqAt.EqAt.str_tuple x t k1 hu0
    | tup h1 h2 => cases hb with
      | non => exact SeqAt.EqAt.tuple_none h1 hu0
      | bl y => exact SeqAt.EqAt.tuple_bool y h1 hu0
      | int y t' => exact SeqAt.EqAt.tuple_int y t' h1 hu0
      | str y t' => exact SeqAt.EqAt.tuple_str y t' h1 hu0
      | tup k1 k2 => exfalso; simp only [Val.dep] at hn; omega
  | succ n ih =>
    intro a b A s u w hn ha hb fa fb hu
    by_cases ht : (∃ xs, a = .tup xs) ∧ ∃ ys, b = .tup ys
    · obtain ⟨⟨xs, rfl⟩, ys, rfl⟩ := ht
      cases ha with
      | @tup l _ us h1 h2 => cases hb with
        | @tup l' _ ws k1 k2 =>
          have hu0 : A.units < cLine := by omega
          by_cases hll : l = l'
          · subst hll
            have e : Val.tup xs = Val.tup ys := Hv.uniq (.tup h1 h2) (.tup k1 k2)
            rw [← e, Val.eqv_refl _ fa]
            exact SeqAt.EqAt.same _
          · rw [Val.eqv, eqvs_all]
            have n1 := h2.length
            have n2 := k2.length
            have e : ((List.range (min xs.length ys.length)).all (eqAtJ xs ys) && xs.length == ys.length) = ((List.range (min us.toArray.size ws.toArray.size)).all (eqAtJ xs ys) && us.toArray.size == ws.toArray.size) := by
              simp only [List.size_toArray, n1, n2]
            rw [e]
            refine SeqAt.EqAt.of_refs hll (SeqAt.RcAt.tuples h1 k1 hu0 fun j j1 j2 => ?_)
            obtain ⟨x, ex, hx⟩ := hvs_get (j := j) (by simpa using j1) h2
            obtain ⟨y, ey, hy⟩ := hvs_get (j := j) (by simpa using j2) k2
            have ejj : eqAtJ xs ys j = x.eqv y := by simp [eqAtJ, ex, ey]
            rw [ejj]
            have d1 := dep_get ex
            have d2 := dep_get ey
            simp only [Val.dep] at hn hu
            have fx : x.flat = true := flat_get (by simpa [Val.flat] using fa) ex
            have fy : y.flat = true := flat_get (by simpa [Val.flat] using fb) ey
            have hx' : Hv s.heap x us.toArray[j] := by simpa using hx
            have hy' : Hv s.heap y ws.toArray[j] := by simpa using hy
            exact ih x y A.in1 s _ _ (by omega) hx' hy' fx fy (by show A.units + 1 + min x.dep y.dep < cLine; omega)
    · have hz : min a.dep b.dep = 0 := by
        cases a with
        | tup xs => cases b with
          | tup ys => exact absurd ⟨⟨xs, rfl⟩, ys, rfl⟩ ht
          | _ => simp [Val.dep]
        | _ => simp [Val.dep]
      -- one of the two is an atom: the first case again
      have hu0 : A.units < cLine := by omega
      cases ha with
      | non => cases hb with
        | non => exact SeqAt.EqAt.same _
        | bl y => exact SeqAt.EqAt.none_bool y
        | int y t => exact SeqAt.EqAt.none_int y t
        | str y t => exact SeqAt.EqAt.none_str y t
        | tup k1 k2 => exact SeqAt.EqAt.none_tuple k1 hu0
      | bl x => cases hb with
        | non => exact SeqAt.EqAt.bool_none x
        | bl y => exact SeqAt.EqAt.bool_bool x y
        | int y t => exact SeqAt.EqAt.bool_int x y t
        | str y t => exact SeqAt.EqAt.bool_str x y t
        | tup k1 k2 => exact SeqAt.EqAt.bool_tuple x k1 hu0
      | int x t => cases hb with
        | non => exact SeqAt.EqAt.int_none x t
        | bl y => exact SeqAt.EqAt.int_bool x t y
        | int y t' => exact SeqAt.EqAt.int_int x t y t'
        | str y t' => exact SeqAt.EqAt.int_str x t y t'
        | tup k1 k2 => exact SeqAt.EqAt.int_tuple x t k1 hu0
      | str x t => cases hb with
        | non => exact SeqAt.EqAt.str_none x t
        | bl y => exact SeqAt.EqAt.str_bool x t y
        | int y t' => exact SeqAt.EqAt.str_int x t y t'
        | str y t' => exact SeqAt.EqAt.str_str x t y t'
        | tup k1 k2 => exact SeqAt.EqAt.str_tuple x t k1 hu0
      | tup h1 h2 => cases hb with
        | non => exact SeqAt.EqAt.tuple_none h1 hu0
        | bl y => exact SeqAt.EqAt.tuple_bool y h1 hu0
        | int y t' => exact SeqAt.EqAt.tuple_int y t' h1 hu0
        | str y t' => exact SeqAt.EqAt.tuple_str y t' h1 hu0
        | tup k1 k2 => exact absurd ⟨⟨_, rfl⟩, _, rfl⟩ ht
theorem RcAt.tuple_none' {A : Around} {s : Shared} {l : Addr} {items : Array Value} (hl : s.heap.IsTuple l items) (hu : A.units < cLine) : SeqAt.RcAt A s (.ref l) .none false := SeqAt.RcAt.tuple_none hl hu
theorem hv_rcAt (a b : Val) (A : Around) (s : Shared) (u w : Value) (ha : Hv s.heap a u) (hb : Hv s.heap b w) (fa : a.flat = true) (fb : b.flat = true) (hu : A.units + min a.dep b.dep < cLine) : SeqAt.RcAt A s u w (a.eqv b) := by
  have hu0 : A.units < cLine := by omega
  cases ha with
  | non => cases hb with
    | non => exact SeqAt.RcAt.none_none
    | bl y => exact SeqAt.RcAt.none_bool y
    | int y t => exact SeqAt.RcAt.none_int y t
    | str y t => exact SeqAt.RcAt.none_str y t
    | tup k1 k2 => exact SeqAt.RcAt.none_tuple k1 hu0
  | bl x => cases hb with
    | non => exact SeqAt.RcAt.bool_none x
    | bl y => exact SeqAt.RcAt.bool_bool x y
    | int y t => exact SeqAt.RcAt.bool_int x y t
    | str y t => exact SeqAt.RcAt.bool_str x y t
    | tup k1 k2 => exact SeqAt.RcAt.bool_tuple x k1 hu0
  | int x t => cases hb with
    | non => exact SeqAt.RcAt.int_none x t
    | bl y => exact SeqAt.RcAt.int_bool x t y
    | int y t' => exact SeqAt.RcAt.int_int x t y t'
    | str y t' => exact SeqAt.RcAt.int_str x t y t'
    | tup k1 k2 => exact SeqAt.RcAt.int_tuple x t k1 hu0
  | str x t => cases hb with
    | non => exact SeqAt.RcAt.str_none x t
    | bl y => exact SeqAt.RcAt.str_bool x t y
    | int y t' => exact SeqAt.RcAt.str_int x t y t'
    | str y t' => exact SeqAt.RcAt.str_str x t y t'
    | tup k1 k2 => exact SeqAt.RcAt.str_tuple x t k1 hu0
  | @tup l xs us h1 h2 => cases hb with
    | non => exact SeqAt.RcAt.tuple_none h1 hu0
    | bl y => exact SeqAt.RcAt.tuple_bool y h1 hu0
    | int y t' => exact SeqAt.RcAt.tuple_int y t' h1 hu0
    | str y t' => exact SeqAt.RcAt.tuple_str y t' h1 hu0
    | @tup l' ys ws k1 k2 =>
      rw [Val.eqv, eqvs_all]
      have n1 := h2.length
      have n2 := k2.length
      have e : ((List.range (min xs.length ys.length)).all (eqAtJ xs ys) && xs.length == ys.length) = ((List.range (min us.toArray.size ws.toArray.size)).all (eqAtJ xs ys) && us.toArray.size == ws.toArray.size) := by
        simp only [List.size_toArray, n1, n2]
      rw [e]
      refine SeqAt.RcAt.tuples h1 k1 hu0 fun j j1 j2 => ?_
      obtain ⟨x, ex, hx⟩ := hvs_get (j := j) (by simpa using j1) h2
      obtain ⟨y, ey, hy⟩ := hvs_get (j := j) (by simpa using j2) k2
      have ejj : eqAtJ xs ys j = x.eqv y := by simp [eqAtJ, ex, ey]
      rw [ejj]
      have d1 := dep_get ex
      have d2 := dep_get ey
      simp only [Val.dep] at hu
      have fx : x.flat = true := flat_get (by simpa [Val.flat] using fa) ex
      have fy : y.flat = true := flat_get (by simpa [Val.flat] using fb) ey
      have hx' : Hv s.heap x us.toArray[j] := by simpa using hx
      have hy' : Hv s.heap y ws.toArray[j] := by simpa using hy
      exact hv_eqAt _ x y A.in1 s _ _ (Nat.le_refl _) hx' hy' fx fy (by show A.units + 1 + min x.dep y.dep < cLine; omega)
theorem hv_rcNeAt (a b : Val) (A : Around) (s : Shared) (u w : Value) (ha : Hv s.heap a u) (hb : Hv s.heap b w) (fa : a.flat = true) (fb : b.flat = true) (hu : A.units + min a.dep b.dep < cLine) : SeqAt.RcNeAt A s u w (!a.eqv b) := by
  have hu0 : A.units < cLine := by omega
  cases ha with
  | non => cases hb with
    | non => exact SeqAt.RcNeAt.none_none
    | bl y => exact SeqAt.RcNeAt.none_bool y
    | int y t => exact SeqAt.RcNeAt.none_int y t
    | str y t => exact SeqAt.RcNeAt.none_str y t
    | tup k1 k2 => exact SeqAt.RcNeAt.none_tuple k1 hu0
  | bl x => cases hb with
    | non => exact SeqAt.RcNeAt.bool_none x
    | bl y => exact SeqAt.RcNeAt.bool_bool x y
    | int y t => exact SeqAt.RcNeAt.bool_int x y t
    | str y t => exact SeqAt.RcNeAt.bool_str x y t
    | tup k1 k2 => exact SeqAt.RcNeAt.bool_tuple x k1 hu0
  | int x t => cases hb with
    | non => exact SeqAt.RcNeAt.int_none x t
    | bl y => exact SeqAt.RcNeAt.int_bool x t y
    | int y t' => exact SeqAt.RcNeAt.int_int x t y t'
    | str y t' => exact SeqAt.RcNeAt.int_str x t y t'
    | tup k1 k2 => exact SeqAt.RcNeAt.int_tuple x t k1 hu0
  | str x t => cases hb with
    | non => exact SeqAt.RcNeAt.str_none x t
    | bl y => exact SeqAt.RcNeAt.str_bool x t y
    | int y t' => exact SeqAt.RcNeAt.str_int x t y t'
    | str y t' => exact SeqAt.RcNeAt.str_str x t y t'
    | tup k1 k2 => exact SeqAt.RcNeAt.str_tuple x t k1 hu0
  | @tup l xs us h1 h2 => cases hb with
    | non => exact SeqAt.RcNeAt.tuple_none h1 hu0
    | bl y => exact SeqAt.RcNeAt.tuple_bool y h1 hu0
    | int y t' => exact SeqAt.RcNeAt.tuple_int y t' h1 hu0
    | str y t' => exact SeqAt.RcNeAt.tuple_str y t' h1 hu0
    | @tup l' ys ws k1 k2 =>
      rw [Val.eqv, eqvs_all]
      have n1 := h2.length
      have n2 := k2.length
      have e : ((List.range (min xs.length ys.length)).all (eqAtJ xs ys) && xs.length == ys.length) = ((List.range (min us.toArray.size ws.toArray.size)).all (eqAtJ xs ys) && us.toArray.size == ws.toArray.size) := by
        simp only [List.size_toArray, n1, n2]
      rw [e]
      refine SeqAt.RcNeAt.tuples h1 k1 hu0 fun j j1 j2 => ?_
      obtain ⟨x, ex, hx⟩ := hvs_get (j := j) (by simpa using j1) h2
      obtain ⟨y, ey, hy⟩ := hvs_get (j := j) (by simpa using j2) k2
      have ejj : eqAtJ xs ys j = x.eqv y := by simp [eqAtJ, ex, ey]
      rw [ejj]
      have d1 := dep_get ex
      have d2 := dep_get ey
      simp only [Val.dep] at hu
      have fx : x.flat = true := flat_get (by simpa [Val.flat] using fa) ex
      have fy : y.flat = true := flat_get (by simpa [Val.flat] using fb) ey
      have hx' : Hv s.heap x us.toArray[j] := by simpa using hx
      have hy' : Hv s.heap y ws.toArray[j] := by simpa using hy
      exact hv_eqAt _ x y A.in1 s _ _ (Nat.le_refl _) hx' hy' fx fy (by show A.units + 1 + min x.dep y.dep < cLine; omega)
section
variable {X : Cx} {pins : List (Addr × Obj)} {σ : L2.St} {H : Hp} {s : Shared} {m : List Addr}
mutual
theorem Rep.hv (I : Inv X pins σ H s) : ∀ {v : Val} {x : V} {u : Value}, Rep X.K m H v x → v.flat = true → RelV x u → Hv s.heap v u
  | _, _, _, .non, _, r => by cases r; exact .non
  | _, _, _, .bl b, _, r => by cases r; exact .bl b
  | _, _, _, .int b, _, r => by obtain ⟨t, rfl⟩ := r; exact .int b t
  | _, _, _, .str b, _, r => by obtain ⟨t, rfl⟩ := r; exact .str b t
  | _, _, _, .tup ht hs, f, r => by
    cases r
    obtain ⟨its, rv, it, _⟩ := I.tuple ht
    exact .tup it (Reps.hv I hs (by simpa [Val.flat] using f) rv)
  | _, _, _, .ref _, f, _ => by simp [Val.flat] at f
theorem Reps.hv (I : Inv X pins σ H s) : ∀ {v : List Val} {x : List V} {u : List Value}, Reps X.K m H v x → Val.flats v = true → Vals x u → Hvs s.heap v u
  | _, _, _, .nil, _, r => by cases r; exact .nil
  | _, _, _, .cons a b, f, r => by
    cases r with
    | cons r1 r2 =>
      rw [Val.flats, Bool.and_eq_true] at f
      exact .cons (Rep.hv I a f.1 r1) (Reps.hv I b f.2 r2)
end
end
mutual
theorem Hv.reads {h : Heap} : ∀ {v : Val} {u : Value}, Hv h v u → ∃ as, Reads h u v.toD as
  | _, _, .non => ⟨_, Reads.none⟩
  | _, _, .bl b => ⟨_, Reads.bool b⟩
  | _, _, .int i t => ⟨_, Reads.int i t⟩
  | _, _, .str i t => ⟨_, Reads.str i t⟩
  | _, _, .tup ht hs => by
    obtain ⟨as, r⟩ := Hvs.reads hs
    obtain ⟨o, e, c, n, d⟩ := ht
    exact ⟨as, Reads.tuple e c d (by simpa using r)⟩
theorem Hvs.reads {h : Heap} : ∀ {v : List Val} {u : List Value}, Hvs h v u → ∃ as, ReadsAll h u (Val.toDs v) as
  | _, _, .nil => ⟨_, ReadsAll.nil⟩
  | _, _, .cons a b => by
    obtain ⟨as, r⟩ := Hv.reads a
    obtain ⟨bs, q⟩ := Hvs.reads b
    exact ⟨_, ReadsAll.cons r q⟩
end
mutual
theorem toD_depth : ∀ v : Val, v.toD.depth = v.dep
  | .non => rfl
  | .bl _ => rfl
  | .int _ => rfl
  | .str _ => rfl
  | .ref _ => rfl
  | .tup xs => by rw [Val.toD, PyData.depth, Val.dep, toDs_depth xs]
theorem toDs_depth : ∀ v : List Val, PyData.depthAll (Val.toDs v) = Val.deps v
  | [] => rfl
  | x :: xs => by rw [Val.toDs, PyData.depthAll, Val.deps, toD_depth x, toDs_depth xs]
end
/-- == of data -/
def rEqE (K : PySem.W.Frag) : R2 := fun x y H Q => ∃ m a b, Rep K m H a x ∧ Rep K m H b y ∧ canEq a b = true ∧ Q (.bl (a.eqv b)) H
theorem canEq_iff {a b : Val} (h : canEq a b = true) : a.flat = true ∧ b.flat = true ∧ min a.dep b.dep ≤ 100 := by
  unfold canEq at h
  simp only [Bool.and_eq_true, decide_eq_true_eq] at h
  exact ⟨h.1.1, h.1.2, h.2⟩
section
variable {X : Cx}
theorem op_eqE (hu : X.A.units + 200 < cLine) : OpR X (compareOp .Eq) (rEqE X.K) := by
  intro pins s σ H x y v u Q I rx ry h
  obtain ⟨m, a, b, ra, rb, c, q⟩ := h
  obtain ⟨fa, fb, hd⟩ := canEq_iff c
  exact hv_rcAt a b X.A s v u (ra.hv I fa rx) (rb.hv I fb ry) fa fb (by omega) X.prog X.w X.xe _ ⟨.bl _, H, I, rfl, q⟩
/-- != of data -/
def rNeE (K : PySem.W.Frag) : R2 := fun x y H Q => ∃ m a b, Rep K m H a x ∧ Rep K m H b y ∧ canEq a b = true ∧ Q (.bl (!a.eqv b)) H
theorem op_neE (hu : X.A.units + 200 < cLine) : OpR X (compareOp .NotEq) (rNeE X.K) := by
  intro pins s σ H x y v u Q I rx ry h
  obtain ⟨m, a, b, ra, rb, c, q⟩ := h
  obtain ⟨fa, fb, hd⟩ := canEq_iff c
  exact hv_rcNeAt a b X.A s v u (ra.hv I fa rx) (rb.hv I fb ry) fa fb (by omega) X.prog X.w X.xe _ ⟨.bl _, H, I, rfl, q⟩
/-- < of tuples of data -/
def rLtE (K : PySem.W.Frag) : R2 := fun x y H Q => ∃ m xs ys, Rep K m H (.tup xs) x ∧ Rep K m H (.tup ys) y ∧ canEq (.tup xs) (.tup ys) = true ∧ PySem.W.alike (Val.tup xs).toD (Val.tup ys).toD = true ∧ Q (.bl (PySem.W.dataLt (Val.tup xs).toD (Val.tup ys).toD)) H
theorem op_ltE (hu : X.A.units + 200 < cLine) : OpR X (compareOp .Lt) (rLtE X.K) := by
  intro pins s σ H x y v u Q I rx ry h
  obtain ⟨m, a, b, ra, rb, c, al, q⟩ := h
  obtain ⟨fa, fb, hd⟩ := canEq_iff c
  obtain ⟨as, r1⟩ := (ra.hv I fa rx).reads
  obtain ⟨bs, r2⟩ := (rb.hv I fb ry).reads
  exact PySem.W.lt_data r1 r2 al (by rw [Val.toD]; exact fun z => nomatch z) (by rw [toD_depth, toD_depth]; omega) ⟨.bl _, H, I, rfl, q⟩
/-- x in a list or a tuple of data -/
def rInE (K : PySem.W.Frag) (neg : Bool) : R2 := fun x y H Q => ∃ m a p ys zs, Rep K m H a x ∧ y = .ref p ∧ (SqL K H p ys ∨ SqT K H p ys) ∧ Reps K m H zs ys ∧ zs.all (canEq a) = true ∧ Q (.bl (if neg then !zs.any fun z => z.eqv a else zs.any fun z => z.eqv a)) H
open Classical in
theorem hvs_any {A : Around} {s : Shared} {a : Val} {v : Value} (hv : Hv s.heap a v) (hu : A.units + 110 < cLine) : ∀ {zs : List Val} {its : List Value}, Hvs s.heap zs its → zs.all (canEq a) = true →
    ∃ e : Value → Bool, (∀ w, w ∈ its → SeqAt.EqAt A s w v (e w)) ∧ its.any e = zs.any fun z => z.eqv a := by
  intro zs its hs hc
  -- the answer at a value is that of the data it holds
  refine ⟨fun w => zs.any fun z => decide (Hv s.heap z w) && z.eqv a, fun w hw => ?_, ?_⟩
  · obtain ⟨j, hj, e⟩ := List.mem_iff_getElem.mp hw
    obtain ⟨z, ez, hz⟩ := hvs_get hj hs
    rw [e] at hz
    have hmem : z ∈ zs := List.mem_of_getElem? ez
    obtain ⟨fa, fz, hd⟩ := canEq_iff (List.all_eq_true.mp hc z hmem)
    have e2 : (zs.any fun z' => decide (Hv s.heap z' w) && z'.eqv a) = z.eqv a := by
      cases q : z.eqv a with
      | true => exact List.any_eq_true.mpr ⟨z, hmem, by simp [hz, q]⟩
      | false =>
        refine List.any_eq_false.mpr fun z' hz' => ?_
        by_cases hh : Hv s.heap z' w
        · have : z' = z := hh.uniq hz
          subst this
          simp [q]
        · simp [hh]
    show SeqAt.EqAt A s w v (zs.any fun z' => decide (Hv s.heap z' w) && z'.eqv a)
    rw [e2]
    exact hv_eqAt _ z a A s w v (Nat.le_refl _) hz hv fz fa (by omega)
  · rw [Bool.eq_iff_iff, List.any_eq_true, List.any_eq_true]
    constructor
    · rintro ⟨w, hw, h1⟩
      obtain ⟨z, hz, h2⟩ := List.any_eq_true.mp h1
      exact ⟨z, hz, by simp at h2; exact h2.2⟩
    · rintro ⟨z, hz, h1⟩
      obtain ⟨j, hj, e⟩ := List.mem_iff_getElem.mp hz
      have hj' : j < its.length := by rw [← hs.length]; exact hj
      obtain ⟨z', ez, hz'⟩ := hvs_get hj' hs
      have : z' = z := by
        have : zs[j]? = some z := by rw [List.getElem?_eq_getElem hj, e]
        rw [this] at ez; cases ez; rfl
      subst this
      refine ⟨its[j], List.getElem_mem _, List.any_eq_true.mpr ⟨z', hz, by simp [hz', h1]⟩⟩
theorem flats_of {a : Val} : ∀ {zs : List Val}, zs.all (canEq a) = true → Val.flats zs = true
  | [], _ => rfl
  | z :: zs, h => by
    have h' : canEq a z = true ∧ zs.all (canEq a) = true := by simpa using h
    rw [Val.flats, (canEq_iff h'.1).2.1, flats_of h'.2]
    rfl
theorem op_inE (hu : X.A.units + 200 < cLine) : OpR X (compareOp .In) (rInE X.K false) := by
  intro pins s σ H x y v u Q I rx ry h
  obtain ⟨m, a, p, ys, zs, ra, rfl, hq, rs, hc, q⟩ := h
  cases ry
  by_cases hz : zs = []
  · subst hz
    cases rs
    rcases hq with hq | hq
    · obtain ⟨its, r, pl, _⟩ := I.list hq
      cases r
      exact SeqAt.in_listAt (fun _ => false) pl.isList (fun w hw => by simp at hw) ⟨.bl _, H, I, rfl, by simpa using q⟩
    · obtain ⟨its, r, pl, _⟩ := I.tuple hq
      cases r
      exact SeqAt.in_tupleAt (fun _ => false) pl (fun w hw => by simp at hw) ⟨.bl _, H, I, rfl, by simpa using q⟩
  have fa : a.flat = true := by
    obtain ⟨z, zr, rfl⟩ := List.exists_cons_of_ne_nil hz
    have h' : canEq a z = true ∧ zr.all (canEq a) = true := by simpa using hc
    exact (canEq_iff h'.1).1
  have hva := ra.hv I fa rx
  rcases hq with hq | hq
  · obtain ⟨its, r, pl, _⟩ := I.list hq
    obtain ⟨e, h1, h2⟩ := hvs_any (A := X.A.in1) hva (by show X.A.units + 1 + 110 < cLine; omega) (rs.hv I (flats_of hc) r) hc
    refine SeqAt.in_listAt e pl.isList (fun w hw => h1 w (by simpa using hw)) ⟨.bl _, H, I, rfl, ?_⟩
    rw [show its.toArray.any e = its.any e by simp, h2]
    exact q
  · obtain ⟨its, r, pl, _⟩ := I.tuple hq
    obtain ⟨e, h1, h2⟩ := hvs_any (A := X.A.in1) hva (by show X.A.units + 1 + 110 < cLine; omega) (rs.hv I (flats_of hc) r) hc
    refine SeqAt.in_tupleAt e pl (fun w hw => h1 w (by simpa using hw)) ⟨.bl _, H, I, rfl, ?_⟩
    rw [show its.toArray.any e = its.any e by simp, h2]
    exact q
theorem op_notInE (hu : X.A.units + 200 < cLine) : OpR X (compareOp .NotIn) (rInE X.K true) := by
  intro pins s σ H x y v u Q I rx ry h
  obtain ⟨m, a, p, ys, zs, ra, rfl, hq, rs, hc, q⟩ := h
  cases ry
  by_cases hz : zs = []
  · subst hz
    cases rs
    rcases hq with hq | hq
    · obtain ⟨its, r, pl, _⟩ := I.list hq
      cases r
      exact SeqAt.notIn_listAt (fun _ => false) pl.isList (fun w hw => by simp at hw) ⟨.bl _, H, I, rfl, by simpa using q⟩
    · obtain ⟨its, r, pl, _⟩ := I.tuple hq
      cases r
      exact SeqAt.notIn_tupleAt (fun _ => false) pl (fun w hw => by simp at hw) ⟨.bl _, H, I, rfl, by simpa using q⟩
  have fa : a.flat = true := by
    obtain ⟨z, zr, rfl⟩ := List.exists_cons_of_ne_nil hz
    have h' : canEq a z = true ∧ zr.all (canEq a) = true := by simpa using hc
    exact (canEq_iff h'.1).1
  have hva := ra.hv I fa rx
  rcases hq with hq | hq
  · obtain ⟨its, r, pl, _⟩ := I.list hq
    obtain ⟨e, h1, h2⟩ := hvs_any (A := X.A.in1) hva (by show X.A.units + 1 + 110 < cLine; omega) (rs.hv I (flats_of hc) r) hc
    refine SeqAt.notIn_listAt e pl.isList (fun w hw => h1 w (by simpa using hw)) ⟨.bl _, H, I, rfl, ?_⟩
    rw [show its.toArray.any e = its.any e by simp, h2]
    exact q
  · obtain ⟨its, r, pl, _⟩ := I.tuple hq
    obtain ⟨e, h1, h2⟩ := hvs_any (A := X.A.in1) hva (by show X.A.units + 1 + 110 < cLine; omega) (rs.hv I (flats_of hc) r) hc
    refine SeqAt.notIn_tupleAt e pl (fun w hw => h1 w (by simpa using hw)) ⟨.bl _, H, I, rfl, ?_⟩
    rw [show its.toArray.any e = its.any e by simp, h2]
    exact q
end
end Ev
/-! EvChk: when a piece of the small language stands for a piece of Python's text. -/
namespace Ev
open PySem PySem.Spec PyProof.Rows L2

def vis (sc : Scope) (x : Str) : Bool := match sc.names.lookup x with
  | some .local => true
  | some .cell => true
  | some .free => true
  | _ => false
def loc (sc : Scope) (x : Str) : Bool := match sc.names.lookup x with
  | some .local => true
  | some .cell => true
  | _ => false
def okName (x : Str) : Bool := decide ((x == ("__debug__" : Str)) = false) && decide ((x == ("__classdict__" : Str)) = false) && decide (x ≠ ("__name__" : Str))
def gl (sc : Scope) (x : Str) : Bool := (match sc.names.lookup x with
  | some .globalImplicit => true
  | _ => false) && okName x
def isLocal (sc : Scope) (x : Str) : Bool := match sc.names.lookup x with
  | some .local => true
  | _ => false
def nst : Expr → Bool
  | .Starred _ _ => false
  | _ => true
def nset : Expr → Bool
  | .Set _ _ _ => false
  | _ => true
def nslice : Expr → Bool
  | .Slice _ _ _ _ => false
  | _ => true
/-- the receiver of a method call: not super() -/
def baseOk : Expr → Bool
  | .Call (.Name _ _) [] [] _ => false
  | _ => true
/-- an expression whose test is its value's truth -/
def plainT : Expr → Bool
  | .Name _ _ => true
  | .Call _ _ _ _ => true
  | .Subscript _ _ _ => true
  | .Attribute _ _ _ => true
  | _ => false
/-- an assigned value that is no comprehension -/
def ncomp : Expr → Bool
  | .ListComp _ _ _ _ => false
  | .SetComp _ _ _ _ => false
  | .DictComp _ _ _ _ _ => false
  | _ => true
def conOk : Con → Const → Bool
  | .non, .none => true
  | .bl b, .bool c => b == c
  | .int b, .int c => b == c
  | .str b, .str c => decide (b = c)
  | _, _ => false
def bopX : Bop → Operator
  | .add => .Add | .sub => .Sub | .mul => .Mult | .fdiv => .FloorDiv | .mod => .Mod | .pow => .Pow
def copX : Cop → CmpOp
  | .eq => .Eq | .ne => .NotEq | .lt => .Lt | .le => .LtE | .gt => .Gt | .ge => .GtE | .isn => .Is | .isnn => .IsNot | .inn => .In | .nin => .NotIn
def bltX : Blt → Str
  | .len => "len" | .abs => "abs" | .int => "int" | .str => "str" | .tuple => "tuple" | .list => "list" | .sum => "sum" | .any => "any" | .all => "all" | .dict => "dict"
def mthX : Mth → Str
  | .append => "append" | .extend => "extend" | .insert => "insert" | .pop => "pop" | .reverse => "reverse" | .get => "get" | .join => "join"
def tyX : Ty → Str
  | .int => "int" | .bool => "bool" | .str => "str" | .tuple => "tuple" | .list => "list"
/-- the built-in names that the small language may use -/
def bltNames : List Str := ["len", "abs", "int", "str", "tuple", "list", "sum", "any", "all", "dict", "bool", "isinstance", "range", "reversed", "sorted"]

def posEnd (p q : Pos) : Bool := p.endLine == q.line

def ownL (N : List Str) (own : List Nat) : List (Str × Nat) := own.map fun i => (N.getD i "", i)

def chkTg (N : List Str) (sc : Scope) : Tg → Expr → Bool
  | .nm i, .Name x _ => decide (N[i]? = some x) && loc sc x
  | .tp is, .Tuple es _ _ => chkTgs N sc is es
  | _, _ => false
where chkTgs (N : List Str) (sc : Scope) : List Nat → List Expr → Bool
  | [], [] => true
  | i :: is, .Name x _ :: es => decide (N[i]? = some x) && loc sc x && chkTgs N sc is es
  | _, _ => false
def tgIx : Tg → List Nat
  | .nm i => [i]
  | .tp is => is

mutual
def chkE (N : List Str) : E → Scope → Expr → Bool
  | .var i, sc, e => match e with
    | .Name x _ => decide (N[i]? = some x) && vis sc x && okName x
    | _ => false
  | .con c, _, e => match e with
    | .Constant k _ _ => conOk c k
    | _ => false
  | .glb x, sc, e => match e with
    | .Name y _ => decide (x = y) && gl sc y
    | _ => false
  | .tup es, sc, e => match e with
    | .Tuple xs _ _ => chkEs N es sc xs
    | _ => false
  | .lst es, sc, e => match e with
    | .List xs _ => chkEs N es sc xs
    | _ => false
  | .dct0, _, e => match e with
    | .Dict [] [] _ => true
    | _ => false
  | .bin o a b, sc, e => match e with
    | .BinOp l p r _ => decide (bopX o = p) && chkE N a sc l && chkE N b sc r
    | _ => false
  | .neg a, sc, e => match e with
    | .UnaryOp .USub x _ => chkE N a sc x
    | _ => false
  | .cmp o a b, sc, e => match e with
    | .Compare l [p] [r] _ => decide (copX o = p) && nset r && chkE N a sc l && chkE N b sc r
    | _ => false
  | .chn o1 o2 a b c, sc, e => match e with
    | .Compare l [p, q] [r, t] _ => decide (copX o1 = p) && decide (copX o2 = q) && nset t && chkE N a sc l && chkE N b sc r && chkE N c sc t
    | _ => false
  | .andv a b, sc, e => match e with
    | .BoolOp .And (x :: y :: r) pos => chkE N a sc x && chkE N b sc (.BoolOp .And (y :: r) pos)
    | _ => false
  | .orv a b, sc, e => match e with
    | .BoolOp .Or (x :: y :: r) pos => chkE N a sc x && chkE N b sc (.BoolOp .Or (y :: r) pos)
    | _ => false
  | .one a, sc, e => match e with
    | .BoolOp _ [x] _ => chkE N a sc x
    | _ => false
  | .notv a, sc, e => match e with
    | .UnaryOp .Not x _ => chkE N a sc x
    | _ => false
  | .ife c a b, sc, e => match e with
    | .IfExp t x y _ => chkT N c sc t && chkE N a sc x && chkE N b sc y
    | _ => false
  | .ix a b, sc, e => match e with
    | .Subscript x y _ => nslice y && chkE N a sc x && chkE N b sc y
    | _ => false
  | .sl a lo hi, sc, e => match e with
    | .Subscript x (.Slice l u none _) _ => chkE N a sc x && chkO N lo sc l && chkO N hi sc u
    | _ => false
  | .call f es, sc, e => match e with
    | .Call (.Name g _) xs [] _ => decide (f = g) && gl sc g && chkEs N es sc xs
    | _ => false
  | .blt b a, sc, e => match e with
    | .Call (.Name g _) [x] [] _ => decide (bltX b = g) && gl sc g && nst x && chkE N a sc x
    | _ => false
  | .mth m o es, sc, e => match e with
    | .Call (.Attribute ob nm ap) xs [] p => decide (mthX m = nm) && baseOk ob && posEnd ap p && chkE N o sc ob && chkEs N es sc xs && decide (xs.length ≤ 2)
    | _ => false
  | .isi a t, sc, e => match e with
    | .Call (.Name g _) [x, .Name ty _] [] _ => decide (g = "isinstance") && decide (tyX t = ty) && gl sc g && gl sc ty && nst x && chkE N a sc x
    | _ => false
  | .lc elt tg it c own, sc, e => match e with
    | .ListComp el [⟨t, i, ifs, 0⟩] scope _ => blkC N sc scope (ownL N own) && ((tgIx tg).all fun i => own.contains i) && chkTg N scope tg t && chkI N it sc i && (match ifs with
        | [] => (match c with | .tt => true | _ => false)
        | [x] => chkT N c scope x
        | _ => false) && chkE N elt scope el
    | _ => false
  | .dc k v tg it c own, sc, e => match e with
    | .DictComp ke ve [⟨t, i, ifs, 0⟩] scope _ => blkC N sc scope (ownL N own) && ((tgIx tg).all fun i => own.contains i) && chkTg N scope tg t && chkI N it sc i && (match ifs with
        | [] => (match c with | .tt => true | _ => false)
        | [x] => chkT N c scope x
        | _ => false) && chkE N k scope ke && chkE N v scope ve
    | _ => false
  | .tuprev a, sc, e => match e with
    | .Call (.Name g _) [.Call (.Name g2 _) [x] [] _] [] _ => decide (g = "tuple") && decide (g2 = "reversed") && gl sc g && gl sc g2 && nst x && chkE N a sc x
    | _ => false
  | .srt a f, sc, e => match e with
    | .Call (.Name g _) [x] [⟨some kw, .Name h _, _⟩] _ => decide (g = "sorted") && decide (kw = "key") && decide (f = h) && gl sc g && gl sc h && nst x && chkE N a sc x
    | _ => false
  | .setd d k v, sc, e => match e with
    | .Call (.Attribute ob nm ap) [x, y] [] p => decide (nm = "setdefault") && baseOk ob && posEnd ap p && nst x && nst y && chkE N d sc ob && chkE N k sc x && chkE N v sc y
    | _ => false
  | .lock _ a, sc, e => chkE N a sc e
def chkEs (N : List Str) : Es → Scope → List Expr → Bool
  | .nil, _, xs => match xs with
    | [] => true
    | _ => false
  | .cons e es, sc, xs => match xs with
    | x :: r => nst x && chkE N e sc x && chkEs N es sc r
    | [] => false
def chkO (N : List Str) : O → Scope → Option Expr → Bool
  | .no, _, x => match x with
    | none => true
    | _ => false
  | .yes e, sc, x => match x with
    | some x => chkE N e sc x
    | none => false
def chkT (N : List Str) : T → Scope → Expr → Bool
  | .tt, _, _ => false
  | .val c, sc, e => plainT e && chkE N c sc e
  | .cmp o a b, sc, e => match e with
    | .Compare l [p] [r] _ => decide (copX o = p) && nset r && chkE N a sc l && chkE N b sc r
    | _ => false
  | .chn o1 o2 a b c, sc, e => match e with
    | .Compare l [p, q] [r, t] _ => decide (copX o1 = p) && decide (copX o2 = q) && nset t && chkE N a sc l && chkE N b sc r && chkE N c sc t
    | _ => false
  | .and a b, sc, e => match e with
    | .BoolOp .And (x :: y :: r) pos => chkT N a sc x && chkT N b sc (.BoolOp .And (y :: r) pos)
    | _ => false
  | .or a b, sc, e => match e with
    | .BoolOp .Or (x :: y :: r) pos => chkT N a sc x && chkT N b sc (.BoolOp .Or (y :: r) pos)
    | _ => false
  | .one a, sc, e => match e with
    | .BoolOp _ [x] _ => chkT N a sc x
    | _ => false
  | .not a, sc, e => match e with
    | .UnaryOp .Not x _ => chkT N a sc x
    | _ => false
def chkI (N : List Str) : I → Scope → Expr → Bool
  | .seq a, sc, e => nset e && chkE N a sc e
  | .rng1 a, sc, e => match e with
    | .Call (.Name g _) [x] [] _ => decide (g = "range") && gl sc g && nst x && chkE N a sc x
    | _ => false
  | .rng2 a b, sc, e => match e with
    | .Call (.Name g _) [x, y] [] _ => decide (g = "range") && gl sc g && nst x && nst y && chkE N a sc x && chkE N b sc y
    | _ => false
  | .dky a, sc, e => nset e && chkE N a sc e
end

/-- a comprehension that is stored by the model's other statement -/
def swOk (x : Str) (px : Pos) : Expr → Bool
  | .ListComp _ _ scope pos => (px.line == pos.line) && !(scope.names.any fun (n, k) => n == x && (k == .local || k == .cell))
  | .DictComp _ _ _ scope pos => (px.line == pos.line) && !(scope.names.any fun (n, k) => n == x && (k == .local || k == .cell))
  | _ => false
def nlock : E → Bool
  | .lock _ _ => false
  | _ => true
mutual
def chkS (N : List Str) : S → Scope → Stmt → Bool
  | .set i e, sc, s => match s with
    | .Assign [.Name x px] v p => decide (N[i]? = some x) && loc sc x && chkE N e sc v && (ncomp v || !isLocal sc x || (nlock e && swOk x px v))
    | _ => false
  | .setSub o i v, sc, s => match s with
    | .Assign [.Subscript eo ei _] ev _ => nslice ei && chkE N v sc ev && chkE N o sc eo && chkE N i sc ei
    | _ => false
  | .par is e, sc, s => match s with
    | .Assign [.Tuple es k p2] v _ => (match v with | .Call _ _ _ _ => true | _ => false) && chkTg N sc (.tp is) (.Tuple es k p2) && chkE N e sc v
    | _ => false
  | .aug i o e, sc, s => match s with
    | .AugAssign (.Name x _) p v _ => decide (N[i]? = some x) && loc sc x && decide (bopX o = p) && decide (o = .add ∨ o = .sub) && chkE N e sc v
    | _ => false
  | .expr e, sc, s => match s with
    | .Expr v _ => ncomp v && chkE N e sc v
    | _ => false
  | .ret e, sc, s => match s with
    | .Return (some v) _ => chkE N e sc v
    | _ => false
  | .retN, _, s => match s with
    | .Return none _ => true
    | _ => false
  | .ifs c a b, sc, s => match s with
    | .If t x y _ => chkT N c sc t && chkSs N a sc x && chkSs N b sc y
    | _ => false
  | .fors tg it body, sc, s => match s with
    | .For t i b [] _ => chkTg N sc tg t && chkI N it sc i && chkSs N body sc b
    | _ => false
  | .whil c body, sc, s => match s with
    | .While t b [] _ => chkT N c sc t && chkSs N body sc b
    | _ => false
  | .pass, _, s => match s with
    | .Pass _ => true
    | _ => false
  | .brk, _, s => match s with
    | .Break _ => true
    | _ => false
  | .cnt, _, s => match s with
    | .Continue _ => true
    | _ => false
  | .lock _ a, sc, s => chkS N a sc s
def chkSs (N : List Str) : Ss → Scope → List Stmt → Bool
  | .nil, _, xs => match xs with
    | [] => true
    | _ => false
  | .cons e es, sc, xs => match xs with
    | x :: r => chkS N e sc x && chkSs N es sc r
    | [] => false
end
end Ev
/-! EvRules: each operation on values, by one rule of the hand layer. -/
namespace Ev
open PySem PySem.Spec PyProof.Rows L2

theorem size_eq : sizeMax = sizeLine := by rw [sizeLine_eq]; rfl
section
variable {K : PySem.W.Frag} {m : List Addr} {h h' : Hpe} {H : Hp}

/-! ### what an evaluation gives: the wish at every heap that it may leave -/
def Post (K : PySem.W.Frag) (m : List Addr) (H : Hp) (h' : Hpe) (v : Val) (Q : VK) : Prop := ∀ m' H' x, Grow m m' H H' → StR K m' h' H' → Rep K m' H' v x → Q x H'
theorem Post.here {v : Val} {x : V} {Q : VK} (p : Post K m H h v Q) (S : StR K m h H) (r : Rep K m H v x) : Q x H := p m H x (.refl _ _) S r
theorem Post.up {m1 : List Addr} {H1 : Hp} {v : Val} {Q : VK} (g : Grow m m1 H H1) (p : Post K m H h' v Q) : Post K m1 H1 h' v Q := fun m' H' x g' S r => p m' H' x (g.trans g') S r
/-- a new object of ours -/
theorem Post.new {o : Ob} {u : HO} {p : Addr} {Q : VK} (q : Post K m H (h ++ [o]) (.ref h.length) Q) (S : StR K m h H) (hp : H p = none) (hr : ObR K (m ++ [p]) (upd H p u) p o) : Q (.ref p) (upd H p u) :=
  q _ _ _ (S.growA hp u) (S.alloc hp hr) (.ref (by rw [← S.len, List.getElem?_append_right (Nat.le_refl _)]; simp))
theorem Post.newLst {xs : List Val} {ys : List V} {p : Addr} {Q : VK} (q : Post K m H (h ++ [.lst xs]) (.ref h.length) Q) (S : StR K m h H) (r : Reps K m H xs ys) (hp : H p = none) : Q (.ref p) (upd H p (.lst ys)) :=
  q.new S hp ⟨ys, upd_same, r.mono (S.growA hp _)⟩
theorem Post.newDic {xs : List (Val × Val)} {ys : List (Key × V)} {p : Addr} {Q : VK} (q : Post K m H (h ++ [.dic xs]) (.ref h.length) Q) (S : StR K m h H) (r : KRep K m H xs ys) (hp : H p = none) : Q (.ref p) (upd H p (.dK ys)) :=
  q.new S hp ⟨ys, upd_same, r.mono (S.growA hp _)⟩
theorem Post.newTup {xs : List Val} {ys : List V} {p : Addr} {Q : VK} (q : Post K m H h (.tup xs) Q) (S : StR K m h H) (r : Reps K m H xs ys) (hp : H p = none) : Q (.ref p) (upd H p (.tup ys)) := by
  obtain ⟨S', g⟩ := S.tup hp ys
  exact q _ _ _ g S' (.tup (.of upd_same) (r.mono g))
end

/-! ### + - * // % ** -/
def bopR (K : PySem.W.Frag) : Bop → R2
  | .add => fun x y H Q => rI0 (fun i j => .int (i + j)) x y H Q ∨ (fun x y H Q => ∃ i j, x = .str i ∧ y = .str j ∧ i.length + j.length ≤ sizeLine ∧ Q (.str (i ++ j)) H) x y H Q ∨ rCatA K x y H Q ∨ rCat x y H Q
  | .sub => rI0 fun i j => .int (i - j)
  | .mul => rI CMul fun i j => .int (i * j)
  | .fdiv => rI CDiv fun i j => .int (i / j)
  | .mod => rI (fun _ j => 0 < j) fun i j => .int (i % j)
  | .pow => rI CPow fun i j => .int (i ^ j.toNat)
theorem bopR_ok {X : Cx} : ∀ o : Bop, OpR X (binaryOp (bopX o)) (bopR X.K o)
  | .add => OpR.or op_add (OpR.or op_add_str (OpR.or op_catA op_cat))
  | .sub => op_sub
  | .mul => op_mul
  | .fdiv => op_fdiv
  | .mod => op_mod
  | .pow => op_pow
section
variable {K : PySem.W.Frag} {m : List Addr} {h h' : Hpe} {H : Hp} {a b v : Val} {x y : V} {Q : VK}
theorem Rep.nil_iff {xs : List Val} {ys : List V} (r : Reps K m H xs ys) : ys = [] ↔ xs = [] := by
  cases r <;> simp
theorem bop_of {o : Bop} (e : binop o a b h = .ok v h') (S : StR K m h H) (ra : Rep K m H a x) (rb : Rep K m H b y) (q : Post K m H h' v Q) : bopR K o x y H Q := by
  cases o with
  | add =>
    cases ra with
    | int i => cases rb with
      | int j => cases e; exact .inl ⟨i, j, rfl, rfl, q.here S (.int _)⟩
      | _ => cases e
    | str i => cases rb with
      | str j =>
        simp only [binop] at e
        split at e
        · rename_i hz
          cases e
          exact .inr (.inl ⟨i, j, rfl, rfl, by rw [← size_eq]; exact hz, q.here S (.str _)⟩)
        · cases e
      | _ => cases e
    | @tup a1 xs ys h1 r1 => cases rb with
      | @tup a2 us ws h2 r2 =>
        simp only [binop] at e
        split at e
        · rename_i hz
          cases e
          refine .inr (.inr (.inl ⟨a1, a2, ys, ws, rfl, rfl, h1, h2, by rw [← size_eq, ← r1.length, ← r2.length]; exact hz, fun e => ?_, fun _ e => ?_, fun _ _ p hp => ?_⟩))
          · rw [(Rep.nil_iff r1).mp e, List.nil_append] at q
            exact q.here S (.tup h2 r2)
          · rw [(Rep.nil_iff r2).mp e, List.append_nil] at q
            exact q.here S (.tup h1 r1)
          · exact q.newTup S (r1.append r2) hp
        · cases e
      | _ => cases e
    | @ref n1 a1 e1 => cases rb with
      | @ref n2 a2 e2 =>
        simp only [binop] at e
        split at e
        · rename_i xs ys k1 k2
          split at e
          · rename_i hz
            cases e
            obtain ⟨zs, g1, r1⟩ := S.lst k1 e1
            obtain ⟨ws, g2, r2⟩ := S.lst k2 e2
            exact .inr (.inr (.inr ⟨a1, a2, zs, ws, rfl, rfl, g1, g2, by rw [← size_eq, ← r1.length, ← r2.length]; exact hz, fun p hp => q.newLst S (r1.append r2) hp⟩))
          · cases e
        · cases e
      | _ => cases e
    | _ => cases e
  | sub =>
    cases ra with
    | int i => cases rb with
      | int j => cases e; exact ⟨i, j, rfl, rfl, q.here S (.int _)⟩
      | _ => cases e
    | _ => cases e
  | mul =>
    cases ra with
    | int i => cases rb with
      | int j =>
        simp only [binop] at e
        split at e
        · rename_i hz
          cases e
          exact ⟨i, j, rfl, rfl, hz, q.here S (.int _)⟩
        · cases e
      | _ => cases e
    | _ => cases e
  | fdiv =>
    cases ra with
    | int i => cases rb with
      | int j =>
        simp only [binop] at e
        split at e
        · rename_i hz
          cases e
          exact ⟨i, j, rfl, rfl, hz, q.here S (.int _)⟩
        · cases e
      | _ => cases e
    | _ => cases e
  | mod =>
    cases ra with
    | int i => cases rb with
      | int j =>
        simp only [binop] at e
        split at e
        · rename_i hz
          cases e
          exact ⟨i, j, rfl, rfl, hz, q.here S (.int _)⟩
        · cases e
      | _ => cases e
    | _ => cases e
  | pow =>
    cases ra with
    | int i => cases rb with
      | int j =>
        simp only [binop] at e
        split at e
        · rename_i hz
          cases e
          exact ⟨i, j, rfl, rfl, ⟨hz.1, by omega, hz.2.2⟩, q.here S (.int _)⟩
        · cases e
      | _ => cases e
    | _ => cases e
end

/-! ### comparisons -/
def rDIn (neg : Bool) : R2 := fun y x H Q => ∃ a o, x = .ref a ∧ DGet H a y o ∧ Q (.bl (if neg then !o.isSome else o.isSome)) H
theorem op_dIn {X : Cx} (hu : X.A.units + 1 < cLine) : OpR X (compareOp .In) (rDIn false) := by
  intro pins s σ H x y v u Q I rx ry q
  obtain ⟨a, o, e, g, q⟩ := q
  subst e
  cases ry
  exact d_in hu I g rx fun s' I' => ⟨.bl _, H, I', rfl, q⟩
theorem op_dNotIn {X : Cx} (hu : X.A.units + 1 < cLine) : OpR X (compareOp .NotIn) (rDIn true) := by
  intro pins s σ H x y v u Q I rx ry q
  obtain ⟨a, o, e, g, q⟩ := q
  subst e
  cases ry
  exact d_notIn hu I g rx fun s' I' => ⟨.bl _, H, I', rfl, q⟩
def copR (K : PySem.W.Frag) : Cop → R2
  | .eq => rEqE K
  | .ne => rNeE K
  | .lt => fun x y H Q => rI0 (fun i j => .bl (decide (i < j))) x y H Q ∨ (fun x y H Q => ∃ i j, x = .str i ∧ y = .str j ∧ Q (.bl (decide (i.cps.toList < j.cps.toList))) H) x y H Q ∨ rLtE K x y H Q
  | .le => fun x y H Q => rI0 (fun i j => .bl (decide (i ≤ j))) x y H Q ∨ (fun x y H Q => ∃ i j, x = .str i ∧ y = .str j ∧ Q (.bl (!decide (j.cps.toList < i.cps.toList))) H) x y H Q
  | .gt => rI0 fun i j => .bl (decide (j < i))
  | .ge => rI0 fun i j => .bl (decide (j ≤ i))
  | .isn => fun x y H Q => y = .non ∧ Q (.bl (decide (x = .non))) H
  | .isnn => fun x y H Q => y = .non ∧ Q (.bl (!decide (x = .non))) H
  | .inn => fun x y H Q => rInE K false x y H Q ∨ rDIn false x y H Q
  | .nin => fun x y H Q => rInE K true x y H Q ∨ rDIn true x y H Q
theorem copR_ok {X : Cx} (hu : X.A.units + 200 < cLine) : ∀ o : Cop, OpR X (compareOp (copX o)) (copR X.K o)
  | .eq => op_eqE hu
  | .ne => op_neE hu
  | .lt => OpR.or op_lt (OpR.or op_lt_str (op_ltE hu))
  | .le => OpR.or op_le op_le_str
  | .gt => op_gt
  | .ge => op_ge
  | .isn => op_isN
  | .isnn => op_notN
  | .inn => OpR.or (op_inE hu) (op_dIn (by omega))
  | .nin => OpR.or (op_notInE hu) (op_dNotIn (by omega))
section
variable {K : PySem.W.Frag} {m : List Addr} {h h' : Hpe} {H : Hp} {a b : Val} {x y : V} {Q : VK} {r : Bool}
theorem inside_of {neg : Bool} (e : inside a b h = .ok r h') (S : StR K m h H) (ra : Rep K m H a x) (rb : Rep K m H b y) (q : Q (.bl (if neg then !r else r)) H) : (rInE K neg x y H Q ∨ rDIn neg x y H Q) ∧ h' = h := by
  unfold inside at e
  cases rb with
  | @tup p zs ys h1 r1 =>
    simp only at e
    split at e
    · rename_i hc
      cases e
      exact ⟨.inl ⟨m, a, p, ys, zs, ra, rfl, .inr h1, r1, hc, by cases neg <;> exact q⟩, rfl⟩
    · cases e
  | @ref n p e1 =>
    simp only at e
    split at e
    · rename_i ys k1
      split at e
      · rename_i hc
        cases e
        obtain ⟨ws, g1, r1⟩ := S.lst k1 e1
        exact ⟨.inl ⟨m, a, p, ws, ys, ra, rfl, .inl (.of g1), r1, hc, by cases neg <;> exact q⟩, rfl⟩
      · cases e
    · split at e
      · rename_i kvs k1
        split at e
        · rename_i z
          cases e
          obtain ⟨ws, g1, r1⟩ := S.dict k1 e1
          cases ra
          obtain ⟨l1, l2⟩ := r1.look (KeyR.str z)
          have hs : (lookD kvs (.str z)).isSome = (valV ws (.inr z)).isSome := by
            cases hl : lookD kvs (.str z) with
            | none => rw [l2 hl]; rfl
            | some w => obtain ⟨w', h1, _⟩ := l1 w hl; rw [h1]; rfl
          refine ⟨.inr ⟨p, valV ws (.inr z), rfl, .inl ⟨ws, .inr z, g1, rfl, rfl⟩, ?_⟩, rfl⟩
          rw [← hs]
          exact q
        · cases e
      · cases e
  | _ => cases e
theorem cop_of {o : Cop} (e : cmpop o a b h = .ok r h') (S : StR K m h H) (ra : Rep K m H a x) (rb : Rep K m H b y) (q : Q (.bl r) H) : copR K o x y H Q ∧ h' = h := by
  cases o with
  | eq =>
    simp only [cmpop] at e
    split at e
    · rename_i hc
      cases e
      exact ⟨⟨m, a, b, ra, rb, hc, q⟩, rfl⟩
    · cases e
  | ne =>
    simp only [cmpop] at e
    split at e
    · rename_i hc
      cases e
      exact ⟨⟨m, a, b, ra, rb, hc, q⟩, rfl⟩
    · cases e
  | lt =>
    simp only [cmpop] at e
    split at e
    · cases ra; cases rb; cases e; exact ⟨.inl ⟨_, _, rfl, rfl, q⟩, rfl⟩
    · cases ra; cases rb; cases e; exact ⟨.inr (.inl ⟨_, _, rfl, rfl, q⟩), rfl⟩
    · split at e
      · rename_i hc
        rw [Bool.and_eq_true] at hc
        cases e
        exact ⟨.inr (.inr ⟨m, _, _, ra, rb, hc.1, hc.2, q⟩), rfl⟩
      · cases e
    · cases e
  | le =>
    simp only [cmpop] at e
    split at e
    · cases ra; cases rb; cases e; exact ⟨.inl ⟨_, _, rfl, rfl, q⟩, rfl⟩
    · cases ra; cases rb; cases e; exact ⟨.inr ⟨_, _, rfl, rfl, q⟩, rfl⟩
    · cases e
  | gt =>
    simp only [cmpop] at e
    split at e
    · cases ra; cases rb; cases e; exact ⟨⟨_, _, rfl, rfl, q⟩, rfl⟩
    · cases e
  | ge =>
    simp only [cmpop] at e
    split at e
    · cases ra; cases rb; cases e; exact ⟨⟨_, _, rfl, rfl, q⟩, rfl⟩
    · cases e
  | isn =>
    simp only [cmpop] at e
    split at e
    · rename_i hb
      subst hb
      cases rb
      cases e
      refine ⟨⟨rfl, ?_⟩, rfl⟩
      have : decide (x = V.non) = decide (a = Val.non) := by cases ra <;> simp
      rw [this]; exact q
    · cases e
  | isnn =>
    simp only [cmpop] at e
    split at e
    · rename_i hb
      subst hb
      cases rb
      cases e
      refine ⟨⟨rfl, ?_⟩, rfl⟩
      have : decide (x = V.non) = decide (a = Val.non) := by cases ra <;> simp
      rw [this]; exact q
    · cases e
  | inn =>
    simp only [cmpop] at e
    exact inside_of (neg := false) e S ra rb q
  | nin =>
    simp only [cmpop] at e
    obtain ⟨r1, h1, e1, e2⟩ := Res.bind_eq e
    cases e2
    exact inside_of (neg := true) e1 S ra rb q
end

/-! ### truth -/
theorem tru_of {K : PySem.W.Frag} {m : List Addr} {h h' : Hpe} {H : Hp} {a : Val} {x : V} {r : Bool} (e : truth a h = .ok r h') (S : StR K m h H) (ra : Rep K m H a x) : TruV K x H r ∧ h' = h := by
  unfold truth at e
  cases ra with
  | non => cases e; exact ⟨rfl, rfl⟩
  | bl b => cases e; exact ⟨rfl, rfl⟩
  | int i => cases e; exact ⟨rfl, rfl⟩
  | str z =>
    simp only at e
    split at e
    · rename_i hz
      cases e
      refine ⟨⟨by rw [← size_eq]; exact hz, ?_⟩, rfl⟩
      rw [Bool.eq_iff_iff]
      simp
    · cases e
  | @tup p zs ys h1 r1 =>
    cases e
    refine ⟨.inr (.inl ⟨ys, h1, ?_⟩), rfl⟩
    cases r1 <;> rfl
  | @ref n p e1 =>
    simp only at e
    split at e
    · rename_i xs k1
      cases e
      obtain ⟨ys, g1, r1⟩ := S.lst k1 e1
      exact ⟨.inl ⟨ys, .of g1, by cases r1 <;> rfl⟩, rfl⟩
    · rename_i xs k1
      cases e
      obtain ⟨ys, g1, r1⟩ := S.list (xs := xs) (by unfold lstAt; rw [k1]) e1
      exact ⟨.inl ⟨ys, g1, by cases r1 <;> rfl⟩, rfl⟩
    · cases e

/-! ### a[i] -/
def rIxDk : R2 := fun x y H Q => ∃ a v, x = .ref a ∧ DGet H a y (some v) ∧ Q v H
theorem ix_dk {X : Cx} (hu : X.A.units + 1 < cLine) : IxR X rIxDk := by
  intro value slice pins s σ H x y v u Q I rx ry q hs
  obtain ⟨a, w, e, g, q⟩ := q
  subst e
  cases rx
  exact tail_any (dict_typeIs I g) PySem.F.slot_dict_getitem.lookup (d_getItem hu I g ry fun w' s' I' rw' => ⟨w, H, I', rw', q⟩) hs
def ixR (K : PySem.W.Frag) : R2 := fun x y H Q => rIx K x y H Q ∨ rIxDk x y H Q
theorem ixR_ok {X : Cx} (hu : X.A.units + 1 < cLine) : IxR X (ixR X.K) := IxR.or ix_seq (ix_dk hu)
theorem place_ix (n : Nat) (i : Int) : place n i = ixN n i := rfl
section
variable {K : PySem.W.Frag} {m : List Addr} {h h' : Hpe} {H : Hp} {a b v : Val} {x y : V} {Q : VK}
theorem atI_of {xs : List Val} {ys : List V} {i : Int} {w : Val} (r : Reps K m H xs ys) (e : (place xs.length i).bind (xs[·]?) = some w) : ∃ z, atI ys i = some z ∧ Rep K m H w z := by
  obtain ⟨j, h1, h2⟩ := Option.bind_eq_some_iff.mp e
  obtain ⟨z, h3, h4⟩ := r.get h2
  refine ⟨z, ?_, h4⟩
  unfold atI
  rw [← r.length, ← place_ix, h1]
  exact h3
theorem ix_of (e : index a b h = .ok v h') (S : StR K m h H) (ra : Rep K m H a x) (rb : Rep K m H b y) (q : Post K m H h' v Q) : ixR K x y H Q := by
  unfold index at e
  cases rb with
  | int i =>
    cases ra with
    | str z =>
      simp only at e
      split at e
      · rename_i hz
        split at e
        · rename_i c hc
          cases e
          refine .inl (.inr (.inr ⟨z, i, c, rfl, rfl, by rw [← size_eq]; exact hz, ?_, q.here S (.str _)⟩))
          unfold atI
          rw [← place_ix]
          exact hc
        · cases e
      · cases e
    | @tup p zs ys h1 r1 =>
      simp only [seqOf] at e
      split at e
      · rename_i w hw
        cases e
        obtain ⟨z, h3, h4⟩ := atI_of r1 hw
        exact .inl (.inr (.inl ⟨p, ys, i, z, rfl, rfl, h1, h3, q.here S h4⟩))
      · cases e
    | @ref n p e1 =>
      simp only [seqOf] at e
      split at e
      · rename_i xs k1
        split at e
        · rename_i w hw
          cases e
          obtain ⟨ys, g1, r1⟩ := S.list k1 e1
          obtain ⟨z, h3, h4⟩ := atI_of r1 hw
          exact .inl (.inl ⟨p, ys, i, z, rfl, rfl, g1, h3, q.here S h4⟩)
        · cases e
      · cases e
    | _ => simp only [seqOf] at e; cases e
  | str z =>
    cases ra with
    | @ref n p e1 =>
      simp only at e
      split at e
      · rename_i w hw
        cases e
        obtain ⟨kvs, h1, h2⟩ := Option.bind_eq_some_iff.mp hw
        obtain ⟨ws, g1, r1⟩ := S.dict h1 e1
        obtain ⟨l1, l2⟩ := r1.look (KeyR.str z)
        obtain ⟨w', h3, h4⟩ := l1 _ h2
        exact .inr ⟨p, w', rfl, .inl ⟨ws, .inr z, g1, rfl, h3.symm⟩, q.here S h4⟩
      · cases e
    | _ => cases e
  | _ => cases e

/-! ### a[i:j] -/
theorem bound_sIx (n d : Nat) (o : Option Int) : bound n d o = HT.sIx n d o := by
  cases o <;> rfl
theorem Reps.cut {xs : List Val} {ys : List V} (r : Reps K m H xs ys) (lo hi : Option Int) : Reps K m H (cut xs lo hi) (cutV ys lo hi) := by
  unfold Ev.cut cutV
  rw [bound_sIx, bound_sIx, r.length]
  exact (r.drop _).take _
def slR (K : PySem.W.Frag) : V → Option Int → Option Int → Hp → VK → Prop := fun x lo hi H Q => rSlS x lo hi H Q ∨ rSlA K x lo hi H Q ∨ rSlL K x lo hi H Q
theorem slR_ok {X : Cx} : SlR X (slR X.K) := SlR.or sl_str (SlR.or sl_tupA sl_list)
theorem cut_whole {xs : List Val} {lo hi : Option Int} {n : Nat} (hn : xs.length = n) (h1 : HT.sIx n 0 lo = 0 ∧ HT.sIx n n hi = n) : cut xs lo hi = xs := by
  subst hn
  unfold Ev.cut
  rw [bound_sIx, bound_sIx, h1.1, h1.2, List.drop_zero, Nat.sub_zero, List.take_length]
theorem cutS_eq (z : Str) (lo hi : Option Int) : (⟨(cut z.cps.toList lo hi).toArray⟩ : Str) = cutS z lo hi := by
  unfold cutS Ev.cut
  simp only [bound_sIx]
  rfl
theorem sl_of {lo hi : Option Int} (e : slice a lo hi h = .ok v h') (S : StR K m h H) (ra : Rep K m H a x) (q : Post K m H h' v Q) : slR K x lo hi H Q := by
  unfold slice at e
  cases ra with
  | str z =>
    simp only at e
    split at e
    · rename_i hz
      cases e
      refine .inl ⟨z, rfl, by rw [← size_eq]; exact hz, ?_⟩
      rw [← cutS_eq]
      exact q.here S (.str _)
    · cases e
  | @tup p zs ys h1 r1 =>
    cases e
    refine .inr (.inl ⟨p, ys, rfl, h1, fun hw => ?_, fun _ q' hq => ?_⟩)
    · rw [cut_whole r1.length hw] at q
      exact q.here S (.tup h1 r1)
    · exact q.newTup S (r1.cut lo hi) hq
  | @ref n p e1 =>
    simp only at e
    split at e
    · rename_i xs k1
      cases e
      obtain ⟨ys, g1, r1⟩ := S.list k1 e1
      exact .inr (.inr ⟨p, ys, rfl, g1, fun q' hq => q.newLst S (r1.cut lo hi) hq⟩)
    · cases e
  | _ => cases e
end

/-! ### built-in functions of one value -/
def bltV : Blt → Value
  | .len => .builtin "len" | .abs => .builtin "abs" | .int => .type "int" | .str => .type "str" | .tuple => .type "tuple" | .list => .type "list"
  | .sum => .builtin "sum" | .any => .builtin "any" | .all => .builtin "all" | .dict => .type "dict"
def bltR (K : PySem.W.Frag) : Blt → List V → Hp → VK → Prop
  | .len => fun xs H Q => (∃ p ys, xs = [.ref p] ∧ (SqL K H p ys ∨ SqT K H p ys) ∧ Q (.int ys.length) H) ∨ ∃ z, xs = [.str z] ∧ z.length ≤ sizeLine ∧ Q (.int z.length) H
  | .abs => fun xs H Q => ∃ i, xs = [.int i] ∧ Q (.int (if i < 0 then -i else i)) H
  | .int => fun xs H Q => (∃ i, xs = [.int i] ∧ Q (.int i) H) ∨ ∃ k, xs = [.bl k] ∧ Q (.int (if k then 1 else 0)) H
  | .str => fun xs H Q => ∃ i, xs = [.int i] ∧ i.natAbs.log2 < 1920 ∧ Q (.str (toString i)) H
  | .tuple => fun xs H Q => ∃ p ys, xs = [.ref p] ∧ ((SqL K H p ys ∧ ∀ l, H l = none → Q (.ref l) (upd H l (.tup ys))) ∨ (SqT K H p ys ∧ Q (.ref p) H))
  | .list => fun xs H Q => ∃ p ys, xs = [.ref p] ∧ (SqL K H p ys ∨ SqT K H p ys) ∧ ∀ l, H l = none → Q (.ref l) (upd H l (.lst ys))
  | .sum => rSum K
  | .any => rAny K
  | .all => rAll K
  | .dict => fun xs H Q => ∃ (a : Addr) (kvs : List (Key × V)), xs = [.ref a] ∧ Rd H a (.dK kvs) ∧ ∀ p, H p = none → Q (.ref p) (upd H p (.dK kvs))
theorem bltR_ok {X : Cx} (hc : X.calm = true) : ∀ b : Blt, CallR X (bltV b) (bltR X.K b)
  | .len => CallR.or call_len_seq call_len_str
  | .abs => call_abs
  | .int => call_int1
  | .str => call_str_int
  | .tuple => call_tuple_of
  | .list => call_list_of
  | .sum => cr_sum hc
  | .any => cr_any hc
  | .all => cr_all hc
  | .dict => call_dictD
theorem blt_of {K : PySem.W.Frag} {m : List Addr} {h h' : Hpe} {H : Hp} {a v : Val} {x : V} {Q : VK} {b : Blt} (e : builtin b a h = .ok v h') (S : StR K m h H) (ra : Rep K m H a x) (q : Post K m H h' v Q) : bltR K b [x] H Q := by
  cases b with
  | len =>
    cases ra with
    | str z =>
      simp only [builtin] at e
      split at e
      · rename_i hz
        cases e
        exact .inr ⟨z, rfl, by rw [← size_eq]; exact hz, q.here S (.int _)⟩
      · cases e
    | @tup p zs ys h1 r1 =>
      simp only [builtin, seqOf] at e
      cases e
      refine .inl ⟨p, ys, rfl, .inr h1, ?_⟩
      rw [← r1.length]
      exact q.here S (.int _)
    | @ref n p e1 =>
      simp only [builtin, seqOf] at e
      split at e
      · rename_i xs k1
        cases e
        obtain ⟨ys, g1, r1⟩ := S.list k1 e1
        refine .inl ⟨p, ys, rfl, .inl g1, ?_⟩
        rw [← r1.length]
        exact q.here S (.int _)
      · cases e
    | _ => simp only [builtin, seqOf] at e; cases e
  | abs =>
    cases ra with
    | int i => cases e; exact ⟨i, rfl, q.here S (.int _)⟩
    | _ => cases e
  | int =>
    cases ra with
    | int i => cases e; exact .inl ⟨i, rfl, q.here S (.int _)⟩
    | bl i => cases e; exact .inr ⟨i, rfl, q.here S (.int _)⟩
    | _ => cases e
  | str =>
    cases ra with
    | int i =>
      simp only [builtin] at e
      split at e
      · rename_i hz
        cases e
        refine ⟨i, rfl, ?_, q.here S (.str _)⟩
        by_cases h0 : i.natAbs = 0
        · rw [h0]; decide
        · exact Nat.lt_of_lt_of_le ((Nat.log2_lt h0).mpr hz) (by decide)
      · cases e
    | _ => cases e
  | tuple =>
    cases ra with
    | @tup p zs ys h1 r1 =>
      cases e
      exact ⟨p, ys, rfl, .inr ⟨h1, q.here S (.tup h1 r1)⟩⟩
    | @ref n p e1 =>
      simp only [builtin, seqOf] at e
      split at e
      · rename_i xs k1
        cases e
        obtain ⟨ys, g1, r1⟩ := S.list k1 e1
        exact ⟨p, ys, rfl, .inl ⟨g1, fun l hl => q.newTup S r1 hl⟩⟩
      · cases e
    | _ => cases e
  | list =>
    cases ra with
    | @tup p zs ys h1 r1 =>
      cases e
      exact ⟨p, ys, rfl, .inr h1, fun l hl => q.newLst S r1 hl⟩
    | @ref n p e1 =>
      simp only [builtin, seqOf] at e
      split at e
      · rename_i xs k1
        cases e
        obtain ⟨ys, g1, r1⟩ := S.list k1 e1
        exact ⟨p, ys, rfl, .inl g1, fun l hl => q.newLst S r1 hl⟩
      · cases e
    | _ => cases e
  | sum =>
    cases ra with
    | @ref n p e1 =>
      simp only [builtin] at e
      split at e
      · rename_i ns k1
        cases e
        obtain ⟨xs, h1, h2⟩ := Option.bind_eq_some_iff.mp k1
        obtain ⟨ys, g1, r1⟩ := S.list h1 e1
        rw [reps_ints r1 h2] at g1
        exact ⟨p, ns, rfl, g1, q.here S (.int _)⟩
      · cases e
    | _ => cases e
  | any =>
    cases ra with
    | @ref n p e1 =>
      simp only [builtin] at e
      split at e
      · rename_i ns k1
        cases e
        obtain ⟨xs, h1, h2⟩ := Option.bind_eq_some_iff.mp k1
        obtain ⟨ys, g1, r1⟩ := S.list h1 e1
        rw [reps_bls r1 h2] at g1
        exact ⟨p, ns, rfl, g1, q.here S (.bl _)⟩
      · cases e
    | _ => cases e
  | all =>
    cases ra with
    | @ref n p e1 =>
      simp only [builtin] at e
      split at e
      · rename_i ns k1
        cases e
        obtain ⟨xs, h1, h2⟩ := Option.bind_eq_some_iff.mp k1
        obtain ⟨ys, g1, r1⟩ := S.list h1 e1
        rw [reps_bls r1 h2] at g1
        exact ⟨p, ns, rfl, g1, q.here S (.bl _)⟩
      · cases e
    | _ => cases e
  | dict =>
    cases ra with
    | @ref n p e1 =>
      simp only [builtin] at e
      split at e
      · rename_i kvs k1
        cases e
        obtain ⟨ws, g1, r1⟩ := S.dict k1 e1
        exact ⟨p, ws, rfl, g1, fun l hl => q.newDic S r1 hl⟩
      · cases e
    | _ => cases e
end Ev
/-! EvSnd: what the interpreter reckons, Python does: expressions. -/
namespace Ev
open PySem PySem.Spec PyProof.Rows L2

/-! ### side conditions of the text -/
theorem starEach_cons {e : Expr} {es : List Expr} {env : Env} (h : nst e = true) : starEach (e :: es) env = (false, eval e env) :: starEach es env := by
  cases e <;> first | rfl | cases h
theorem nomark_of {op : CmpOp} {e : Expr} (h : nset e = true) : behindInMarks op e = false := by
  cases e <;> first | rfl | cases h
theorem lastMarks_of {op op' : CmpOp} {b c : Expr} (h : nset c = true) : lastMarks [op, op'] [b, c] = false := by
  show behindInMarks op' c = false
  exact nomark_of h
theorem folded_of {e : Expr} {env : Env} (h : nset e = true) (x : Value) : foldedSetIterable e env x = pure x := by
  cases e <;> first | rfl | cases h
theorem plainIx_of {b : Expr} (h : nslice b = true) : PlainIx b := by
  intro o i
  cases b <;> first | rfl | cases h
theorem base_of {o : Expr} {nm : Str} {env : Env} (h : baseOk o = true) : attributeBase o nm env (eval o env) = eval o env := by
  unfold attributeBase
  split
  · exact absurd h (by simp [baseOk])
  · rfl
theorem isTrue_of {e : Expr} {env : Env} (h : plainT e = true) (whole : Sem Value) : isTrue e env whole = (do let v ← whole; standAt e.pos; holding [v] (truthy v)) := by
  cases e <;> first | rfl | cases h
theorem swaps_of {e : Expr} {tg : Option Expr} {l : Nat} {env : Env} (h : ncomp e = true) : swapsWith e tg l env = pure false := by
  cases e <;> first | rfl | cases h
theorem any_star {N : List Str} {env : Env} {pos : Pos} : ∀ {es : Es} {sc : Scope} {xs : List Expr}, chkEs N es sc xs = true → (backTo pos (starEach xs env)).any (·.1) = false
  | .nil, _, xs, h => by
    cases xs with
    | nil => rfl
    | cons _ _ => simp [chkEs] at h
  | .cons e es, sc, xs, h => by
    cases xs with
    | nil => simp [chkEs] at h
    | cons x r =>
      simp only [chkEs, Bool.and_eq_true] at h
      rw [starEach_cons h.1.1]
      have ih := any_star (env := env) (pos := pos) h.2
      show (false || (backTo pos (starEach r env)).any (·.1)) = false
      rw [ih]
      rfl
theorem nst_of {N : List Str} {es : Es} {sc : Scope} {x : Expr} {r : List Expr} (h : chkEs N es sc (x :: r) = true) : nst x = true ∧ ∃ e' es', es = .cons e' es' ∧ chkE N e' sc x = true ∧ chkEs N es' sc r = true := by
  cases es with
  | nil => simp [chkEs] at h
  | cons e es =>
    simp only [chkEs, Bool.and_eq_true] at h
    exact ⟨h.1.1, e, es, rfl, h.1.2, h.2⟩

/-! ### weaker readings -/
section
variable {X : Cx}
theorem _root_.L2.PE.imp {e : Expr} {t t' : TE} (h : PE X e t) (i : ∀ σ H Q, t' σ H Q → t σ H Q) : PE X e t' := ⟨fun pins s σ H Q I q => h.run pins s σ H Q I (i σ H Q q)⟩
theorem _root_.L2.PT.imp {e : Expr} {t t' : TT} (h : PT X e t) (i : ∀ σ H Q, t' σ H Q → t σ H Q) : PT X e t' := ⟨fun pins s σ H Q I q => h.run pins s σ H Q I (i σ H Q q)⟩
theorem _root_.L2.PA.imp {e : List Expr} {t t' : TA} (h : PA X e t) (i : ∀ σ H Q, t' σ H Q → t σ H Q) : PA X e t' := ⟨fun pos pins s σ H Q I q => h.run pos pins s σ H Q I (i σ H Q q)⟩
theorem _root_.L2.PO.imp {e : Option Expr} {t t' : TO} (h : PO X e t) (i : ∀ σ H Q, t' σ H Q → t σ H Q) : PO X e t' := ⟨fun pins s σ H Q I q => h.run pins s σ H Q I (i σ H Q q)⟩
theorem _root_.L2.PI.imp {tg e : Expr} {t t' : TI} (h : PI X tg e t) (i : ∀ σ H Q, t' σ H Q → t σ H Q) : PI X tg e t' := ⟨fun pins s σ H Q I q => h.run pins s σ H Q I (i σ H Q q)⟩
theorem _root_.L2.PG.imp {e : Expr} {t t' : TG} (h : PG X e t) (i : ∀ v σ H Q, t' v σ H Q → t v σ H Q) : PG X e t' := ⟨fun pins s σ H v u Q I r q => h.run pins s σ H v u Q I r (i v σ H Q q)⟩
theorem _root_.L2.PTs.imp {e : List Expr} {t t' : TT} (h : PTs X e t) (i : ∀ σ H Q, t' σ H Q → t σ H Q) : PTs X e t' := ⟨fun pins s σ H Q I q => h.run pins s σ H Q I (i σ H Q q)⟩
theorem _root_.L2.PS.imp {e : Stmt} {t t' : TS} (h : PS X e t) (i : ∀ D σ H, t' D σ H → t D σ H) : PS X e t' := ⟨fun pins s σ H D I q => h.run pins s σ H D I (i D σ H q)⟩
theorem _root_.L2.PSs.imp {e : List Stmt} {t t' : TS} (h : PSs X e t) (i : ∀ D σ H, t' D σ H → t D σ H) : PSs X e t' := ⟨fun pins s σ H D I q => h.run pins s σ H D I (i D σ H q)⟩
end

/-! ### the readings: what the interpreter reckons -/
abbrev Rcx (P : Prog) (k : Nat) : Rc := ⟨call P k, (call2 P k).2, keyOk P k, P.con, P.fuel⟩
section
variable (P : Prog) (k : Nat) (K : PySem.W.Frag)
def TEv (c : E) : TE := fun σ H Q => ∃ m s h v h', StR K m h H ∧ EnR K m H s σ ∧ ev (Rcx P k) c s h = .ok v h' ∧ Post K m H h' v Q
def TAv (c : Es) : TA := fun σ H Q => ∃ m s h vs h', StR K m h H ∧ EnR K m H s σ ∧ evs (Rcx P k) c s h = .ok vs h' ∧ ∀ m' H' xs, Grow m m' H H' → StR K m' h' H' → Reps K m' H' vs xs → Q xs H'
def TTv (c : T) : TT := fun σ H Q => ∃ m s h b h', StR K m h H ∧ EnR K m H s σ ∧ evt (Rcx P k) c s h = .ok b h' ∧ ∀ m' H', Grow m m' H H' → StR K m' h' H' → Q b H'
def TOv (c : O) : TO := fun σ H Q => ∃ m s h o h', StR K m h H ∧ EnR K m H s σ ∧ evo (Rcx P k) c s h = .ok o h' ∧ ∀ m' H', Grow m m' H H' → StR K m' h' H' → Q o H'
/-- how an iterator walks what the interpreter has listed -/
structure ItR (m : List Addr) (H : Hp) (src : Src) (J : It) : Prop where
  go : ∀ (i : Nat) (v : Val) m' h' H', Grow m m' H H' → StR K m' h' H' → src.stays h' = true → src.items[i]? = some v → J.go i H' ∧ ∀ x H'', J.yld i H' x H'' → Grow m' m' H' H'' ∧ StR K m' h' H'' ∧ Rep K m' H'' v x
  stop : ∀ m' h' H', Grow m m' H H' → StR K m' h' H' → src.stays h' = true → J.stop src.items.length H'
def TIv (c : I) : TI := fun σ H R => ∃ m s h src h', StR K m h H ∧ EnR K m H s σ ∧ evi (Rcx P k) c s h = .ok src h' ∧ ∀ m' H' J, Grow m m' H H' → StR K m' h' H' → ItR K m' H' src J → R J H'
/-- a def's promise: what the interpreter reckons for it -/
def spE (f : Str) : Sp := fun vs H Q _ => ∃ m h as v h', StR K m h H ∧ Reps K m H as vs ∧ call P k f as h = .ok v h' ∧ Post K m H h' v Q
end

/-- where code stands: names, room, the defs that it may call -/
structure Good (P : Prog) (k : Nat) (sc : Scope) (N : List Str) (X : Cx) : Prop where
  calm : X.calm = true
  names : X.N = N
  nd : N.Nodup
  room : Room k X.A
  nox : X.xe = fun _ _ => False
  scp : ∀ x kd, sc.names.lookup x = some kd → ∃ kd', X.env.scope.names.lookup x = some kd' ∧ (kd' = kd ∨ (kd = .free ∧ kd' = .cell))
  fnc : ∀ x, sc.names.lookup x = some .cell → X.fn x = true
  fns : ∀ f F, P.fn f = some F → ∃ a fd ps, X.mg f = some (.ref a) ∧ PySem.W.keepIn X.K (.ref a) = true ∧ Binds X.K fd ps [] ∧ FnOk X.prog X.w X.K X.mg X.base CX0 k a fd ps (spE P k X.K f)
  fns1 : ∀ f F, P.fn f = some F → ∃ a fd ps, X.mg f = some (.ref a) ∧ PySem.W.keepIn X.K (.ref a) = true ∧ Binds X.K fd ps [] ∧ ∀ j, j + 1 = k → FnOk X.prog X.w X.K X.mg X.base CX0 j a fd ps (spE P j X.K f)
  cons : ∀ x v, P.con x = some v → ∃ u y, X.mg x = some u ∧ RelV y u ∧ ∀ m H, Rep X.K m H v y
  blt : ∀ x ∈ bltNames, X.mg x = none
section
variable {P : Prog} {k : Nat} {sc : Scope} {N : List Str} {X : Cx}
theorem Good.units (G : Good P k sc N X) : X.A.units + 200 < cLine := by have := G.room.un; omega
theorem Good.vis (G : Good P k sc N X) {x : Str} (h : vis sc x = true) : Vis X.env.scope x := by
  unfold Ev.vis at h
  split at h
  · rename_i e
    obtain ⟨kd, h1, h2 | ⟨h2, _⟩⟩ := G.scp x _ e
    · exact .inl (h2 ▸ h1)
    · cases h2
  · rename_i e
    obtain ⟨kd, h1, h2 | ⟨h2, _⟩⟩ := G.scp x _ e
    · exact .inr (.inl (h2 ▸ h1))
    · cases h2
  · rename_i e
    obtain ⟨kd, h1, h2 | ⟨_, h2⟩⟩ := G.scp x _ e
    · exact .inr (.inr (h2 ▸ h1))
    · exact .inr (.inl (h2 ▸ h1))
  · cases h
theorem Good.loc (G : Good P k sc N X) {x : Str} (h : loc sc x = true) : Loc X.env.scope x ∧ (X.fn x = true ∨ X.env.scope.names.lookup x = some .local) := by
  unfold Ev.loc at h
  split at h
  · rename_i e
    obtain ⟨kd, h1, h2 | ⟨h2, _⟩⟩ := G.scp x _ e
    · exact ⟨.inl (h2 ▸ h1), .inr (h2 ▸ h1)⟩
    · cases h2
  · rename_i e
    obtain ⟨kd, h1, h2 | ⟨h2, _⟩⟩ := G.scp x _ e
    · exact ⟨.inr (h2 ▸ h1), .inl (G.fnc x e)⟩
    · cases h2
  · cases h
theorem okName_of {x : Str} (h : okName x = true) : (x == ("__debug__" : Str)) = false ∧ (x == ("__classdict__" : Str)) = false ∧ x ≠ ("__name__" : Str) := by
  unfold okName at h
  simp only [Bool.and_eq_true, decide_eq_true_eq] at h
  exact ⟨h.1.1, h.1.2, h.2⟩
theorem Good.gl (G : Good P k sc N X) {x : Str} (h : gl sc x = true) : Gl X x ∧ (x == ("__debug__" : Str)) = false ∧ x ≠ ("__name__" : Str) := by
  unfold Ev.gl at h
  rw [Bool.and_eq_true] at h
  obtain ⟨h1, h2⟩ := h
  obtain ⟨o1, _, o3⟩ := okName_of h2
  refine ⟨?_, o1, o3⟩
  split at h1
  · rename_i e
    obtain ⟨kd, h3, h4 | ⟨h4, _⟩⟩ := G.scp x _ e
    · show X.env.scope.names.lookup x = some .globalImplicit
      rw [h3, h4]
    · cases h4
  · cases h1
/-- the block of a comprehension -/
theorem Good.blk (G : Good P k sc N X) {scope : Scope} (hu : ∀ y ∈ scope.names, scope.names.lookup y.1 = some y.2) (s : Shared) (H : Hp) (C : Addr) (cl : List (Str × Addr)) (fp : List Addr) :
    Good P k scope N (X.blk s H scope (compEnvC scope cl C X.env) fp) where
  calm := G.calm
  names := G.names
  nd := G.nd
  room := G.room
  nox := rfl
  scp := fun x kd h => by
    show ∃ kd', (relS scope X.env.scope).names.lookup x = some kd' ∧ _
    by_cases hk : kd = .free
    · subst hk
      -- the map keeps the name
      have key : ∀ {names : List (Str × NameKind)}, names.lookup x = some .free → ∃ kd', (names.map fun (n, k) => if (k == NameKind.free && X.env.scope.kind == .function && X.env.scope.names.lookup n == some .cell) then (n, NameKind.cell) else (n, k)).lookup x = some kd' ∧ (kd' = .free ∨ (NameKind.free = .free ∧ kd' = .cell)) := by
        intro names
        induction names with
        | nil => intro h; simp at h
        | cons p r ih =>
          obtain ⟨n, k₀⟩ := p
          intro h
          cases hx : x == n with
          | true =>
            simp only [List.lookup_cons, hx] at h
            cases h
            show ∃ kd', List.lookup x ((if (NameKind.free == NameKind.free && X.env.scope.kind == .function && X.env.scope.names.lookup n == some .cell) = true then (n, NameKind.cell) else (n, NameKind.free)) :: r.map _) = some kd' ∧ _
            by_cases hc : (NameKind.free == NameKind.free && X.env.scope.kind == .function && X.env.scope.names.lookup n == some .cell) = true
            · rw [if_pos hc]
              exact ⟨.cell, by simp only [List.lookup_cons, hx], .inr ⟨rfl, rfl⟩⟩
            · rw [if_neg hc]
              exact ⟨.free, by simp only [List.lookup_cons, hx], .inl rfl⟩
          | false =>
            simp only [List.lookup_cons, hx] at h
            obtain ⟨kd', h1, h2⟩ := ih h
            refine ⟨kd', ?_, h2⟩
            show List.lookup x ((if (k₀ == NameKind.free && X.env.scope.kind == .function && X.env.scope.names.lookup n == some .cell) = true then (n, NameKind.cell) else (n, k₀)) :: r.map _) = some kd'
            by_cases hc : (k₀ == NameKind.free && X.env.scope.kind == .function && X.env.scope.names.lookup n == some .cell) = true
            · rw [if_pos hc]; simp only [List.lookup_cons, hx]; exact h1
            · rw [if_neg hc]; simp only [List.lookup_cons, hx]; exact h1
      exact key h
    · exact ⟨kd, lookup_relS_keep hk h, .inl rfl⟩
  fnc := fun x h => by
    show (scope.names.lookup x == some NameKind.cell) = true
    rw [h]
    rfl
  fns := G.fns
  fns1 := G.fns1
  cons := G.cons
  blt := G.blt
theorem ownL_snd (N : List Str) : ∀ own : List Nat, (ownL N own).map (·.2) = own
  | [] => rfl
  | i :: r => by
    have := ownL_snd N r
    unfold ownL at this ⊢
    rw [List.map_cons, List.map_cons, this]
theorem Good.blkOk (G : Good P k sc N X) {scope : Scope} {own : List Nat} (h : blkC N sc scope (ownL N own) = true) : BlkOk X.N X.env.scope scope (ownL N own) := by
  have b := blkOk_by h
  refine ⟨b.kind, b.uniq, by rw [G.names]; exact b.ix, fun y hy e => ?_, by rw [G.names]; exact b.own⟩
  rcases b.free y hy e with z | z
  · obtain ⟨kd, h1, h2 | ⟨h2, _⟩⟩ := G.scp _ _ z
    · exact .inl (h2 ▸ h1)
    · cases h2
  · obtain ⟨kd, h1, h2 | ⟨_, h2⟩⟩ := G.scp _ _ z
    · exact .inr (h2 ▸ h1)
    · exact .inl (h2 ▸ h1)
end

/-! ### methods -/
section
variable {K : PySem.W.Frag} {m : List Addr} {h h' : Hpe} {H : Hp} {a v : Val} {x : V} {Q : VK}
theorem Post.wr {n : Nat} {p : Addr} {o : Ob} {o' : Ob} {u : HO} (q : Post K m H (h.set n o') .non Q) (S : StR K m h H) (e : h[n]? = some o) (ea : m[n]? = some p) (w : o.mut = true) (hr : Grow m m H (upd H p u) → ObR K m (upd H p u) p o') : Q .non (upd H p u) := by
  obtain ⟨y, hy, hk⟩ := (S.at e ea).mutable w
  have g : Grow m m H (upd H p u) := Grow.write hy (fun xs q => by rcases hk with ⟨_, k⟩ | ⟨_, k⟩ <;> rw [k] at q <;> cases q) (fun o xs q => by rcases hk with ⟨_, k⟩ | ⟨_, k⟩ <;> rw [k] at q <;> cases q)
  obtain ⟨S', g'⟩ := S.write e ea w (hr g)
  exact q _ _ _ g' S' .non
theorem Post.wrV {n : Nat} {p : Addr} {o : Ob} {o' : Ob} {u : HO} {v : Val} {y : V} (q : Post K m H (h.set n o') v Q) (S : StR K m h H) (e : h[n]? = some o) (ea : m[n]? = some p) (w : o.mut = true) (rv : Rep K m H v y) (hr : Grow m m H (upd H p u) → ObR K m (upd H p u) p o') : Q y (upd H p u) := by
  obtain ⟨z, hy, hk⟩ := (S.at e ea).mutable w
  have g : Grow m m H (upd H p u) := Grow.write hy (fun xs q => by rcases hk with ⟨_, k⟩ | ⟨_, k⟩ <;> rw [k] at q <;> cases q) (fun o xs q => by rcases hk with ⟨_, k⟩ | ⟨_, k⟩ <;> rw [k] at q <;> cases q)
  obtain ⟨S', g'⟩ := S.write e ea w (hr g)
  exact q _ _ _ g' S' (rv.mono g')
theorem recv_list {mt : Mth} (hm : mt ≠ .get ∧ mt ≠ .join) (e : recvOk mt a h = true) (S : StR K m h H) (ra : Rep K m H a x) : tyV K "list" x H := by
  have e' : ∃ n xs, a = .ref n ∧ h[n]? = some (.lst xs) := by
    cases a with
    | ref n =>
      refine ⟨n, ?_⟩
      cases mt <;> first
        | exact absurd rfl hm.1
        | exact absurd rfl hm.2
        | (simp only [recvOk] at e; split at e; (rename_i xs k; exact ⟨xs, rfl, k⟩); (cases e))
    | _ => cases mt <;> first | exact absurd rfl hm.1 | exact absurd rfl hm.2 | (simp [recvOk] at e)
  obtain ⟨n, xs, rfl, k1⟩ := e'
  obtain ⟨p, rfl, e1⟩ := ra.ref_inv
  obtain ⟨ys, g1, _⟩ := S.lst k1 e1
  exact .inl ⟨rfl, ys, .of g1⟩
def mtIdL : Mth → String
  | .append => "list.append" | .extend => "list.extend" | .insert => "list.insert" | .pop => "list.pop" | .reverse => "list.reverse" | _ => ""
def mtRL (K : PySem.W.Frag) : Mth → V → List V → Hp → VK → Prop
  | .append => rAppend
  | .extend => rExtend
  | .insert => fun x vs H Q => ∃ (l : Addr) (xs : List V) (i : Int) (y : V), x = .ref l ∧ vs = [.int i, y] ∧ H l = some (.lst xs) ∧ xs.length < sizeLine ∧ 0 ≤ i ∧ i < 2 ^ 63 ∧ Q .non (upd H l (.lst (xs.take i.toNat ++ [y] ++ xs.drop i.toNat)))
  | .pop => fun x vs H Q => rPop x vs H Q ∨ rPopAt x vs H Q
  | .reverse => rReverse
  | _ => fun _ _ _ _ => False
theorem mtRL_ok {X : Cx} : ∀ mt : Mth, mt ≠ .get → mt ≠ .join → MtR X (mtIdL mt) (mtRL X.K mt)
  | .append, _, _ => mt_append
  | .extend, _, _ => mt_extend
  | .insert, _, _ => mt_insert
  | .pop, _, _ => MtR.or mt_pop mt_popAt
  | .reverse, _, _ => mt_reverse
  | .get, h, _ => absurd rfl h
  | .join, _, h => absurd rfl h
theorem mtL_slot : ∀ mt : Mth, mt ≠ .get → mt ≠ .join → Slot "list" (mthX mt) (mtIdL mt) ∧ typeOf (.builtin (mtIdL mt)) = pure (.type "method_descriptor")
  | .append, _, _ => ⟨PySem.F.slot_list_append, PySem.F.type_list_append⟩
  | .extend, _, _ => ⟨PySem.F.slot_list_extend, PySem.F.type_list_extend⟩
  | .insert, _, _ => ⟨PySem.F.slot_list_insert, PySem.F.type_list_insert⟩
  | .pop, _, _ => ⟨PySem.F.slot_list_pop, PySem.F.type_list_pop⟩
  | .reverse, _, _ => ⟨PySem.F.slot_list_reverse, PySem.F.type_list_reverse⟩
  | .get, h, _ => absurd rfl h
  | .join, _, h => absurd rfl h
theorem seqIndex_of_place {n : Nat} {i : Int} {j : Nat} (e : place n i = some j) : seqIndex? i n = some j := (ixN_seq (n := n) (i := i) (j := j) e).1
theorem mtL_of {mt : Mth} (hg : mt ≠ .get) (hj : mt ≠ .join) {as : List Val} {ys : List V} (e : method mt a as h = .ok v h') (S : StR K m h H) (ra : Rep K m H a x) (rs : Reps K m H as ys) (q : Post K m H h' v Q) : mtRL K mt x ys H Q := by
  cases mt with
  | get => exact absurd rfl hg
  | join => exact absurd rfl hj
  | append =>
    cases ra with
    | @ref n p e1 =>
      rcases as with _ | ⟨w, _ | ⟨w2, r⟩⟩ <;> first | cases e | skip
      simp only [method] at e
      split at e
      · rename_i xs k1
        split at e
        · rename_i hz
          cases e
          obtain ⟨zs, g1, r1⟩ := S.lst k1 e1
          obtain ⟨y, rfl, rw1⟩ := rs.one
          exact ⟨p, zs, y, rfl, rfl, g1, by rw [← size_eq, ← r1.length]; exact hz, q.wr S k1 e1 rfl fun g => ⟨_, upd_same, (r1.mono g).snoc (rw1.mono g)⟩⟩
        · cases e
      · cases e
    | _ => cases e
  | extend =>
    cases ra with
    | @ref n p e1 =>
      rcases as with _ | ⟨w, _ | ⟨w2, r⟩⟩
      · cases e
      rotate_left
      · cases w <;> cases e
      cases w with
      | ref n2 =>
        simp only [method] at e
        split at e
        · rename_i xs zs k1 k2
          split at e
          · rename_i hz
            cases e
            obtain ⟨us, g1, r1⟩ := S.lst k1 e1
            obtain ⟨y, rfl, rw1⟩ := rs.one
            obtain ⟨p2, rfl, e2⟩ := rw1.ref_inv
            obtain ⟨ws, g2, r2⟩ := S.lst k2 e2
            exact ⟨p, p2, us, ws, rfl, rfl, g1, g2, by rw [← size_eq, ← r1.length, ← r2.length]; exact hz, q.wr S k1 e1 rfl fun g => ⟨_, upd_same, (r1.mono g).append (r2.mono g)⟩⟩
          · cases e
        · cases e
      | _ => cases e
    | _ => cases e
  | insert =>
    cases ra with
    | @ref n p e1 =>
      rcases as with _ | ⟨w, _ | ⟨w2, _ | ⟨w3, r⟩⟩⟩ <;> first | cases e | skip
      · cases w <;> cases e
      · cases w with
        | int i =>
          simp only [method] at e
          split at e
          · rename_i xs k1
            split at e
            · rename_i hz
              cases e
              obtain ⟨zs, g1, r1⟩ := S.lst k1 e1
              obtain ⟨y, y2, rfl, rw1, rw2⟩ := rs.two
              cases rw1
              refine ⟨p, zs, i, y2, rfl, rfl, g1, by rw [← size_eq, ← r1.length]; exact hz.1, hz.2.1, by omega, ?_⟩
              refine q.wr S k1 e1 rfl fun g => ⟨_, upd_same, ?_⟩
              rw [List.append_assoc] at g ⊢
              exact Reps.append ((r1.mono g).take _) (.cons (rw2.mono g) ((r1.mono g).drop _))
            · cases e
          · cases e
        | _ => cases e
      · cases w <;> cases e
    | _ => cases e
  | pop =>
    cases ra with
    | @ref n p e1 =>
      rcases as with _ | ⟨w, _ | ⟨w2, r⟩⟩ <;> first | cases e | skip
      · simp only [method] at e
        split at e
        · rename_i xs k1
          split at e
          · rename_i w hw
            cases e
            obtain ⟨zs, g1, r1⟩ := S.lst k1 e1
            cases rs
            rw [List.getLast?_eq_getElem?] at hw
            obtain ⟨y, h1, h2⟩ := r1.get hw
            rw [r1.length] at h1
            exact .inl ⟨p, zs, y, rfl, rfl, g1, h1, q.wrV S k1 e1 rfl h2 fun g => ⟨_, upd_same, (r1.mono g).dropLast⟩⟩
          · cases e
        · cases e
      · cases w with
        | int i =>
          simp only [method] at e
          split at e
          · rename_i xs k1
            split at e <;> first | (cases e; done) | skip
            rename_i hi
            split at e
            · rename_i k hk
              split at e
              · rename_i w hw
                cases e
                obtain ⟨zs, g1, r1⟩ := S.lst k1 e1
                obtain ⟨y, rfl, rw1⟩ := rs.one
                cases rw1
                obtain ⟨y, h1, h2⟩ := r1.get hw
                have hz : zs.length ≤ xs.length := Nat.le_of_eq r1.length.symm
                have hb := ixN_seq (n := xs.length) (i := i) (j := k) hk
                exact .inr ⟨p, zs, i, k, y, rfl, rfl, g1, by omega, by omega, by rw [← r1.length]; exact hb.1, h1, q.wrV S k1 e1 rfl h2 fun g => ⟨_, upd_same, (r1.mono g).eraseIdx _⟩⟩
              · cases e
            · cases e
          · cases e
        | _ => cases e
      · cases w <;> cases e
    | _ => cases e
  | reverse =>
    cases ra with
    | @ref n p e1 =>
      rcases as with _ | ⟨w, r⟩ <;> first | cases e | skip
      simp only [method] at e
      split at e
      · rename_i xs k1
        cases e
        obtain ⟨zs, g1, r1⟩ := S.lst k1 e1
        cases rs
        exact ⟨p, zs, rfl, rfl, g1, q.wr S k1 e1 rfl fun g => ⟨_, upd_same, (r1.mono g).reverse⟩⟩
      · cases e
    | _ => cases e
end
end Ev
/-! EvSnd2: what the interpreter reckons, Python does: the expressions, all of them. -/
namespace Ev
open PySem PySem.Spec PyProof.Rows L2

/-! ### targets -/
def TGv (K : PySem.W.Frag) (tg : Tg) : TG := fun v σ H Q => ∃ m s x s', EnR K m H s σ ∧ Rep K m H x v ∧ store tg x s = some s' ∧
  ∀ σ', EnR K m H s' σ' → (∀ vs : List Nat, (∀ i ∈ tgIx tg, i ∈ vs) → L2.wipe σ' vs = L2.wipe σ vs) → Q σ' H
theorem wipe_set (i : Nat) (z : Option V) : ∀ (vs : List Nat) (σ : L2.St), i ∈ vs → L2.wipe (σ.set i z) vs = L2.wipe σ vs
  | [], _, h => absurd h (by simp)
  | v :: vs, σ, h => by
    unfold L2.wipe
    by_cases hi : i ∈ vs
    · rw [wipe_set i z vs σ hi]
    · have e : i = v := by
        rcases List.mem_cons.mp h with e | e
        · exact e
        · exact absurd e hi
      subst e
      have key : ∀ (vs : List Nat) (σ : L2.St), i ∉ vs → L2.wipe (σ.set i z) vs = (L2.wipe σ vs).set i z := by
        intro vs
        induction vs with
        | nil => intro σ _; rfl
        | cons w r ih =>
          intro σ hw
          unfold L2.wipe
          have hne : i ≠ w := fun e => hw (by simp [e])
          rw [ih σ (fun q => hw (List.mem_cons_of_mem _ q)), List.set_comm _ _ hne]
      rw [key vs σ hi, List.set_set]
section
variable {P : Prog} {k : Nat} {sc : Scope} {N : List Str} {X : Cx}
theorem Good.name (G : Good P k sc N X) {i : Nat} {x : Str} {pos : Pos} (h1 : N[i]? = some x) (h2 : Ev.loc sc x = true) : PG X (.Name x pos) (gName i) := by
  obtain ⟨l1, l2⟩ := G.loc h2
  exact pg_name (by rw [G.names]; exact G.nd) (by rw [G.names]; exact h1) l1 l2
def gNames : List Nat → TGs
  | [] => gNil
  | i :: is => gCons (gName i) (gNames is)
theorem Good.tgs (G : Good P k sc N X) : ∀ (is : List Nat) (es : List Expr), chkTg.chkTgs N sc is es = true → PGs X es (gNames is) ∧ (assignEach es X.env).length = is.length
  | [], [], _ => ⟨pgs_nil, rfl⟩
  | [], e :: es, h => by simp [chkTg.chkTgs] at h
  | i :: is, [], h => by simp [chkTg.chkTgs] at h
  | i :: is, e :: es, h => by
    cases e with
    | Name x pos =>
      simp only [chkTg.chkTgs, Bool.and_eq_true, decide_eq_true_eq] at h
      obtain ⟨ih1, ih2⟩ := G.tgs is es h.2
      refine ⟨pgs_cons (G.name h.1.1 h.1.2) ih1, ?_⟩
      show (assignEach es X.env).length + 1 = is.length + 1
      rw [ih2]
    | _ => simp [chkTg.chkTgs] at h
theorem tgs_nostar {N : List Str} {sc : Scope} {env : Env} : ∀ (is : List Nat) (es : List Expr), chkTg.chkTgs N sc is es = true → ∀ y ∈ assignEach es env, y.1 = false
  | [], [], _ => fun y hy => absurd (show y ∈ [] from hy) (by simp)
  | [], e :: es, h => by simp [chkTg.chkTgs] at h
  | i :: is, [], h => by simp [chkTg.chkTgs] at h
  | i :: is, e :: es, h => by
    cases e with
    | Name x pos =>
      simp only [chkTg.chkTgs, Bool.and_eq_true, decide_eq_true_eq] at h
      intro y hy
      rcases List.mem_cons.mp (show y ∈ (false, assign (.Name x pos) env) :: assignEach es env from hy) with e | e
      · rw [e]
      · exact tgs_nostar is es h.2 y e
    | _ => simp [chkTg.chkTgs] at h
theorem gNames_of {K : PySem.W.Frag} {m : List Addr} {H : Hp} : ∀ (is : List Nat) (xs : List Val) (ys : List V) (s : En) (σ : L2.St) (Q : L2.St → Hp → Prop), Reps K m H xs ys → xs.length = is.length → EnR K m H s σ →
    (∀ σ', EnR K m H ((is.zip xs).foldl (fun σ p => σ.set p.1 (some p.2)) s) σ' → (∀ vs : List Nat, (∀ i ∈ is, i ∈ vs) → L2.wipe σ' vs = L2.wipe σ vs) → Q σ' H) → gNames is ys σ H Q
  | [], [], _, s, σ, Q, r, _, E, q => by cases r; exact ⟨rfl, q σ E fun _ _ => rfl⟩
  | [], _ :: _, _, _, _, _, _, h, _, _ => by simp at h
  | _ :: _, [], _, _, _, _, _, h, _, _ => by simp at h
  | i :: is, x :: xs, _, s, σ, Q, .cons r1 r2, h, E, q => by
    refine ⟨_, _, rfl, ?_⟩
    refine gNames_of is xs _ (s.set i (some x)) _ Q r2 (by simpa using h) (E.set i r1) fun σ' E' w => q σ' E' fun vs hv => ?_
    rw [w vs fun j hj => hv j (List.mem_cons_of_mem _ hj)]
    exact wipe_set i _ vs σ (hv i List.mem_cons_self)
theorem Good.tg (G : Good P k sc N X) {tg : Tg} {e : Expr} (h : chkTg N sc tg e = true) : PG X e (TGv X.K tg) := by
  cases tg with
  | nm i =>
    cases e with
    | Name x pos =>
      simp only [chkTg, Bool.and_eq_true, decide_eq_true_eq] at h
      refine (G.name h.1 h.2).imp fun v σ H Q hq => ?_
      obtain ⟨m, s, x, s', E, r, e, q⟩ := hq
      cases e
      exact q _ (E.set i r) fun vs hv => wipe_set i _ vs σ (hv i (by simp [tgIx]))
    | _ => simp [chkTg] at h
  | tp is =>
    cases e with
    | Tuple es kk pos =>
      simp only [chkTg] at h
      obtain ⟨h1, h2⟩ := G.tgs is es h
      refine (pg_tup G.calm h1 h2 (List.findIdx?_eq_none_iff.mpr fun y hy => by simp [tgs_nostar is es h y hy])).imp fun v σ H Q hq => ?_
      obtain ⟨m, s, x, s', E, r, e, q⟩ := hq
      simp only [store] at e
      cases r with
      | @tup a xs ys ht rs =>
        simp only at e
        split at e
        · rename_i hl
          cases e
          exact ⟨a, ys, rfl, ht, by rw [← rs.length]; exact hl, gNames_of is xs ys s σ Q rs hl E q⟩
        · cases e
      | _ => cases e
    | _ => simp [chkTg] at h
end

/-! ### isinstance -/
def tyS : Ty → String
  | .int => "int" | .bool => "bool" | .str => "str" | .tuple => "tuple" | .list => "list"
theorem tyBoot : ∀ t : Ty, bootBuiltins (tyX t) = some (.type (tyS t))
  | .int => by decide +kernel
  | .bool => by decide +kernel
  | .str => by decide +kernel
  | .tuple => by decide +kernel
  | .list => by decide +kernel
theorem tyIn : ∀ t : Ty, tyX t ∈ bltNames
  | .int => by decide
  | .bool => by decide
  | .str => by decide
  | .tuple => by decide
  | .list => by decide
theorem kNone : ∀ t : Ty, kitB "NoneType" (tyS t) = some false
  | .int => by decide +kernel
  | .bool => by decide +kernel
  | .str => by decide +kernel
  | .tuple => by decide +kernel
  | .list => by decide +kernel
theorem kBool : ∀ t : Ty, kitB "bool" (tyS t) = some (t == .bool || t == .int)
  | .int => by decide +kernel
  | .bool => by decide +kernel
  | .str => by decide +kernel
  | .tuple => by decide +kernel
  | .list => by decide +kernel
theorem kInt : ∀ t : Ty, kitB "int" (tyS t) = some (t == .int)
  | .int => by decide +kernel
  | .bool => by decide +kernel
  | .str => by decide +kernel
  | .tuple => by decide +kernel
  | .list => by decide +kernel
theorem kStr : ∀ t : Ty, kitB "str" (tyS t) = some (t == .str)
  | .int => by decide +kernel
  | .bool => by decide +kernel
  | .str => by decide +kernel
  | .tuple => by decide +kernel
  | .list => by decide +kernel
theorem kTuple : ∀ t : Ty, kitB "tuple" (tyS t) = some (t == .tuple)
  | .int => by decide +kernel
  | .bool => by decide +kernel
  | .str => by decide +kernel
  | .tuple => by decide +kernel
  | .list => by decide +kernel
theorem kList : ∀ t : Ty, kitB "list" (tyS t) = some (t == .list)
  | .int => by decide +kernel
  | .bool => by decide +kernel
  | .str => by decide +kernel
  | .tuple => by decide +kernel
  | .list => by decide +kernel
theorem kDict : ∀ t : Ty, kitB "dict" (tyS t) = some false
  | .int => by decide +kernel
  | .bool => by decide +kernel
  | .str => by decide +kernel
  | .tuple => by decide +kernel
  | .list => by decide +kernel
theorem tyX_list {K : PySem.W.Frag} {H : Hp} {a : Addr} {ys : List V} (h : SqL K H a ys) : TyX K H (.ref a) (.type "list") := by
  rcases h with (h | ⟨o, h⟩) | ⟨o, its, n, h1, h2, _⟩
  · exact .base (.lst h)
  · exact .base (.frz h)
  · exact .kList h1 h2
theorem tyX_tuple {K : PySem.W.Frag} {H : Hp} {a : Addr} {ys : List V} (h : SqT K H a ys) : TyX K H (.ref a) (.type "tuple") := by
  rcases h with (h | ⟨o, h⟩) | ⟨o, its, n, h1, h2, _⟩
  · exact .base (.tup h)
  · exact .fTuple h
  · exact .kTuple h1 h2
theorem tyX_dict {K : PySem.W.Frag} {H : Hp} {a : Addr} {ys : List (Key × V)} (h : Rd H a (.dK ys)) : TyX K H (.ref a) (.type "dict") := by
  rcases h with h | ⟨o, h⟩
  · exact .base (.dK h)
  · exact .fDict h
theorem isi_of {K : PySem.W.Frag} {m : List Addr} {h h' : Hpe} {H : Hp} {a : Val} {x : V} {t : Ty} {r : Bool} (e : tyOk t a h = .ok r h') (S : StR K m h H) (ra : Rep K m H a x) :
    h' = h ∧ ∃ tv, TyX K H x tv ∧ PySem.W.kitOne K tv (.type (tyS t)) = some r := by
  unfold tyOk at e
  cases ra with
  | non => cases e; exact ⟨rfl, _, .base .non, kit_ty (kNone t)⟩
  | bl b => cases e; exact ⟨rfl, _, .base (.bl b), kit_ty (kBool t)⟩
  | int b => cases e; exact ⟨rfl, _, .base (.int b), kit_ty (kInt t)⟩
  | str b => cases e; exact ⟨rfl, _, .base (.str b), kit_ty (kStr t)⟩
  | tup h1 r1 => cases e; exact ⟨rfl, _, tyX_tuple h1, kit_ty (kTuple t)⟩
  | @ref n p e1 =>
    simp only at e
    split at e
    · rename_i xs k1
      cases e
      obtain ⟨ys, g1, _⟩ := S.lst k1 e1
      exact ⟨rfl, _, tyX_list (.of g1), kit_ty (kList t)⟩
    · rename_i xs k1
      cases e
      obtain ⟨ys, g1, _⟩ := S.list (xs := xs) (by unfold lstAt; rw [k1]) e1
      exact ⟨rfl, _, tyX_list g1, kit_ty (kList t)⟩
    · rename_i xs k1
      cases e
      obtain ⟨ys, g1, _⟩ := S.dict (xs := xs) (by unfold dicAt; rw [k1]) e1
      exact ⟨rfl, _, tyX_dict g1, kit_ty (kDict t)⟩
    · rename_i xs k1
      cases e
      obtain ⟨ys, g1, _⟩ := S.dict (xs := xs) (by unfold dicAt; rw [k1]) e1
      exact ⟨rfl, _, tyX_dict g1, kit_ty (kDict t)⟩
    · cases e
theorem bltBoot : ∀ b : Blt, bootBuiltins (bltX b) = some (bltV b)
  | .len => by decide +kernel
  | .abs => by decide +kernel
  | .int => by decide +kernel
  | .str => by decide +kernel
  | .tuple => by decide +kernel
  | .list => by decide +kernel
  | .sum => by decide +kernel
  | .any => by decide +kernel
  | .all => by decide +kernel
  | .dict => by decide +kernel
theorem bltIn : ∀ b : Blt, bltX b ∈ bltNames
  | .len => by decide
  | .abs => by decide
  | .int => by decide
  | .str => by decide
  | .tuple => by decide
  | .list => by decide
  | .sum => by decide
  | .any => by decide
  | .all => by decide
  | .dict => by decide

/-! ### the turns of a comprehension -/
theorem drop_cons {α : Type} {l : List α} {i : Nat} (h : i < l.length) : ∃ x, l[i]? = some x ∧ l.drop i = x :: l.drop (i + 1) := ⟨l[i], List.getElem?_eq_getElem h, List.drop_eq_getElem_cons h⟩
section
variable {P : Prog} {k : Nat} {K : PySem.W.Frag} {tg : Tg} {c : T} {elt kx vx : E} {own : List Nat}
theorem lc_of {it : I} (hown : ∀ i ∈ tgIx tg, i ∈ own) {σ : L2.St} {H : Hp} {Q : VK} (hq : TEv P k K (.lc elt tg it c own) σ H Q) : tLc (TIv P k K it) (TGv K tg) (TTv P k K c) (TEv P k K elt) own σ H Q := by
  obtain ⟨m, s, h, v, h', S, En, e, q⟩ := hq
  simp only [ev] at e
  obtain ⟨src, h1, e1, e⟩ := Res.bind_eq e
  obtain ⟨⟨⟩, h5, e2, e⟩ := Res.bind_eq e
  cases e
  refine ⟨m, s, h, src, h1, S, En, e1, fun m1 H1 J g1 S1 hJ D hD => ?_⟩
  generalize hD' : h1.length = D' at e2 q
  -- between two turns
  refine ⟨fun i n H2 => n = src.items.length - i ∧ i ≤ src.items.length ∧ ∃ m2 h2, Grow m m2 H H2 ∧ Grow m1 m2 H1 H2 ∧ StR K m2 h2 H2 ∧ m2[D']? = some D ∧
      lcL D' src (lcStep tg (wipeE s own) (evt (Rcx P k) c) (ev (Rcx P k) elt)) (src.items.drop i) h2 = .ok () h', ⟨src.items.length, by simp, Nat.zero_le _, m1 ++ [D], h1 ++ [Ob.lst []], g1.trans (S1.growA hD _), S1.growA hD _, S1.alloc (o := .lst []) hD ⟨[], upd_same, .nil⟩, ?_, e2⟩, ?_⟩
  · rw [← hD', ← S1.len, List.getElem?_append_right (Nat.le_refl _)]; simp
  rintro i n H2 ⟨rfl, hi, m2, h2, g2, g12, S2, hm2, e3⟩
  by_cases hlt : i < src.items.length
  · obtain ⟨x, hx, hdr⟩ := drop_cons hlt
    rw [hdr] at e3
    unfold lcL at e3
    split at e3 <;> first | (cases e3; done) | skip
    rename_i hst
    obtain ⟨hgo, hy⟩ := hJ.go i x m2 h2 H2 g12 S2 hst hx
    obtain ⟨r, h3, e4, e5⟩ := Res.bind_eq e3
    unfold lcStep at e4
    split at e4 <;> first | (cases e4; done) | skip
    rename_i σ2 hσ2
    obtain ⟨b, h4, e6, e7⟩ := Res.bind_eq e4
    refine .inr ⟨hgo, fun H' => ∃ m2 h2, Grow m m2 H H' ∧ Grow m1 m2 H1 H' ∧ StR K m2 h2 H' ∧ m2[D']? = some D ∧ lcL D' src _ (src.items.drop (i + 1)) h2 = .ok () h', fun H' ⟨m3, h3, a1, a2, a3, a4, a5⟩ => ⟨src.items.length - (i + 1), by omega, rfl, hlt, m3, h3, a1, a2, a3, a4, a5⟩, fun x' H3 hyl => ?_⟩
    obtain ⟨g3, S3, r3⟩ := hy x' H3 hyl
    refine ⟨m2, wipeE s own, x, σ2, ((En.mono g2).mono g3).wipe own, r3, hσ2, fun τ2 En2 hw => ⟨?_, ?_⟩⟩
    · have := hw own hown
      rw [this]
      have idem : ∀ (vs ws : List Nat) (σ : L2.St), (∀ i ∈ ws, i ∈ vs) → L2.wipe (L2.wipe σ ws) vs = L2.wipe σ vs := by
        intro vs ws
        induction ws with
        | nil => intro σ _; rfl
        | cons w r ih =>
          intro σ hv
          show L2.wipe ((L2.wipe σ r).set w none) vs = L2.wipe σ vs
          rw [wipe_set w none vs _ (hv w List.mem_cons_self)]
          exact ih σ fun j hj => hv j (List.mem_cons_of_mem _ hj)
      exact idem own own σ fun _ h => h
    refine ⟨m2, σ2, h2, b, h4, S3, En2, e6, fun m4 H4 g4 S4 => ?_⟩
    cases b with
    | false =>
      cases e7
      exact ⟨m4, h3, (g2.trans g3).trans g4, (g12.trans g3).trans g4, S4, g4.pre _ _ hm2, e5⟩
    | true =>
      obtain ⟨w, h5', e8, e9⟩ := Res.bind_eq e7
      cases e9
      refine ⟨m4, σ2, h4, w, _, S4, En2.mono g4, e8, fun m5 H5 y g5 S5 r5 => ?_⟩
      simp only at e5
      split at e5 <;> first | (cases e5; done) | skip
      rename_i acc hacc
      split at e5 <;> first | (cases e5; done) | skip
      rename_i hz
      have hm5 : m5[D']? = some D := g5.pre _ _ (g4.pre _ _ hm2)
      obtain ⟨ys, ga, ra⟩ := S5.lst hacc hm5
      have gw : Grow m5 m5 H5 (upd H5 D (.lst (ys ++ [y]))) := Grow.write ga (fun _ z => nomatch z) (fun _ _ z => nomatch z)
      obtain ⟨S6, _⟩ := S5.write (o' := .lst (acc ++ [w])) (u' := .lst (ys ++ [y])) hacc hm5 rfl ⟨_, upd_same, (ra.mono gw).snoc (r5.mono gw)⟩
      exact ⟨ys, ga, by rw [← size_eq, ← ra.length]; exact hz, m5, _, (((g2.trans g3).trans g4).trans g5).trans gw, (((g12.trans g3).trans g4).trans g5).trans gw, S6, hm5, e5⟩
  · have hi' : i = src.items.length := by omega
    subst hi'
    rw [List.drop_length] at e3
    unfold lcL at e3
    split at e3 <;> first | (cases e3; done) | skip
    rename_i hst
    cases e3
    exact .inl ⟨hJ.stop m2 h' H2 g12 S2 hst, q m2 H2 _ g2 S2 (.ref hm2)⟩
theorem dc_of {it : I} (hown : ∀ i ∈ tgIx tg, i ∈ own) {σ : L2.St} {H : Hp} {Q : VK} (hq : TEv P k K (.dc kx vx tg it c own) σ H Q) : tDc (TIv P k K it) (TGv K tg) (TTv P k K c) (TEv P k K kx) (TEv P k K vx) own σ H Q := by
  obtain ⟨m, s, h, v, h', S, En, e, q⟩ := hq
  simp only [ev] at e
  obtain ⟨src, h1, e1, e⟩ := Res.bind_eq e
  obtain ⟨⟨⟩, h5, e2, e⟩ := Res.bind_eq e
  cases e
  refine ⟨m, s, h, src, h1, S, En, e1, fun m1 H1 J g1 S1 hJ D hD => ?_⟩
  generalize hD' : h1.length = D' at e2 q
  refine ⟨fun i n H2 => n = src.items.length - i ∧ i ≤ src.items.length ∧ ∃ m2 h2, Grow m m2 H H2 ∧ Grow m1 m2 H1 H2 ∧ StR K m2 h2 H2 ∧ m2[D']? = some D ∧
      dcL D' src (dcStep tg (wipeE s own) (evt (Rcx P k) c) (ev (Rcx P k) kx) (ev (Rcx P k) vx)) (src.items.drop i) h2 = .ok () h', ⟨src.items.length, by simp, Nat.zero_le _, m1 ++ [D], h1 ++ [Ob.dic []], g1.trans (S1.growA hD _), S1.growA hD _, S1.alloc (o := .dic []) hD ⟨[], upd_same, .nil⟩, ?_, e2⟩, ?_⟩
  · rw [← hD', ← S1.len, List.getElem?_append_right (Nat.le_refl _)]; simp
  rintro i n H2 ⟨rfl, hi, m2, h2, g2, g12, S2, hm2, e3⟩
  by_cases hlt : i < src.items.length
  · obtain ⟨x, hx, hdr⟩ := drop_cons hlt
    rw [hdr] at e3
    unfold dcL at e3
    split at e3 <;> first | (cases e3; done) | skip
    rename_i hst
    obtain ⟨hgo, hy⟩ := hJ.go i x m2 h2 H2 g12 S2 hst hx
    obtain ⟨r, h3, e4, e5⟩ := Res.bind_eq e3
    unfold dcStep at e4
    split at e4 <;> first | (cases e4; done) | skip
    rename_i σ2 hσ2
    obtain ⟨b, h4, e6, e7⟩ := Res.bind_eq e4
    refine .inr ⟨hgo, fun H' => ∃ m2 h2, Grow m m2 H H' ∧ Grow m1 m2 H1 H' ∧ StR K m2 h2 H' ∧ m2[D']? = some D ∧ dcL D' src _ (src.items.drop (i + 1)) h2 = .ok () h', fun H' ⟨m3, h3, a1, a2, a3, a4, a5⟩ => ⟨src.items.length - (i + 1), by omega, rfl, hlt, m3, h3, a1, a2, a3, a4, a5⟩, fun x' H3 hyl => ?_⟩
    obtain ⟨g3, S3, r3⟩ := hy x' H3 hyl
    refine ⟨m2, wipeE s own, x, σ2, ((En.mono g2).mono g3).wipe own, r3, hσ2, fun τ2 En2 hw => ⟨?_, ?_⟩⟩
    · have := hw own hown
      rw [this]
      have idem : ∀ (vs ws : List Nat) (σ : L2.St), (∀ i ∈ ws, i ∈ vs) → L2.wipe (L2.wipe σ ws) vs = L2.wipe σ vs := by
        intro vs ws
        induction ws with
        | nil => intro σ _; rfl
        | cons w r ih =>
          intro σ hv
          show L2.wipe ((L2.wipe σ r).set w none) vs = L2.wipe σ vs
          rw [wipe_set w none vs _ (hv w List.mem_cons_self)]
          exact ih σ fun j hj => hv j (List.mem_cons_of_mem _ hj)
      exact idem own own σ fun _ h => h
    refine ⟨m2, σ2, h2, b, h4, S3, En2, e6, fun m4 H4 g4 S4 => ?_⟩
    cases b with
    | false =>
      cases e7
      exact ⟨m4, h3, (g2.trans g3).trans g4, (g12.trans g3).trans g4, S4, g4.pre _ _ hm2, e5⟩
    | true =>
      obtain ⟨kv, h5', e8, e9⟩ := Res.bind_eq e7
      obtain ⟨vv, h6', e10, e11⟩ := Res.bind_eq e9
      cases e11
      refine ⟨m4, σ2, h4, kv, h5', S4, En2.mono g4, e8, fun m5 H5 y g5 S5 r5 => ?_⟩
      refine ⟨m5, σ2, h5', vv, _, S5, (En2.mono g4).mono g5, e10, fun m6 H6 z g6 S6 r6 => ?_⟩
      split at e5
      · cases ‹some _ = none›
      · rename_i key w0 hk
        cases hk
        split at e5 <;> first | (cases e5; done) | skip
        rename_i acc hacc
        split at e5 <;> first | (cases e5; done) | skip
        rename_i hz
        have hm6 : m6[D']? = some D := g6.pre _ _ (g5.pre _ _ (g4.pre _ _ hm2))
        obtain ⟨ys, ga, ra⟩ := S6.dic hacc hm6
        have r5' := r5.mono g6
        cases r5'
        have gw : Grow m6 m6 H6 (upd H6 D (.dK (putK ys (.inr key) z))) := Grow.write ga (fun _ z => nomatch z) (fun _ _ z => nomatch z)
        obtain ⟨S7, _⟩ := S6.write (o' := .dic (putD acc (.str key) vv)) (u' := .dK (putK ys (.inr key) z)) hacc hm6 rfl ⟨_, upd_same, (ra.mono gw).put (.str key) (r6.mono gw)⟩
        exact ⟨ys, .inr key, rfl, ga, by rw [← size_eq, ← ra.length]; exact hz, m6, _, ((((g2.trans g3).trans g4).trans g5).trans g6).trans gw, ((((g12.trans g3).trans g4).trans g5).trans g6).trans gw, S7, hm6, e5⟩
      · cases e5
  · have hi' : i = src.items.length := by omega
    subst hi'
    rw [List.drop_length] at e3
    unfold dcL at e3
    split at e3 <;> first | (cases e3; done) | skip
    rename_i hst
    cases e3
    exact .inl ⟨hJ.stop m2 h' H2 g12 S2 hst, q m2 H2 _ g2 S2 (.ref hm2)⟩
end
end Ev
/-! EvSnd3: the expressions' soundness, by one induction. -/
namespace Ev
open PySem PySem.Spec PyProof.Rows L2

section
variable {P : Prog} {k : Nat} {K : PySem.W.Frag}
theorem TEv.mk {m : List Addr} {s : En} {h h' : Hpe} {v : Val} {c : E} {σ : L2.St} {H : Hp} {Q : VK} (S : StR K m h H) (En : EnR K m H s σ) (e : ev (Rcx P k) c s h = .ok v h') (q : Post K m H h' v Q) : TEv P k K c σ H Q := ⟨m, s, h, v, h', S, En, e, q⟩

/-! ### walked things -/
theorem itR_list {m : List Addr} {H : Hp} {n : Nat} {a : Addr} {xs : List Val} (e : m[n]? = some a) : ItR K m H ⟨xs, .lst n⟩ (Itl K a) where
  go := fun i v m' h' H' g S st hv => by
    have hl : lstAt h' n = some xs := by simpa [Src.stays] using st
    obtain ⟨ys, h1, r1⟩ := S.list hl (g.pre _ _ e)
    obtain ⟨y, h2, r2⟩ := r1.get hv
    refine ⟨⟨ys, y, h1, h2⟩, fun x H'' hy => ?_⟩
    obtain ⟨rfl, hy⟩ := hy
    have := hy ys h1
    rw [h2] at this; cases this
    exact ⟨.refl _ _, S, r2⟩
  stop := fun m' h' H' g S st => by
    have hl : lstAt h' n = some xs := by simpa [Src.stays] using st
    obtain ⟨ys, h1, r1⟩ := S.list hl (g.pre _ _ e)
    exact ⟨ys, h1, Nat.le_of_eq r1.length.symm⟩
theorem sqT_inj {H : Hp} {a : Addr} {xs ys : List V} (h : SqT K H a xs) (hy : ∀ zs, SqT K H a zs → ∀ (i : Nat) (x : V), zs[i]? = some x → ys[i]? = some x) : True := trivial
theorem itR_tup {m : List Addr} {H : Hp} {a : Addr} {xs : List Val} {ys : List V} (h1 : SqT K H a ys) (r1 : Reps K m H xs ys) : ItR K m H ⟨xs, .no⟩ (Itt K a) where
  go := fun i v m' h' H' g S st hv => by
    obtain ⟨y, h2, r2⟩ := (r1.mono g).get hv
    refine ⟨⟨ys, y, g.sqT h1, h2⟩, fun x H'' hy => ?_⟩
    obtain ⟨rfl, hy⟩ := hy
    have := hy ys (g.sqT h1)
    rw [h2] at this; cases this
    exact ⟨.refl _ _, S, r2⟩
  stop := fun m' h' H' g S st => ⟨ys, g.sqT h1, Nat.le_of_eq r1.length.symm⟩
theorem itR_range {m : List Addr} {H : Hp} (lo : Int) (n : Nat) : ItR K m H ⟨(List.range n).map fun (i : Nat) => Val.int (lo + (i : Int)), .no⟩ (Itr lo n) where
  go := fun i v m' h' H' g S st hv => by
    have hv' : i < n ∧ v = .int (lo + i) := by
      rw [List.getElem?_map] at hv
      cases q : (List.range n)[i]? with
      | none => rw [q] at hv; cases hv
      | some j =>
        rw [q] at hv
        have hj := List.getElem?_eq_some_iff.mp q
        obtain ⟨hj1, hj2⟩ := hj
        simp at hj1 hj2
        subst hj2
        cases hv
        exact ⟨hj1, rfl⟩
    obtain ⟨hi, rfl⟩ := hv'
    refine ⟨hi, fun x H'' hy => ?_⟩
    obtain ⟨rfl, rfl⟩ := hy
    exact ⟨.refl _ _, S, .int _⟩
  stop := fun m' h' H' g S st => by show n ≤ ((List.range n).map _).length; simp
theorem KRep.keys_get {m : List Addr} {H : Hp} : ∀ {kvs : List (Val × Val)} {ws : List (Key × V)} {i : Nat} {v : Val}, KRep K m H kvs ws → (kvs.map (·.1))[i]? = some v → ∃ c y, ws[i]? = some (c, y) ∧ KeyR v c
  | [], ws, i, v, r, e => by simp at e
  | p :: kvs, ws, 0, v, r, e => by
    obtain ⟨c, y, t, rfl, k', _, _⟩ := r.cons_inv
    simp at e
    subst e
    exact ⟨c, y, rfl, k'⟩
  | p :: kvs, ws, i + 1, v, r, e => by
    obtain ⟨c, y, t, rfl, k', _, rt⟩ := r.cons_inv
    obtain ⟨c', y', h1, h2⟩ := KRep.keys_get (i := i) rt (by simpa using e)
    exact ⟨c', y', by simpa using h1, h2⟩
theorem KeyR.rep_of {m : List Addr} {H : Hp} {v : Val} {c : Key} (h : KeyR v c) : Rep K m H v (kV c) := by
  cases h with
  | str x => exact .str x
  | int x => exact .int x
theorem itR_keys {m : List Addr} {H : Hp} {n : Nat} {a : Addr} {o : Obj} {kvs : List (Val × Val)} {ws : List (Key × V)} (e : m[n]? = some a) (eh : H a = some (.frz o (.dK ws))) (r : KRep K m H kvs ws) :
    ItR K m H ⟨kvs.map (·.1), .dic n kvs⟩ (Itk a o ws) where
  go := fun i v m' h' H' g S st hv => by
    obtain ⟨c, y, h1, h2⟩ := r.keys_get hv
    refine ⟨⟨g.frzs _ _ _ eh, (List.getElem?_eq_some_iff.mp h1).1⟩, fun x H'' hy => ?_⟩
    obtain ⟨rfl, c', y', h3, rfl⟩ := hy
    rw [h1] at h3; cases h3
    exact ⟨.refl _ _, S, h2.rep_of⟩
  stop := fun m' h' H' g S st => ⟨g.frzs _ _ _ eh, by rw [← r.length]; simp⟩
end

section
variable {P : Prog} {k : Nat} {N : List Str}
theorem conE {c : Con} {kc : Const} {j : Nat} {pos : Pos} {X : Cx} (h : conOk c kc = true) : PE X (.Constant kc j pos) (TEv P k X.K (.con c)) := by
  cases c with
  | non => cases kc <;> first | cases h | skip
           refine pe_non.imp fun σ H Q hq => ?_
           obtain ⟨m, s, h, v, h', S, En, e, q⟩ := hq
           cases e
           exact q.here S .non
  | bl b => cases kc <;> first | (simp [conOk] at h; done) | skip
            refine pe_bl.imp fun σ H Q hq => ?_
            obtain ⟨m, s, h2, v, h', S, En, e, q⟩ := hq
            cases e
            have : b = _ := eq_of_beq h
            subst this
            exact q.here S (.bl _)
  | int b => cases kc <;> first | (simp [conOk] at h; done) | skip
             refine pe_int.imp fun σ H Q hq => ?_
             obtain ⟨m, s, h2, v, h', S, En, e, q⟩ := hq
             cases e
             have : b = _ := eq_of_beq h
             subst this
             exact q.here S (.int _)
  | str b => cases kc <;> first | (simp [conOk] at h; done) | skip
             refine pe_str.imp fun σ H Q hq => ?_
             obtain ⟨m, s, h2, v, h', S, En, e, q⟩ := hq
             cases e
             have : b = _ := of_decide_eq_true h
             subst this
             exact q.here S (.str _)
theorem bltE {b : Blt} {a : E} {x : Expr} {sc : Scope} {X : Cx} {p pos : Pos} {g : Str} (hb : bltX b = g) (G : Good P k sc N X) (hg : gl sc g = true) (hn : nst x = true) (ha : PE X x (TEv P k X.K a)) : PE X (.Call (.Name g p) [x] [] pos) (TEv P k X.K (.blt b a)) := by
  subst hb
  obtain ⟨g1, g2, g3⟩ := G.gl hg
  have hm := G.blt _ (bltIn b)
  have st : starEach [x] X.env = (false, eval x X.env) :: starEach [] X.env := starEach_cons hn
  have hv := bltBoot b
  have hc := bltR_ok (X := X) G.calm b
  have fin : PE X (.Call (.Name (bltX b) p) [x] [] pos) (tCB (bltR X.K b) (tCons (TEv P k X.K a) tNil)) := by
    have pa : PA X [x] (tCons (TEv P k X.K a) tNil) := pa_cons ha pa_nil st
    cases b with
    | len => exact pe_callB hc g1 hm hv pa g3 g2 st rfl
    | abs => exact pe_callB hc g1 hm hv pa g3 g2 st rfl
    | sum => exact pe_callB hc g1 hm hv pa g3 g2 st rfl
    | any => exact pe_callB hc g1 hm hv pa g3 g2 st rfl
    | all => exact pe_callB hc g1 hm hv pa g3 g2 st rfl
    | int => exact pe_callTy hc g1 hm hv pa g3 g2 st rfl
    | str => exact pe_callTy hc g1 hm hv pa g3 g2 st rfl
    | tuple => exact pe_callTy hc g1 hm hv pa g3 g2 st rfl
    | list => exact pe_callTy hc g1 hm hv pa g3 g2 st rfl
    | dict => exact pe_callTy hc g1 hm hv pa g3 g2 st rfl
  refine fin.imp fun σ H Q hq => ?_
  obtain ⟨m, s, h, v, h', S, En, e, q⟩ := hq
  simp only [ev] at e
  obtain ⟨y, h1, e1, e2⟩ := Res.bind_eq e
  exact .mk S En e1 fun m1 H1 z g1 S1 r1 => blt_of e2 S1 r1 (q.up g1)
theorem isiE {a : E} {t : Ty} {x : Expr} {sc : Scope} {X : Cx} {p p2 pos : Pos} {g ty : Str} (hb : g = "isinstance") (ht : tyX t = ty) (G : Good P k sc N X) (hg : gl sc g = true) (hgt : gl sc ty = true) (hn : nst x = true) (ha : PE X x (TEv P k X.K a)) :
    PE X (.Call (.Name g p) [x, .Name ty p2] [] pos) (TEv P k X.K (.isi a t)) := by
  subst hb ht
  obtain ⟨g1, g2, g3⟩ := G.gl hg
  obtain ⟨t1, t2, t3⟩ := G.gl hgt
  have st : starEach [x, .Name (tyX t) p2] X.env = (false, eval x X.env) :: starEach [.Name (tyX t) p2] X.env := starEach_cons hn
  refine (pe_callB call_isi g1 (G.blt _ (by decide)) (by decide +kernel) (pa_cons ha (pa_cons (pe_bltn (v := .ty (tyS t)) t1 (G.blt _ (tyIn t)) (tyBoot t) rfl t3 t2) pa_nil) st) g3 g2 st rfl).imp fun σ H Q hq => ?_
  obtain ⟨m, s, h, v, h', S, En, e, q⟩ := hq
  simp only [ev] at e
  obtain ⟨y, h1, e1, e2⟩ := Res.bind_eq e
  obtain ⟨r, h2, e3, e4⟩ := Res.bind_eq e2
  cases e4
  refine .mk S En e1 fun m1 H1 z g1 S1 r1 => ?_
  obtain ⟨rfl, tv, ty, kit⟩ := isi_of e3 S1 r1
  exact ⟨z, .ty (tyS t), tv, .type (tyS t), r, rfl, .ty _, ty, kit, (q.up g1).here S1 (.bl _)⟩
/-- the arguments' rules, one by one -/
inductive AllPE (P : Prog) (k : Nat) (X : Cx) : Es → List Expr → Prop
  | nil : AllPE P k X .nil []
  | cons {e : E} {es : Es} {x : Expr} {r : List Expr} : nst x = true → PE X x (TEv P k X.K e) → AllPE P k X es r → AllPE P k X (.cons e es) (x :: r)
theorem AllPE.pa {X : Cx} : ∀ {es : Es} {xs : List Expr}, AllPE P k X es xs → PA X xs (TAv P k X.K es)
  | _, _, .nil => pa_nil.imp fun σ H Q hq => by
    obtain ⟨m, s, h, vs, h', S, En, e, q⟩ := hq
    cases e
    exact q m H [] (.refl _ _) S .nil
  | _, _, .cons n a r => (pa_cons a r.pa (starEach_cons n)).imp fun σ H Q hq => by
    obtain ⟨m, s, h, vs, h', S, En, e, q⟩ := hq
    simp only [evs] at e
    obtain ⟨y, h1, e1, e2⟩ := Res.bind_eq e
    obtain ⟨ys, h2, e3, e4⟩ := Res.bind_eq e2
    cases e4
    exact .mk S En e1 fun m1 H1 z g1 S1 r1 => ⟨m1, s, h1, ys, _, S1, En.mono g1, e3, fun m2 H2 zs g2 S2 r2 => q m2 H2 _ (g1.trans g2) S2 (.cons (r1.mono g2) r2)⟩
theorem callE {f g : Str} {es : Es} {xs : List Expr} {sc : Scope} {X : Cx} {p pos : Pos} (hf : f = g) (G : Good P k sc N X) (hg : gl sc g = true) (hs : chkEs N es sc xs = true) (ha : PA X xs (TAv P k X.K es)) : PE X (.Call (.Name g p) xs [] pos) (TEv P k X.K (.call f es)) := by
  subst hf
  obtain ⟨g1, g2, g3⟩ := G.gl hg
  cases hF : P.fn f with
  | none =>
    refine ⟨fun pins s σ H Q I hq => ?_⟩
    obtain ⟨m, s, h, v, h', S, En, e, q⟩ := hq
    simp only [ev] at e
    obtain ⟨vs, h1, e1, e2⟩ := Res.bind_eq e
    exfalso
    have e2 : call P k f vs h1 = .ok v h' := e2
    cases k with
    | zero => cases e2
    | succ n => rw [call_succ] at e2; simp only [callBy, hF] at e2; cases e2
  | some F =>
    obtain ⟨a, fd, ps, m1, m2, m3, m4⟩ := G.fns f F hF
    have rd : ∀ σ H Q, TEv P k X.K (.call f es) σ H Q → TAv P k X.K es σ H fun vs H1 => spE P k X.K f (vs ++ []) H1 Q E0 := fun σ H Q hq => by
      obtain ⟨m, s, h, v, h', S, En, e, q⟩ := hq
      simp only [ev] at e
      obtain ⟨vs, h1, e1, e2⟩ := Res.bind_eq e
      refine ⟨m, s, h, vs, h1, S, En, e1, fun m' H' ys g' S' r' => ?_⟩
      show spE P k X.K f (ys ++ []) H' Q E0
      rw [List.append_nil]
      exact ⟨m', h1, vs, v, h', S', r', e2, q.up g'⟩
    cases xs with
    | nil =>
      refine (pe_call0 m4 G.room g1 m1 m2 m3 .nil pass0 g2).imp fun σ H Q hq => ?_
      obtain ⟨m, s, h, vs, h1, S, En, e1, q⟩ := rd σ H Q hq
      cases es with
      | cons _ _ => simp [chkEs] at hs
      | nil =>
        cases e1
        exact q m H [] (.refl _ _) S .nil
    | cons x xr =>
      obtain ⟨n1, e', es', rfl, c1, c2⟩ := nst_of hs
      exact (pe_call m4 G.room g1 m1 m2 m3 .nil pass0 ha g2 (starEach_cons n1) (any_star c2)).imp rd
theorem mthE {mt : Mth} {o : E} {es : Es} {ob : Expr} {nm : Str} {ap p : Pos} {xs : List Expr} {sc : Scope} {X : Cx} (hn : mthX mt = nm) (hb : baseOk ob = true) (hp : posEnd ap p = true) (G : Good P k sc N X) (ho : PE X ob (TEv P k X.K o)) (hs : chkEs N es sc xs = true)
    (hl : xs.length ≤ 2) (hA : AllPE P k X es xs) : PE X (.Call (.Attribute ob nm ap) xs [] p) (TEv P k X.K (.mth mt o es)) := by
  subst hn
  have ha := hA.pa
  have few : ∀ {e : Expr} {r : List Expr}, xs = e :: r → ((backTo p (starEach (e :: r) X.env)).all (fun x => !x.1) && (backToKw p (keywordEach [] X.env)).all (fun x => x.1.isSome)
      && decide ((e :: r).length + ([] : List Keyword).length + (if ([] : List Keyword).isEmpty then 0 else 1) < 30)) = true := by
    intro e r hx
    subst hx
    obtain ⟨n1, e', es', rfl, c1, c2⟩ := nst_of hs
    rw [starEach_cons n1]
    cases r with
    | nil => rfl
    | cons e2 r2 =>
      obtain ⟨n2, e'', es'', rfl, c3, c4⟩ := nst_of c2
      rw [starEach_cons n2]
      cases r2 with
      | nil => rfl
      | cons e3 r3 => simp at hl
  -- the receiver, then the arguments
  have split : ∀ σ H Q, TEv P k X.K (.mth mt o es) σ H Q → ∃ m s h y h1 vs h2 v h', StR X.K m h H ∧ EnR X.K m H s σ ∧ ev (Rcx P k) o s h = .ok y h1 ∧ recvOk mt y h1 = true ∧ evs (Rcx P k) es s h1 = .ok vs h2 ∧ method mt y vs h2 = .ok v h' ∧ Post X.K m H h' v Q := fun σ H Q hq => by
    obtain ⟨m, s, h, v, h', S, En, e, q⟩ := hq
    simp only [ev] at e
    obtain ⟨y, h1, e1, e2⟩ := Res.bind_eq e
    split at e2 <;> first | (cases e2; done) | skip
    rename_i hr
    obtain ⟨vs, h2, e3, e4⟩ := Res.bind_eq e2
    exact ⟨m, s, h, y, h1, vs, h2, v, h', S, En, e1, hr, e3, e4, q⟩
  by_cases hg : mt = .get
  · subst hg
    -- d.get(k, x)
    cases xs with
    | nil =>
      refine ⟨fun pins s σ H Q I hq => ?_⟩
      obtain ⟨m, s, h, y, h1, vs, h2, v, h', S, En, e1, hr, e3, e4, q⟩ := split σ H Q hq
      exfalso
      cases es with
      | cons _ _ => simp [chkEs] at hs
      | nil => cases e3; cases y <;> cases e4
    | cons x r =>
      obtain ⟨n1, e', es', rfl, c1, c2⟩ := nst_of hs
      obtain ⟨px, pr⟩ : PE X x (TEv P k X.K e') ∧ AllPE P k X es' r := by cases hA with | cons _ a b => exact ⟨a, b⟩
      cases r with
      | nil =>
        cases es' with
        | cons _ _ => simp [chkEs] at c2
        | nil =>
          refine (pe_dget1 (by have := G.units; omega) ho px ⟨base_of hb, few rfl, hp, by rw [starEach_cons n1]; rfl⟩).imp fun σ H Q hq => ?_
          obtain ⟨m, s, h, y, h1, vs, h2, v, h', S, En, e1, hr, e3, e4, q⟩ := split σ H Q hq
          simp only [evs] at e3
          obtain ⟨z, h3, e5, e6⟩ := Res.bind_eq e3
          obtain ⟨w0, h5, e9, e10⟩ := Res.bind_eq e6
          cases e9
          cases e10
          refine .mk S En e1 fun m1 H1 x1 g1 S1 r1 => ?_
          cases r1 with
          | @ref n a ea =>
            simp only [recvOk] at hr
            obtain ⟨kvs, hk⟩ := Option.isSome_iff_exists.mp hr
            obtain ⟨ws, gd, _⟩ := S1.dict hk ea
            refine ⟨a, rfl, .inl ⟨ws, gd⟩, .mk S1 (En.mono g1) e5 fun m2 H2 x2 g2 S2 r2 => ?_⟩
            cases r2 with
            | str key =>
              simp only [method] at e4
              split at e4
              · rename_i kvs' hk'
                cases e4
                obtain ⟨ws', gd', rk⟩ := S2.dict hk' (g2.pre _ _ ea)
                obtain ⟨l1, l2⟩ := rk.look (KeyR.str key)
                refine ⟨valV ws' (.inr key), .inl ⟨ws', .inr key, gd', rfl, rfl⟩, ?_⟩
                have q3 := (q.up g1).up g2
                cases hlk : lookD kvs' (.str key) with
                | none =>
                  rw [hlk] at q3
                  rw [l2 hlk]
                  exact q3.here S2 .non
                | some u =>
                  rw [hlk] at q3
                  obtain ⟨z', h5, h6⟩ := l1 u hlk
                  rw [h5]
                  exact q3.here S2 h6
              · cases e4
            | _ => cases e4
          | _ => simp [recvOk] at hr
      | cons x2 r2 =>
        obtain ⟨n2, e'', es'', rfl, c3, c4⟩ := nst_of c2
        cases r2 with
        | cons _ _ => simp at hl
        | nil =>
          cases es'' with
          | cons _ _ => simp [chkEs] at c4
          | nil =>
            have px2 : PE X x2 (TEv P k X.K e'') := by cases pr with | cons _ a b => exact a
            refine (pe_dget2 (by have := G.units; omega) ho px px2 ⟨base_of hb, few rfl, hp, by rw [starEach_cons n1, starEach_cons n2]; rfl⟩).imp fun σ H Q hq => ?_
            obtain ⟨m, s, h, y, h1, vs, h2, v, h', S, En, e1, hr, e3, e4, q⟩ := split σ H Q hq
            simp only [evs] at e3
            obtain ⟨z, h3, e5, e6⟩ := Res.bind_eq e3
            obtain ⟨zs, h4, e7, e8⟩ := Res.bind_eq e6
            obtain ⟨w, h5, e9, e10⟩ := Res.bind_eq e7
            cases e10
            cases e8
            refine .mk S En e1 fun m1 H1 x1 g1 S1 r1 => ?_
            cases r1 with
            | @ref n a ea =>
              simp only [recvOk] at hr
              obtain ⟨kvs, hk⟩ := Option.isSome_iff_exists.mp hr
              obtain ⟨ws, gd, _⟩ := S1.dict hk ea
              refine ⟨a, rfl, .inl ⟨ws, gd⟩, .mk S1 (En.mono g1) e5 fun m2 H2 x2 g2 S2 r2 => .mk S2 ((En.mono g1).mono g2) e9 fun m3 H3 x3 g3 S3 r3 => ?_⟩
              cases r2 with
              | str key =>
                simp only [method] at e4
                split at e4
                · rename_i kvs' hk'
                  cases e4
                  obtain ⟨ws', gd', rk⟩ := S3.dict hk' (g3.pre _ _ (g2.pre _ _ ea))
                  obtain ⟨l1, l2⟩ := rk.look (KeyR.str key)
                  refine ⟨valV ws' (.inr key), .inl ⟨ws', .inr key, gd', rfl, rfl⟩, ?_⟩
                  have q3 := ((q.up g1).up g2).up g3
                  cases hlk : lookD kvs' (.str key) with
                  | none =>
                    rw [hlk] at q3
                    rw [l2 hlk]
                    exact q3.here S3 r3
                  | some u =>
                    rw [hlk] at q3
                    obtain ⟨z', h5, h6⟩ := l1 u hlk
                    rw [h5]
                    exact q3.here S3 h6
                · cases e4
              | _ => cases e4
            | _ => simp [recvOk] at hr
  by_cases hj : mt = .join
  · subst hj
    cases xs with
    | nil =>
      refine ⟨fun pins s σ H Q I hq => ?_⟩
      obtain ⟨m, s, h, y, h1, vs, h2, v, h', S, En, e1, hr, e3, e4, q⟩ := split σ H Q hq
      exfalso
      cases es with
      | cons _ _ => simp [chkEs] at hs
      | nil => cases e3; cases y <;> cases e4
    | cons x r =>
      obtain ⟨n1, e', es', rfl, c1, c2⟩ := nst_of hs
      refine (pe_bm PySem.F.plainAttrs_str PySem.F.slot_str_join PySem.F.type_str_join mt_join ho ha (base_of hb) (few rfl) hp (starEach_cons n1) (any_star c2)).imp fun σ H Q hq => ?_
      obtain ⟨m, s, h, y, h1, vs, h2, v, h', S, En, e1, hr, e3, e4, q⟩ := split σ H Q hq
      refine .mk S En e1 fun m1 H1 x1 g1 S1 r1 => ?_
      cases r1 with
      | str z =>
        refine ⟨rfl, m1, s, h1, vs, h2, S1, En.mono g1, e3, fun m2 H2 ys g2 S2 r2 => ?_⟩
        rcases vs with _ | ⟨w, _ | ⟨w2, wr⟩⟩
        · cases e4
        · obtain ⟨y2, rfl, rw1⟩ := r2.one
          cases rw1 with
          | @ref n a ea =>
            simp only [method] at e4
            split at e4
            · rename_i xs' hx
              split at e4
              · rename_i hz
                cases e4
                obtain ⟨us, h5, h6⟩ := Option.bind_eq_some_iff.mp hx
                obtain ⟨zs, g5, r5⟩ := S2.list h5 ea
                rw [reps_strs r5 h6] at g5
                exact ⟨z, a, xs', rfl, rfl, .inl g5, hz, by rw [show Txt.join z xs' = Str.join z xs' from PySem.StrLaws.glued_eq_join z xs']; exact ((q.up g1).up g2).here S2 (.str _)⟩
              · cases e4
            · cases e4
          | _ => cases e4
        · cases w <;> cases e4
      | _ => simp [recvOk] at hr
  · obtain ⟨sl, ty⟩ := mtL_slot mt hg hj
    have rt := mtRL_ok (X := X) mt hg hj
    cases xs with
    | nil =>
      refine (pe_bm0 PySem.F.plainAttrs_list sl ty rt ho (base_of hb) hp).imp fun σ H Q hq => ?_
      obtain ⟨m, s, h, y, h1, vs, h2, v, h', S, En, e1, hr, e3, e4, q⟩ := split σ H Q hq
      cases es with
      | cons _ _ => simp [chkEs] at hs
      | nil =>
        cases e3
        exact .mk S En e1 fun m1 H1 x1 g1 S1 r1 => ⟨recv_list ⟨hg, hj⟩ hr S1 r1, mtL_of hg hj e4 S1 r1 .nil (q.up g1)⟩
    | cons x r =>
      obtain ⟨n1, e', es', rfl, c1, c2⟩ := nst_of hs
      refine (pe_bm PySem.F.plainAttrs_list sl ty rt ho ha (base_of hb) (few rfl) hp (starEach_cons n1) (any_star c2)).imp fun σ H Q hq => ?_
      obtain ⟨m, s, h, y, h1, vs, h2, v, h', S, En, e1, hr, e3, e4, q⟩ := split σ H Q hq
      exact .mk S En e1 fun m1 H1 x1 g1 S1 r1 => ⟨recv_list ⟨hg, hj⟩ hr S1 r1, m1, s, h1, vs, h2, S1, En.mono g1, e3, fun m2 H2 ys g2 S2 r2 => mtL_of hg hj e4 S2 (r1.mono g2) r2 ((q.up g1).up g2)⟩
/-- d.setdefault(k, v) -/
theorem setdE {d kx vx : E} {ob x y : Expr} {ap p : Pos} {sc : Scope} {X : Cx} (G : Good P k sc N X) (hb : baseOk ob = true) (hp : posEnd ap p = true) (n1 : nst x = true) (n2 : nst y = true)
    (hd : PE X ob (TEv P k X.K d)) (hk : PE X x (TEv P k X.K kx)) (hv : PE X y (TEv P k X.K vx)) : PE X (.Call (.Attribute ob "setdefault" ap) [x, y] [] p) (TEv P k X.K (.setd d kx vx)) := by
  refine (pe_dsetd hd hk hv ⟨base_of hb, by rw [starEach_cons n1, starEach_cons n2]; rfl, hp, by rw [starEach_cons n1, starEach_cons n2]; rfl⟩).imp fun σ H Q hq => ?_
  obtain ⟨m, s, h, v, h', S, En, e, q⟩ := hq
  simp only [ev] at e
  obtain ⟨z0, h1, e1, e2⟩ := Res.bind_eq e
  cases z0 with
  | ref n =>
    simp only at e2
    split at e2 <;> first | (cases e2; done) | skip
    rename_i hs
    obtain ⟨z1, h2, e3, e4⟩ := Res.bind_eq e2
    obtain ⟨z2, h3, e5, e6⟩ := Res.bind_eq e4
    refine .mk S En e1 fun m1 H1 x1 g1 S1 r1 => ?_
    obtain ⟨a, rfl, ea⟩ := r1.ref_inv
    obtain ⟨kvs, hkv⟩ := Option.isSome_iff_exists.mp hs
    obtain ⟨ws, gd, _⟩ := S1.dict hkv ea
    refine ⟨a, rfl, .inl ⟨ws, gd⟩, .mk S1 (En.mono g1) e3 fun m2 H2 x2 g2 S2 r2 => .mk S2 ((En.mono g1).mono g2) e5 fun m3 H3 x3 g3 S3 r3 => ?_⟩
    have ea3 := g3.pre _ _ (g2.pre _ _ ea)
    have q3 := ((q.up g1).up g2).up g3
    unfold setDef at e6
    split at e6 <;> first | (cases e6; done) | skip
    rename_i key
    split at e6 <;> first | (cases e6; done) | skip
    rename_i kvs' hk'
    obtain ⟨ws', gd', rk⟩ := S3.dic hk' ea3
    obtain ⟨l1, l2⟩ := rk.look (KeyR.str key)
    split at e6 <;> first | (cases e6; done) | skip
    rename_i hz
    have hz' : ws'.length < sizeLine := by rw [← rk.length]; exact hz
    cases r2 with
    | str key =>
      split at e6
      · rename_i u hl
        cases e6
        obtain ⟨w, h5, h6⟩ := l1 _ hl
        refine ⟨ws', .inr key, gd', rfl, hz', fun v hv => ?_, fun hn => ?_⟩
        · rw [h5] at hv; cases hv
          exact q3.here S3 h6
        · rw [h5] at hn; cases hn
      · rename_i hl
        cases e6
        refine ⟨ws', .inr key, gd', rfl, hz', fun v hv => ?_, fun hn => ?_⟩
        · rw [l2 hl] at hv; cases hv
        · exact q3.wrV S3 hk' ea3 rfl r3 fun g => ⟨_, upd_same, (rk.mono g).put (.str key) (r3.mono g)⟩
  | _ => cases e2
end
end Ev
/-! EvSort: sorted(xs, key=f), f an own def. -/
namespace Ev
open PySem PySem.Spec PyProof.Rows PySem.W L2

theorem Hvs.each {h : Heap} : ∀ {v : List Val} {u : List Value}, Hvs h v u → EachIs (fun u d => ∃ as, Reads h u d as) u (v.map Val.toD)
  | _, _, .nil => .nil
  | _, _, .cons a b => .cons a.reads b.each
theorem sortable_ok {ks : List Val} (h : sortable ks = true) : AllAlike (ks.map Val.toD) ∧ Sortable (ks.map Val.toD) ∧ Val.flats ks = true ∧ ∀ d ∈ ks.map Val.toD, d.depth ≤ 50 := by
  unfold sortable at h
  simp only [Bool.and_eq_true, Bool.or_eq_true] at h
  obtain ⟨⟨h1, h2⟩, h3⟩ := h
  refine ⟨fun d hd d' hd' => ?_, ?_, ?_, fun d hd => ?_⟩
  · obtain ⟨a, ha, rfl⟩ := List.mem_map.mp hd
    obtain ⟨b, hb, rfl⟩ := List.mem_map.mp hd'
    exact List.all_eq_true.mp (List.all_eq_true.mp h1 a ha) b hb
  · rcases h3 with h3 | h3
    · refine .inl fun d hd => ?_
      obtain ⟨a, ha, rfl⟩ := List.mem_map.mp hd
      have := List.all_eq_true.mp h3 a ha
      cases a with
      | tup xs => cases xs with
        | nil => cases this
        | cons x r => exact ⟨x.toD, Val.toDs r, by rw [Val.toD, Val.toDs]⟩
      | _ => cases this
    · refine .inr fun d hd => ?_
      obtain ⟨a, ha, rfl⟩ := List.mem_map.mp hd
      have := List.all_eq_true.mp h3 a ha
      have hf : a.flat = true := by
        have q := List.all_eq_true.mp h2 a ha
        rw [Bool.and_eq_true] at q
        exact q.1
      cases a with
      | tup xs => cases this
      | non => cases this
      | ref n => cases hf
      | _ => exact ⟨(fun z => nomatch z), (fun _ z => nomatch z)⟩
  · have : ∀ ks : List Val, ks.all (fun a => a.flat && decide (a.dep ≤ 50)) = true → Val.flats ks = true := by
      intro ks
      induction ks with
      | nil => intro _; rfl
      | cons x r ih =>
        intro q
        have q' : (x.flat && decide (x.dep ≤ 50)) = true ∧ r.all (fun a => a.flat && decide (a.dep ≤ 50)) = true := by simpa using q
        rw [Bool.and_eq_true] at q'
        rw [Val.flats, q'.1.1, ih q'.2]
        rfl
    exact this ks h2
  · obtain ⟨a, ha, rfl⟩ := List.mem_map.mp hd
    have q := List.all_eq_true.mp h2 a ha
    rw [Bool.and_eq_true] at q
    rw [toD_depth]
    exact of_decide_eq_true q.2
/-- items with their values, sorted by the keys -/
theorem sort_reps {K : PySem.W.Frag} {m : List Addr} {H : Hp} {xs ks : List Val} {ys : List V} (hl : ks.length = xs.length) (r : Reps K m H xs ys) {us : List Value} (rv : Vals ys us) :
    ∃ zs : List V, Reps K m H (sortBy xs ks) zs ∧ ∀ out : List Value, (∀ R : Value → (Val × Val × V) → Prop, EachIs R us (ks.zip (xs.zip ys)) → EachIs R out ((ks.zip (xs.zip ys)).mergeSort (dataLe false fun t => t.1.toD))) → Vals zs out := by
  have hT : ∀ t ∈ ks.zip (xs.zip ys), Rep K m H t.2.1 t.2.2 := by
    intro t ht
    have h2 := List.of_mem_zip ht
    obtain ⟨i, hi, e⟩ := List.mem_iff_getElem.mp h2.2
    rw [List.getElem_zip] at e
    have hi1 : i < xs.length := by rw [List.length_zip] at hi; omega
    obtain ⟨y, h3, h4⟩ := r.get (List.getElem?_eq_getElem hi1)
    have hi2 : i < ys.length := by rw [← r.length]; exact hi1
    rw [List.getElem?_eq_getElem hi2] at h3
    cases h3
    rw [← e]
    exact h4
  have hS : ∀ t ∈ (ks.zip (xs.zip ys)).mergeSort (dataLe false fun t : Val × Val × V => t.1.toD), Rep K m H t.2.1 t.2.2 := fun t ht => hT t (List.mem_mergeSort.mp ht)
  refine ⟨((ks.zip (xs.zip ys)).mergeSort (dataLe false fun t : Val × Val × V => t.1.toD)).map (·.2.2), ?_, fun out hout => ?_⟩
  · have e : sortBy xs ks = ((ks.zip (xs.zip ys)).mergeSort (dataLe false fun t : Val × Val × V => t.1.toD)).map (·.2.1) := by
      unfold sortBy
      have e1 : (ks.zip (xs.zip ys)).map (fun t => (t.1, t.2.1)) = ks.zip xs := by
        have h1 := r.length
        apply List.ext_getElem
        · simp only [List.length_map, List.length_zip]; omega
        · intro i h1 h2
          simp
      rw [← e1, ← sort_maps (r := dataLe false fun t : Val × Val × V => t.1.toD) (s := dataLe false fun p : Val × Val => p.1.toD) (fun t => (t.1, t.2.1)) (fun a _ b _ => rfl), List.map_map]
      rfl
    rw [e]
    generalize (ks.zip (xs.zip ys)).mergeSort (dataLe false fun t : Val × Val × V => t.1.toD) = S at hS
    induction S with
    | nil => exact .nil
    | cons t S ih => exact .cons (hS t List.mem_cons_self) (ih fun t' h => hS t' (List.mem_cons_of_mem _ h))
  · have e0 : EachIs (fun u (t : Val × Val × V) => RelV t.2.2 u) us (ks.zip (xs.zip ys)) := by
      have h1 := r.length
      have gen : ∀ (us : List Value) (ks : List Val) (xs : List Val) (ys : List V), Vals ys us → xs.length = ys.length → ks.length = xs.length → EachIs (fun u (t : Val × Val × V) => RelV t.2.2 u) us (ks.zip (xs.zip ys)) := by
        intro us
        induction us with
        | nil => intro ks xs ys rv h1 h2; cases rv; cases xs; cases ks; exact .nil; cases h2; cases h1
        | cons u us ih =>
          intro ks xs ys rv h1 h2
          cases rv with
          | cons a b =>
            cases xs with
            | nil => cases h1
            | cons x xs =>
              cases ks with
              | nil => cases h2
              | cons kk ks => exact .cons a (ih ks xs _ b (by simpa using h1) (by simpa using h2))
      exact gen us ks xs ys rv h1 hl
    have q := hout _ e0
    generalize (ks.zip (xs.zip ys)).mergeSort (dataLe false fun t : Val × Val × V => t.1.toD) = S at q
    clear hS hT hout
    induction q with
    | nil => exact .nil
    | cons a _ ih => exact .cons a ih

/-- one turn: the key of an item -/
theorem key_call {X : Cx} {P : Prog} {j : Nat} {f : Str} {fa : Addr} {fd : FuncData} {ps : List Str} {pins : List (Addr × Obj)} {σ : L2.St} {H : Hp} {s : Shared} {m : List Addr} {h h' : Hpe} {v key : Val} {y : V} {u : Value} {Q : Value → Shared → Prop} {E : Value → Shared → Prop}
    (F : FnOk X.prog X.w X.K X.mg X.base CX0 j fa fd ps (spE P j X.K f)) (hb : Binds X.K fd ps []) (hr : Room j X.A.in1.in1) (I : Inv X pins σ H s) (S : StR X.K m h H) (rv : Rep X.K m H v y) (ru : RelV y u) (e : call P j f [v] h = .ok key h')
    (q : ∀ (kv : V) (ku : Value) (m' : List Addr) (H' : Hp) (s' : Shared), Inv X pins σ H' s' → RelV kv ku → Grow m m' H H' → StR X.K m' h' H' → Rep X.K m' H' key kv → Q ku s') :
    wpAny (model X.prog X.w) X.A.in1.in1 (PySem.call (.ref fa) [u]) Q E s := by
  have hsp : spE P j X.K f [y] H (fun kv H' => ∃ m', Grow m m' H H' ∧ StR X.K m' h' H' ∧ Rep X.K m' H' key kv) E0 := ⟨m, h, [v], key, h', S, .cons rv .nil, e, fun m' H' x g S' r => ⟨m', g, S', r⟩⟩
  have hl : ([u] ++ ([] : List Value)).length = ps.length := by rw [← F.len _ _ _ _ hsp]; rfl
  refine wpAny_call (codeAny_mono (F.run X.A.in1.in1 X.stack s H ⟨[u], []⟩ [u] [y] _ E0 hr (I.env0.in1.in1) (hb s [u] I.kIn hl) (.cons ru .nil) hsp) fun r s' hq => ?_)
  cases r with
  | error e => exact False.elim hq
  | ok fl =>
    cases fl with
    | ret ku =>
      obtain ⟨kv, H', os, bare, un, hok, rk, m', g, S', r'⟩ := hq
      exact q kv ku m' H' s' (I.call' (ch := []) os un hok bare fun b z => absurd z (by simp)) rk g S' r'
    | next => exact False.elim hq
    | brk => exact False.elim hq
    | cont => exact False.elim hq

/-- the two lists of a sort: the keys so far, the list itself (empty meanwhile) -/
def sortPins (kS a : Addr) (kA : Array Value) (e e1 : Nat) : List (Addr × Obj) := [(kS, seqObj "list" kA e), (a, seqObj "list" #[] e1)]
theorem Inv.unpin {X : Cx} {pins pl : List (Addr × Obj)} {σ : L2.St} {H : Hp} {s : Shared} (I : Inv X (pins ++ pl) σ H s) : Inv X pins σ H s := I.pins_of fun p hp => I.pin p (List.mem_append_right _ (List.mem_append_left _ hp))
/-- sorted(xs, key=f) -/
theorem sorted_E {X : Cx} {P : Prog} {j : Nat} {f : Str} {fa : Addr} {fd : FuncData} {ps : List Str} {pins : List (Addr × Obj)} {σ : L2.St} {H : Hp} {s : Shared} {m : List Addr} {h h2 : Hpe} {xs ks : List Val} {l : Addr} {ys : List V} {Q : VK}
    (F : FnOk X.prog X.w X.K X.mg X.base CX0 j fa fd ps (spE P j X.K f)) (hb : Binds X.K fd ps []) (hr : Room (j + 1) X.A) (I : Inv X pins σ H s) (S : StR X.K m h H) (hl : SqL X.K H l ys) (r : Reps X.K m H xs ys)
    (e : keysL (fun v h => call P j f [v] h) xs h = .ok ks h2) (hso : sortable ks = true) (q : Post X.K m H (h2 ++ [.lst (sortBy xs ks)]) (.ref h2.length) Q) :
    wpAny (model X.prog X.w) X.A (PySem.call (.builtin "sorted") [.ref l] [(Str.ofString "key", .ref fa)]) (EP X pins σ Q) X.xe s := by
  obtain ⟨its, rv, pl, hz⟩ := I.list hl
  obtain ⟨so1, so2, so3, so4⟩ := sortable_ok hso
  have hzi : its.length ≤ sizeLine := by rw [← rv.length]; exact hz
  have hr1 : Room j X.A.in1.in1 := ⟨hr.hd, by have := hr.dp; show X.A.depth + 3 * j + 5 < _; omega, by have := hr.un; show X.A.units + 1 + 1 + 16 * j + 200 < _; omega⟩
  refine sorted_of_sort pl.isList hzi (ksk_s1 _ _) (fun _ => ksk_l1 _ _) fun E' => ?_
  rw [ksk_t1]
  have ha0 : s.heap.objs.size ≤ s.heap.objs.size + 1 := Nat.le_succ _
  generalize hA : s.heap.objs.size + 1 = a at *
  have hca : (copyHeap s.heap its).get? a = some (seqObj "list" its.toArray 0) := by rw [← hA]; exact copyHeap_at _ _
  obtain ⟨e1, ho1⟩ : ∃ e1, ((copyHeap s.heap its).update a (Obj.mapSeq fun _ => (#[] : Array Value))).get? a = some (seqObj "list" #[] e1) := ⟨_, get?_update_seq hca fun _ => #[]⟩
  have hkS : (((copyHeap s.heap its).update a (Obj.mapSeq fun _ => (#[] : Array Value))).push (seqObj "tuple" its.toArray 0)).objs.size = (copyHeap s.heap its).objs.size + 1 := by rw [size_push', Heap.size_update]
  have hca2 : a < (copyHeap s.heap its).objs.size := Heap.lt_size hca
  unfold ksk_tree
  refine wpAny_bind (listItems_at hca rfl ?_)
  refine wpAny_bind (listUpdate_at hca rfl ?_ (by rw [List.size_toArray]; exact hzi) (Nat.zero_le _))
  refine wpAny_bind (seqEpoch_at ho1 rfl ?_)
  refine wpAny_bind (wpAny_newTuple ?_ (by show its.length ≤ _; exact hzi))
  refine wpAny_bind (wpAny_newList ?_ (Nat.zero_le _))
  refine wpAny_holding ?_
  rw [hkS]
  generalize hK : (copyHeap s.heap its).objs.size + 1 = kS at *
  have hka : kS ≠ a := by omega
  have old : ∀ b o, s.heap.get? b = some o → (sortingHeap (copyHeap s.heap its) a its).get? b = some o := fun b o q => by rw [← hA]; exact sorting_copy_old q
  have I0 : Inv X pins σ H { s with heap := sortingHeap (copyHeap s.heap its) a its } := I.kept (t' := s.toks) old
  have nk0 : (sortingHeap (copyHeap s.heap its) a its).get? kS = some (seqObj "list" #[] 0) := by rw [← hkS]; exact Heap.get?_push_size _ rfl
  have na0 : (sortingHeap (copyHeap s.heap its) a its).get? a = some (seqObj "list" #[] e1) := Heap.get?_push_of_some _ (Heap.get?_push_of_some _ ho1)
  have hks : s.heap.objs.size ≤ kS := by omega
  have has : s.heap.objs.size ≤ a := by omega
  have fk : FpOk X pins H kS := I.fpOk hks (I.hok.fresh hks)
  have fa' : FpOk X pins H a := I.fpOk has (I.hok.fresh has)
  have ncell : ∀ (kA : Array Value) (e : Nat) (v : Option Value), (seqObj "list" kA e).data ≠ .cell v := fun _ _ _ z => nomatch z
  have I1 : Inv X (pins ++ sortPins kS a #[] 0 e1) σ H { s with heap := sortingHeap (copyHeap s.heap its) a its } := I0.pins_of fun p hp => by
    rcases List.mem_append.mp hp with hp | hp
    · exact I0.pin p (List.mem_append_right _ hp)
    · rcases List.mem_cons.mp hp with rfl | hp
      · exact ⟨nk0, fk.1, fk.2.1, fk.2.2.1, ncell _ _⟩
      · rw [List.mem_singleton.mp hp]
        exact ⟨na0, fa'.1, fa'.2.1, fa'.2.2.1, ncell _ _⟩
  show wpAny (model X.prog X.w) X.A.in1.in1 (ksk_rest a (.ref fa) false its.toArray e1 (.ref kS)) _ E' { s with heap := sortingHeap (copyHeap s.heap its) a its }
  unfold ksk_rest
  refine wpAny_bind (wpAny_rule ?_)
  first
    | rw [List.forIn_toArray]
    | (rw [← Array.forIn_toList]; simp only [List.toList_toArray])
    | rw [← Array.forIn_toList]
  -- what holds after i keys
  refine wpAny_bind (ksk_fold (fun i s' => ∃ kA e2 H' m' h' kd kvs kr, Inv X (pins ++ sortPins kS a kA e2 e1) σ H' s' ∧ StR X.K m' h' H' ∧ Grow m m' H H' ∧ Reps X.K m' H' kd kvs ∧ Vals kvs kA.toList ∧ kd.length = i ∧ ks = kd ++ kr ∧ keysL (fun v h => call P j f [v] h) (xs.drop i) h' = .ok kr h2) its 0 _
    ⟨#[], 0, H, m, h, [], [], ks, I1, S, .refl _ _, .nil, .nil, rfl, rfl, e⟩ ?step ?done)
  case step =>
    rintro i u s' hu ⟨kA, e2, H', m', h', kd, kvs, kr, I', S', g', rk, vk, hi, hks', e'⟩
    simp only [Nat.zero_add] at hi e' ⊢
    obtain ⟨y, hy, ry⟩ : ∃ y, ys[i]? = some y ∧ RelV y u := by
      have hi' : i < ys.length := by rw [rv.length]; exact (List.getElem?_eq_some_iff.mp hu).1
      obtain ⟨u', h1, h2⟩ := rv.get (List.getElem?_eq_getElem hi')
      rw [hu] at h1; cases h1
      exact ⟨_, List.getElem?_eq_getElem hi', h2⟩
    have hix : i < xs.length := by rw [r.length]; exact (List.getElem?_eq_some_iff.mp hy).1
    obtain ⟨x, hx, hdr⟩ := drop_cons hix
    obtain ⟨y', hy', rx⟩ := r.get hx
    rw [hy] at hy'; cases hy'
    rw [hdr] at e'
    simp only [keysL] at e'
    obtain ⟨key, h3, e3, e4⟩ := Res.bind_eq e'
    obtain ⟨kr', h4, e5, e6⟩ := Res.bind_eq e4
    cases e6
    refine wpAny_bind (wpAny_attempt (key_call F hb hr1 I' S' (rx.mono g') ry e3 fun kv ku m'' H'' s'' I'' rku g'' S'' rkey => ?_))
    try dsimp only
    have nk : s''.heap.get? kS = some (seqObj "list" kA e2) := (I''.pin (kS, _) (List.mem_append_right _ (List.mem_append_right _ List.mem_cons_self))).1
    have na : s''.heap.get? a = some (seqObj "list" #[] e1) := (I''.pin (a, _) (List.mem_append_right _ (List.mem_append_right _ (List.mem_cons_of_mem _ List.mem_cons_self)))).1
    have pk := I''.pin (kS, seqObj "list" kA e2) (List.mem_append_right _ (List.mem_append_right _ List.mem_cons_self))
    have pa := I''.pin (a, seqObj "list" #[] e1) (List.mem_append_right _ (List.mem_append_right _ (List.mem_cons_of_mem _ List.mem_cons_self)))
    have s1 := Heap.SameBut.update s''.heap kS (Obj.mapSeq (·.push ku))
    obtain ⟨c2, hc2⟩ : ∃ c2, (s''.heap.update kS (Obj.mapSeq (·.push ku))).get? kS = some (seqObj "list" (kA.push ku) c2) := ⟨_, get?_update_seq nk (·.push ku)⟩
    have hkz : kA.size ≤ its.length := by
      have h1 : kvs.length = kA.size := vk.length.trans Array.length_toList
      rw [← h1, ← rk.length, hi]
      exact Nat.le_of_lt (List.getElem?_eq_some_iff.mp hu).1
    refine wpAny_bind (listUpdate_at nk rfl ?_ (Nat.le_trans hkz hzi) (Nat.le_trans (Nat.le_of_eq (Array.size_push ..)) (Nat.succ_le_succ (Nat.le_trans hkz hzi))))
    have I2 : Inv X pins σ H'' { s'' with heap := s''.heap.update kS (Obj.mapSeq (·.push ku)) } := by
      have J := Inv.unpin I''
      refine J.turned (t' := s''.toks) (it := kS) (fun b o hb e => (s1.2 b hb).trans e) pk.2.1 pk.2.2.1 ?_ ?_ ?_
      · exact fk.2.2.2.1
      · exact fk.2.2.2.2.1
      · exact fk.2.2.2.2.2
    refine wpAny_pure ⟨rfl, kA.push ku, c2, H'', m'', h3, kd ++ [key], kvs ++ [kv], kr', ?_, S'', g'.trans g'', (rk.mono g'').snoc rkey, by rw [Array.toList_push]; exact vk.append (.cons rku .nil), by rw [List.length_append, hi]; rfl, by rw [hks', List.append_assoc]; rfl, e5⟩
    exact I2.pins_of fun p hp => by
      rcases List.mem_append.mp hp with hp | hp
      · exact I2.pin p (List.mem_append_right _ hp)
      · rcases List.mem_cons.mp hp with rfl | hp
        · exact ⟨hc2, pk.2.1, pk.2.2.1, pk.2.2.2.1, ncell _ _⟩
        · rw [List.mem_singleton.mp hp]
          exact ⟨(s1.2 a hka.symm).trans na, pa.2.1, pa.2.2.1, pa.2.2.2.1, ncell _ _⟩
  case done =>
    rintro s' ⟨kA, e2, H', m', h', kd, kvs, kr, I', S', g', rk, vk, hi, hks', e'⟩
    have hlx : xs.length = its.length := by rw [r.length]; exact rv.length
    rw [Nat.zero_add, ← hlx, List.drop_length] at e'
    cases e'
    rw [List.append_nil] at hks'
    subst hks'
    rw [Nat.zero_add] at hi
    have nk : s'.heap.get? kS = some (seqObj "list" kA e2) := (I'.pin (kS, _) (List.mem_append_right _ (List.mem_append_right _ List.mem_cons_self))).1
    have na : s'.heap.get? a = some (seqObj "list" #[] e1) := (I'.pin (a, _) (List.mem_append_right _ (List.mem_append_right _ (List.mem_cons_of_mem _ List.mem_cons_self)))).1
    have pa := I'.pin (a, seqObj "list" #[] e1) (List.mem_append_right _ (List.mem_append_right _ (List.mem_cons_of_mem _ List.mem_cons_self)))
    try dsimp only
    refine wpAny_bind (listItems_at nk rfl ?_)
    have hv := rk.hv I' so3 vk
    have hkA : kA.size = its.length := by
      have h1 : kvs.length = kA.size := vk.length.trans Array.length_toList
      rw [← h1, ← rk.length, hi]
    refine keyH_end (κ := dataKind s'.heap (ks.map Val.toD)) (h₁ := hideAll s'.heap [kS]) (fun b o _ q => of_hideAll [kS] q) (hideAll_none [kS] (by simp)) nk na hka (SortsAt.data hv.each so1 so2 fun d hd => by have := so4 d hd; have := hr1.un; omega) hkA hzi fun h3 tk3 c k3 n3 => ⟨rfl, ?_⟩
    obtain ⟨zs, rz, hout⟩ := sort_reps (ks := ks) (by rw [hi, hlx]) (r.mono g') rv
    have vz : Vals zs (sortVals (dataKind s'.heap (ks.map Val.toD)) false kA.toList its) := by
      refine hout _ fun R hR => ?_
      have em : (ks.zip (xs.zip ys)).map (fun t : Val × Val × V => t.1.toD) = ks.map Val.toD := by
        have h1 := r.length
        apply List.ext_getElem
        · simp only [List.length_map, List.length_zip]; omega
        · intro i h1 h2; simp
      exact keyedOut_each (fun t : Val × Val × V => t.1.toD) ⟨s'.heap, kA.toList, by rw [em]; exact so1, by rw [em], by rw [em]; exact hv.each⟩ hR
    -- the new list lies there
    have kept : ∀ b o, b ≠ a → b ≠ kS → s'.heap.get? b = some o → h3.get? b = some o := fun b o h1 h2 q => k3 b o h1 (hideAll_get [kS] q (by simp [h2]))
    have hzz : zs.length ≤ sizeLine := by rw [vz.length]; rw [show (sortVals (dataKind s'.heap (ks.map Val.toD)) false kA.toList its).length = its.length from sortVals_length false (by rw [Array.length_toList]; exact hkA)]; exact hzi
    have hHa : H' a = none := pa.2.1
    have J : Inv X pins σ (upd H' a (.lst zs)) { s' with heap := h3, toks := tk3 } := by
      have J0 := Inv.unpin I'
      have pk := I'.pin (kS, seqObj "list" kA e2) (List.mem_append_right _ (List.mem_append_right _ List.mem_cons_self))
      have nn : ∀ b o, H' b = some o → b ≠ a ∧ b ≠ kS := fun b o q => ⟨fun z => (by rw [z, hHa] at q; cases q), fun z => (by rw [z, pk.2.1] at q; cases q)⟩
      refine J0.step (g' := s'.gens) (d' := s'.drawn) (ch := [kS, a]) (fun b hb => ?_) (fun b o _ _ hc e _ => kept b o (fun z => hc (by simp [z])) (fun z => hc (by simp [z])) e) (fun b o _ _ hc e _ => ⟨o.slots, kept b o (fun z => hc (by simp [z])) (fun z => hc (by simp [z])) e⟩)
        (fun b o hc e n => by rw [upd_ne (fun z => hc (by simp [z]))]; exact n) (fun b o hc e => ⟨o, kept b o (fun z => hc (by simp [z])) (fun z => hc (by simp [z])) e⟩) (fun b x e => by rw [upd_ne (nn b _ e).1]; exact e) (fun b o x e => by rw [upd_ne (nn b _ e).1]; exact e)
        (fun b x e => ⟨#[], by rw [upd_ne (nn b _ e).1, e]; simp⟩) (fun m hm => ?_) (fun b o q => ?_) J0.bare
      · rcases List.mem_cons.mp hb with rfl | hb
        · exact ⟨fk.2.2.2.1, fk.2.1, fk.2.2.2.2.1, fk.2.2.2.2.2⟩
        · rw [List.mem_singleton.mp hb]
          exact ⟨fa'.2.2.2.1, fa'.2.1, fa'.2.2.2.2.1, fa'.2.2.2.2.2⟩
      · obtain ⟨o, es, ep, ho, rr⟩ := hm
        exact ⟨o, es, ep, kept _ o (Ne.symm fa'.2.1) (Ne.symm fk.2.1) ho, rr⟩
      · by_cases hba : b = a
        · subst hba
          rw [upd_same] at q
          cases q
          exact ⟨hzz, _, c, vz, n3⟩
        · rw [upd_ne hba] at q
          refine (J0.hok b o q).stay (fun c v hc e => ?_) (fun c e => by rw [upd_ne (nn c _ e).1]; exact e) fun c x e => by rw [upd_ne (nn c _ e).1]; exact e
          rcases hc with rfl | hc
          · exact kept c v (nn c _ q).1 (nn c _ q).2 e
          · exact kept c v (nn c _ hc).1 (nn c _ hc).2 e
    exact ⟨.ref a, upd H' a (.lst zs), J, rfl, (q.up g').newLst S' rz hHa⟩
/-- sorted(e, key=f) as an expression -/
theorem srtE {P : Prog} {k : Nat} {N : List Str} {a : E} {f : Str} {x : Expr} {sc : Scope} {X : Cx} {p p2 kp pos : Pos} {g kw hn : Str} (h1 : g = "sorted") (h2 : kw = "key") (h3 : f = hn) (G : Good P k sc N X) (h4 : gl sc g = true) (h5 : gl sc hn = true) (h6 : nst x = true) (ha : PE X x (TEv P k X.K a)) :
    PE X (.Call (.Name g p) [x] [⟨some kw, .Name hn p2, kp⟩] pos) (TEv P k X.K (.srt a f)) := by
  subst h1 h2 h3
  obtain ⟨g1, g2, g3⟩ := G.gl h4
  obtain ⟨f1, f2, f3⟩ := G.gl h5
  -- what is reckoned
  have open_ : ∀ σ H Q, TEv P k X.K (.srt a f) σ H Q → ∃ m s h n h1 xs ks h2, StR X.K m h H ∧ EnR X.K m H s σ ∧ ev (Rcx P k) a s h = .ok (.ref n) h1 ∧ lstAt h1 n = some xs ∧ keyOk P k f = true ∧ keysL (fun v h => (call2 P k).2 f [v] h) xs h1 = .ok ks h2 ∧ sortable ks = true ∧ Post X.K m H (h2 ++ [.lst (sortBy xs ks)]) (.ref h2.length) Q := fun σ H Q hq => by
    obtain ⟨m, s, h, v, h', S, En, e, q⟩ := hq
    simp only [ev] at e
    obtain ⟨y, h1, e1, e2⟩ := Res.bind_eq e
    cases y with
    | ref n =>
      simp only at e2
      split at e2 <;> first | (cases e2; done) | skip
      rename_i xs hx
      split at e2 <;> first | (cases e2; done) | skip
      rename_i hk
      obtain ⟨ks, h2, e3, e4⟩ := Res.bind_eq e2
      split at e4 <;> first | (cases e4; done) | skip
      rename_i hs
      cases e4
      exact ⟨m, s, h, n, h1, xs, ks, h2, S, En, e1, hx, (by simpa using hk), e3, hs, q⟩
    | _ => cases e2
  by_cases hk : keyOk P k f = true
  · unfold keyOk at hk
    rw [Bool.and_eq_true] at hk
    obtain ⟨hk1, hk2⟩ := hk
    obtain ⟨F, hF⟩ := Option.isSome_iff_exists.mp hk2
    cases k with
    | zero => simp at hk1
    | succ j =>
      obtain ⟨fa, fd, ps, m1, m2, m3, m4⟩ := G.fns1 f F hF
      have mf := m4 j rfl
      have hc : CallRK X (.builtin "sorted") [Str.ofString "key"] (fun vs zs H Q => ∃ l ys m h h2 xs ks, vs = [.ref l] ∧ zs = [.ref fa] ∧ StR X.K m h H ∧ SqL X.K H l ys ∧ Reps X.K m H xs ys ∧ keysL (fun v h => call P j f [v] h) xs h = .ok ks h2 ∧ sortable ks = true ∧ Post X.K m H (h2 ++ [.lst (sortBy xs ks)]) (.ref h2.length) Q) := by
        intro pins s σ H vs zs us ws Q I r rz hh
        obtain ⟨l, ys, m, h, h2, xs, ks, rfl, rfl, S, hl, r', e, hso, q⟩ := hh
        obtain rfl := Vals.ref1 r
        obtain rfl := Vals.ref1 rz
        exact sorted_E mf m3 G.room I S hl r' e hso q
      have st : starEach [x] X.env = (false, eval x X.env) :: starEach [] X.env := starEach_cons h6
      refine (pe_callBK hc g1 (G.blt _ (by decide)) (by decide +kernel) (pa_cons ha pa_nil (starEach_cons h6)) (pk_cons (pe_glob (v := .ref fa) f1 m1 rfl f2) pk_nil) g3 g2 (by rw [st]; rfl) (by rw [st]; rfl)).imp fun σ H Q hq => ?_
      obtain ⟨m, s, h, n, h1, xs, ks, h2, S, En, e1, hx, _, e3, hs, q⟩ := open_ σ H Q hq
      refine .mk S En e1 fun m1 H1 z g1 S1 r1 => ?_
      obtain ⟨l, rfl, el⟩ := r1.ref_inv
      obtain ⟨ys, gl, rl⟩ := S1.list hx el
      exact ⟨l, ys, m1, h1, h2, xs, ks, rfl, rfl, S1, gl, rl, e3, hs, q.up g1⟩
  · refine ⟨fun pins s σ H Q I hq => ?_⟩
    obtain ⟨m, s, h, n, h1, xs, ks, h2, S, En, e1, hx, hk', _⟩ := open_ σ H Q hq
    exact absurd hk' hk
end Ev
/-! EvSnd4: the induction over the expressions. -/
namespace Ev
open PySem PySem.Spec PyProof.Rows L2
section
variable {P : Prog} {k : Nat} {N : List Str}
theorem ownsub {tg : Tg} {own : List Nat} (h : ((tgIx tg).all fun i => own.contains i) = true) : ∀ i ∈ tgIx tg, i ∈ own := fun i hi => by
  have := List.all_eq_true.mp h i hi
  simpa using this
theorem _root_.L2.PW.impW {X : Cx} {e : Expr} {t t' : TT} (h : PW X e t) (i : ∀ σ H Q, t' σ H Q → t σ H Q) : PW X e t' := ⟨fun wh pins s σ H Q I q => h.run wh pins s σ H Q I (i σ H Q q)⟩
/-- a list or a tuple, walked -/
def iSeq (K : PySem.W.Frag) (tl : TE) : TI := fun σ H R => tl σ H fun x H1 => ∃ a, x = .ref a ∧ (((∃ xs, SqL K H1 a xs) ∧ R (Itl K a) H1) ∨ ((∃ xs, SqT K H1 a xs) ∧ R (Itt K a) H1))
theorem pi_seq {X : Cx} {tg l : Expr} {tl : TE} (hl : PE X l tl) : PI X tg l (iSeq X.K tl) := by
  refine ⟨fun pins s σ H R I h => ?_⟩
  refine thn (hl.run pins s σ H _ I h) fun v s1 ⟨x, H1, I1, r1, q1⟩ => ?_
  obtain ⟨a, e, q⟩ := q1
  subst e
  cases r1
  rcases q with ⟨⟨xs, hq⟩, q⟩ | ⟨⟨xs, hq⟩, q⟩
  · obtain ⟨its, rv, p, hz⟩ := I1.list hq
    refine wpAny_pyIter_list p.isList ?_
    refine ⟨s1.heap.objs.size, [s1.heap.objs.size], _, _, H1, rfl, I1.kept (t' := s1.toks) fun b o e => Heap.get?_push_of_some _ e, turn_list a _, ⟨_, Heap.get?_push_size _ rfl, rfl, rfl⟩, fun b hb => ?_, q⟩
    have e : b = s1.heap.objs.size := by simpa using hb
    subst e
    exact I1.fpOk (Nat.le_refl _) (I1.hok.fresh (Nat.le_refl _))
  · obtain ⟨its, rv, p, hz⟩ := I1.tuple hq
    refine wpAny_pyIter_tuple (show s1.heap.IsTuple a its.toArray from p) ?_
    refine ⟨s1.heap.objs.size, [s1.heap.objs.size], _, _, H1, rfl, I1.kept (t' := s1.toks) fun b o e => Heap.get?_push_of_some _ e, turn_tuple a _, ⟨_, Heap.get?_push_size _ rfl, rfl, rfl⟩, fun b hb => ?_, q⟩
    have e : b = s1.heap.objs.size := by simpa using hb
    subst e
    exact I1.fpOk (Nat.le_refl _) (I1.hok.fresh (Nat.le_refl _))
theorem lock_of {K : PySem.W.Frag} {i : Nat} {c : E} {σ : L2.St} {H : Hp} {Q : VK} (hq : TEv P k K (.lock i c) σ H Q) : tLockE (TEv P k K c) σ H Q := by
  obtain ⟨m, s, h, v, h', S, En, e, q⟩ := hq
  simp only [ev] at e
  split at e <;> first | (cases e; done) | skip
  rename_i n hs
  split at e <;> first | (cases e; done) | skip
  rename_i kvs hk
  obtain ⟨w, h1, e1, e2⟩ := Res.bind_eq e
  split at e2 <;> first | (cases e2; done) | skip
  rename_i kvs' hk'
  cases e2
  obtain ⟨x, hx, rx⟩ := En.at_ i _ hs
  obtain ⟨a, rfl, ea⟩ := rx.ref_inv
  obtain ⟨ws, ga, rk⟩ := S.dic hk ea
  refine ⟨a, .dK ws, ga, True.intro, fun od => ?_⟩
  obtain ⟨S1, g1⟩ := S.lock hk ea ga rk od
  refine .mk S1 (En.mono g1) e1 fun m2 H2 y g2 S2 r2 => ?_
  obtain ⟨ef, S3, g3, up⟩ := StR.unlock S2 g2 ga rk hk' (g2.pre _ _ ea)
  exact ⟨ef, q m2 _ y g3 S3 (up _ _ r2)⟩

mutual
theorem sndE : ∀ (c : E) {sc : Scope} {e : Expr} {X : Cx}, chkE N c sc e = true → Good P k sc N X → PE X e (TEv P k X.K c)
  | .var i, sc, e, X, h, G => by
    unfold chkE at h
    split at h <;> first | (cases h; done) | skip
    simp only [Bool.and_eq_true, decide_eq_true_eq] at h
    obtain ⟨⟨h1, h2⟩, h3⟩ := h
    obtain ⟨o1, o2, _⟩ := okName_of h3
    refine (pe_var (by rw [G.names]; exact h1) (G.vis h2) o1 o2).imp fun σ H Q hq => ?_
    obtain ⟨m, s, hh, v, h', S, En, e, q⟩ := hq
    simp only [ev] at e
    split at e <;> first | (cases e; done) | skip
    rename_i w hw
    cases e
    obtain ⟨x, hx, rx⟩ := En.at_ i _ hw
    exact ⟨x, hx, q.here S rx⟩
  | .con c, sc, e, X, h, G => by
    unfold chkE at h
    split at h <;> first | (cases h; done) | skip
    exact conE h
  | .glb x, sc, e, X, h, G => by
    unfold chkE at h
    split at h <;> first | (cases h; done) | skip
    simp only [Bool.and_eq_true, decide_eq_true_eq] at h
    obtain ⟨rfl, h2⟩ := h
    obtain ⟨g1, g2, g3⟩ := G.gl h2
    cases hc : P.con x with
    | none =>
      refine ⟨fun pins s σ H Q I hq => ?_⟩
      obtain ⟨m, s', hh, v, h', S, En, e, q⟩ := hq
      simp only [ev, hc] at e
      cases e
    | some w =>
      obtain ⟨u, y, c1, c2, c3⟩ := G.cons x w hc
      refine (pe_glob g1 c1 c2 g2).imp fun σ H Q hq => ?_
      obtain ⟨m, s, hh, v, h', S, En, e, q⟩ := hq
      simp only [ev, hc] at e
      cases e
      exact q.here S (c3 m H)
  | .tup es, sc, e, X, h, G => by
    unfold chkE at h
    split at h <;> first | (cases h; done) | skip
    refine (pe_tup (sndEs es h G).pa).imp fun σ H Q hq => ?_
    obtain ⟨m, s, hh, v, h', S, En, e, q⟩ := hq
    simp only [ev] at e
    obtain ⟨vs, h1, e1, e2⟩ := Res.bind_eq e
    split at e2 <;> first | (cases e2; done) | skip
    rename_i hz
    cases e2
    exact ⟨m, s, hh, vs, _, S, En, e1, fun m' H' xs g S' r => ⟨by rw [← size_eq, ← r.length]; exact hz, fun p hp => (q.up g).newTup S' r hp⟩⟩
  | .lst es, sc, e, X, h, G => by
    unfold chkE at h
    split at h <;> first | (cases h; done) | skip
    refine (pe_lst (sndEs es h G).pa).imp fun σ H Q hq => ?_
    obtain ⟨m, s, hh, v, h', S, En, e, q⟩ := hq
    simp only [ev] at e
    obtain ⟨vs, h1, e1, e2⟩ := Res.bind_eq e
    split at e2 <;> first | (cases e2; done) | skip
    rename_i hz
    cases e2
    exact ⟨m, s, hh, vs, _, S, En, e1, fun m' H' xs g S' r => ⟨by rw [← size_eq, ← r.length]; exact hz, fun p hp => (q.up g).newLst S' r hp⟩⟩
  | .dct0, sc, e, X, h, G => by
    unfold chkE at h
    split at h <;> first | (cases h; done) | skip
    refine pe_dnewK.imp fun σ H Q hq => ?_
    obtain ⟨m, s, hh, v, h', S, En, e, q⟩ := hq
    cases e
    exact fun p hp => q.newDic S .nil hp
  | .bin o a b, sc, e, X, h, G => by
    unfold chkE at h
    split at h <;> first | (cases h; done) | skip
    simp only [Bool.and_eq_true, decide_eq_true_eq] at h
    obtain ⟨⟨rfl, h2⟩, h3⟩ := h
    refine (pe_op (bopR_ok o) (sndE a h2 G) (sndE b h3 G)).imp fun σ H Q hq => ?_
    obtain ⟨m, s, hh, v, h', S, En, e, q⟩ := hq
    simp only [ev] at e
    obtain ⟨x, h1, e1, e2⟩ := Res.bind_eq e
    obtain ⟨y, h2, e3, e4⟩ := Res.bind_eq e2
    exact .mk S En e1 fun m1 H1 x' g1 S1 r1 => .mk S1 (En.mono g1) e3 fun m2 H2 y' g2 S2 r2 => bop_of e4 S2 (r1.mono g2) r2 ((q.up g1).up g2)
  | .neg a, sc, e, X, h, G => by
    unfold chkE at h
    split at h <;> first | (cases h; done) | skip
    refine (pe_un un_neg (sndE a h G)).imp fun σ H Q hq => ?_
    obtain ⟨m, s, hh, v, h', S, En, e, q⟩ := hq
    simp only [ev] at e
    obtain ⟨x, h1, e1, e2⟩ := Res.bind_eq e
    split at e2 <;> first | (cases e2; done) | skip
    cases e2
    refine .mk S En e1 fun m1 H1 x' g1 S1 r1 => ?_
    cases r1
    exact ⟨_, rfl, (q.up g1).here S1 (.int _)⟩
  | .cmp o a b, sc, e, X, h, G => by
    unfold chkE at h
    split at h <;> first | (cases h; done) | skip
    simp only [Bool.and_eq_true, decide_eq_true_eq] at h
    obtain ⟨⟨⟨rfl, hn⟩, h2⟩, h3⟩ := h
    refine (pe_cmpR (copR_ok G.units o) (sndE a h2 G) (sndE b h3 G) (nomark_of hn)).imp fun σ H Q hq => ?_
    obtain ⟨m, s, hh, v, h', S, En, e, q⟩ := hq
    simp only [ev] at e
    obtain ⟨x, h1, e1, e2⟩ := Res.bind_eq e
    obtain ⟨y, h2, e3, e4⟩ := Res.bind_eq e2
    obtain ⟨r, h3, e5, e6⟩ := Res.bind_eq e4
    cases e6
    refine .mk S En e1 fun m1 H1 x' g1 S1 r1 => .mk S1 (En.mono g1) e3 fun m2 H2 y' g2 S2 r2 => ?_
    have hh : h' = h2 := (cop_of (Q := fun _ _ => True) e5 S2 (r1.mono g2) r2 trivial).2
    subst hh
    exact (cop_of e5 S2 (r1.mono g2) r2 (((q.up g1).up g2).here S2 (.bl _))).1
  | .chn o1 o2 a b c, sc, e, X, h, G => by
    unfold chkE at h
    split at h <;> first | (cases h; done) | skip
    simp only [Bool.and_eq_true, decide_eq_true_eq] at h
    obtain ⟨⟨⟨⟨⟨rfl, rfl⟩, hn⟩, h2⟩, h3⟩, h4⟩ := h
    refine (pe_chain (copR_ok G.units o1) (copR_ok G.units o2) (sndE a h2 G) (sndE b h3 G) (sndE c h4 G) (lastMarks_of hn)).imp fun σ H Q hq => ?_
    obtain ⟨m, s, hh, v, h', S, En, e, q⟩ := hq
    simp only [ev] at e
    obtain ⟨x, h1, e1, e2⟩ := Res.bind_eq e
    obtain ⟨y, h2, e3, e4⟩ := Res.bind_eq e2
    obtain ⟨r, h3, e5, e6⟩ := Res.bind_eq e4
    refine .mk S En e1 fun m1 H1 x' g1 S1 r1 => .mk S1 (En.mono g1) e3 fun m2 H2 y' g2 S2 r2 => ?_
    have hh : h3 = h2 := (cop_of (Q := fun _ _ => True) e5 S2 (r1.mono g2) r2 trivial).2
    subst hh
    refine (cop_of e5 S2 (r1.mono g2) r2 ⟨r, rfl, ?_⟩).1
    cases r with
    | false =>
      cases e6
      exact ((q.up g1).up g2).here S2 (.bl _)
    | true =>
      obtain ⟨z, h4, e7, e8⟩ := Res.bind_eq e6
      obtain ⟨r', h5, e9, e10⟩ := Res.bind_eq e8
      cases e10
      refine .mk S2 ((En.mono g1).mono g2) e7 fun m3 H3 z' g3 S3 r3 => ?_
      have hh : h' = h4 := (cop_of (Q := fun _ _ => True) e9 S3 (r2.mono g3) r3 trivial).2
      subst hh
      exact (cop_of e9 S3 (r2.mono g3) r3 ((((q.up g1).up g2).up g3).here S3 (.bl _))).1
  | .andv a b, sc, e, X, h, G => by
    unfold chkE at h
    split at h <;> first | (cases h; done) | skip
    simp only [Bool.and_eq_true] at h
    refine (pe_andT (sndE a h.1 G) (sndE b h.2 G)).imp fun σ H Q hq => ?_
    obtain ⟨m, s, hh, v, h', S, En, e, q⟩ := hq
    simp only [ev] at e
    obtain ⟨x, h1, e1, e2⟩ := Res.bind_eq e
    obtain ⟨r, h2, e3, e4⟩ := Res.bind_eq e2
    refine .mk S En e1 fun m1 H1 x' g1 S1 r1 => ?_
    obtain ⟨t1, rfl⟩ := tru_of e3 S1 r1
    refine ⟨r, t1, ?_⟩
    cases r with
    | false => cases e4; exact (q.up g1).here S1 r1
    | true => exact .mk S1 (En.mono g1) e4 (q.up g1)
  | .orv a b, sc, e, X, h, G => by
    unfold chkE at h
    split at h <;> first | (cases h; done) | skip
    simp only [Bool.and_eq_true] at h
    refine (pe_orT (sndE a h.1 G) (sndE b h.2 G)).imp fun σ H Q hq => ?_
    obtain ⟨m, s, hh, v, h', S, En, e, q⟩ := hq
    simp only [ev] at e
    obtain ⟨x, h1, e1, e2⟩ := Res.bind_eq e
    obtain ⟨r, h2, e3, e4⟩ := Res.bind_eq e2
    refine .mk S En e1 fun m1 H1 x' g1 S1 r1 => ?_
    obtain ⟨t1, rfl⟩ := tru_of e3 S1 r1
    refine ⟨r, t1, ?_⟩
    cases r with
    | true => cases e4; exact (q.up g1).here S1 r1
    | false => exact .mk S1 (En.mono g1) e4 (q.up g1)
  | .one a, sc, e, X, h, G => by
    unfold chkE at h
    split at h <;> first | (cases h; done) | skip
    exact (pe_one (sndE a h G)).imp fun σ H Q hq => hq
  | .notv a, sc, e, X, h, G => by
    unfold chkE at h
    split at h <;> first | (cases h; done) | skip
    refine (pe_notT (sndE a h G)).imp fun σ H Q hq => ?_
    obtain ⟨m, s, hh, v, h', S, En, e, q⟩ := hq
    simp only [ev] at e
    obtain ⟨x, h1, e1, e2⟩ := Res.bind_eq e
    obtain ⟨r, h2, e3, e4⟩ := Res.bind_eq e2
    cases e4
    refine .mk S En e1 fun m1 H1 x' g1 S1 r1 => ?_
    obtain ⟨t1, rfl⟩ := tru_of e3 S1 r1
    exact ⟨r, t1, (q.up g1).here S1 (.bl _)⟩
  | .ife c a b, sc, e, X, h, G => by
    unfold chkE at h
    split at h <;> first | (cases h; done) | skip
    simp only [Bool.and_eq_true] at h
    refine (pe_ifExp (sndT c h.1.1 G).1 (sndE a h.1.2 G) (sndE b h.2 G)).imp fun σ H Q hq => ?_
    obtain ⟨m, s, hh, v, h', S, En, e, q⟩ := hq
    simp only [ev] at e
    obtain ⟨r, h1, e1, e2⟩ := Res.bind_eq e
    refine ⟨m, s, hh, r, h1, S, En, e1, fun m1 H1 g1 S1 => ?_⟩
    cases r with
    | true => exact .mk S1 (En.mono g1) e2 (q.up g1)
    | false => exact .mk S1 (En.mono g1) e2 (q.up g1)
  | .ix a b, sc, e, X, h, G => by
    unfold chkE at h
    split at h <;> first | (cases h; done) | skip
    simp only [Bool.and_eq_true] at h
    refine (pe_ix (ixR_ok (by have := G.units; omega)) (sndE a h.1.2 G) (sndE b h.2 G) (plainIx_of h.1.1)).imp fun σ H Q hq => ?_
    obtain ⟨m, s, hh, v, h', S, En, e, q⟩ := hq
    simp only [ev] at e
    obtain ⟨x, h1, e1, e2⟩ := Res.bind_eq e
    obtain ⟨y, h2, e3, e4⟩ := Res.bind_eq e2
    exact .mk S En e1 fun m1 H1 x' g1 S1 r1 => .mk S1 (En.mono g1) e3 fun m2 H2 y' g2 S2 r2 => ix_of e4 S2 (r1.mono g2) r2 ((q.up g1).up g2)
  | .sl a lo hi, sc, e, X, h, G => by
    unfold chkE at h
    split at h <;> first | (cases h; done) | skip
    simp only [Bool.and_eq_true] at h
    refine (pe_slice slR_ok (sndE a h.1.1 G) (sndO lo h.1.2 G) (sndO hi h.2 G)).imp fun σ H Q hq => ?_
    obtain ⟨m, s, hh, v, h', S, En, e, q⟩ := hq
    simp only [ev] at e
    obtain ⟨x, h1, e1, e2⟩ := Res.bind_eq e
    obtain ⟨l, h2, e3, e4⟩ := Res.bind_eq e2
    obtain ⟨u, h3, e5, e6⟩ := Res.bind_eq e4
    exact .mk S En e1 fun m1 H1 x' g1 S1 r1 => ⟨m1, s, h1, l, h2, S1, En.mono g1, e3, fun m2 H2 g2 S2 => ⟨m2, s, h2, u, h3, S2, (En.mono g1).mono g2, e5, fun m3 H3 g3 S3 => sl_of e6 S3 ((r1.mono g2).mono g3) (((q.up g1).up g2).up g3)⟩⟩
  | .call f es, sc, e, X, h, G => by
    unfold chkE at h
    split at h <;> first | (cases h; done) | skip
    simp only [Bool.and_eq_true, decide_eq_true_eq] at h
    exact callE h.1.1 G h.1.2 h.2 (sndEs es h.2 G).pa
  | .blt b a, sc, e, X, h, G => by
    unfold chkE at h
    split at h <;> first | (cases h; done) | skip
    simp only [Bool.and_eq_true, decide_eq_true_eq] at h
    exact bltE h.1.1.1 G h.1.1.2 h.1.2 (sndE a h.2 G)
  | .mth mt o es, sc, e, X, h, G => by
    unfold chkE at h
    split at h <;> first | (cases h; done) | skip
    simp only [Bool.and_eq_true, decide_eq_true_eq] at h
    obtain ⟨⟨⟨⟨⟨h1, h2⟩, h3⟩, h4⟩, h5⟩, h6⟩ := h
    exact mthE h1 h2 h3 G (sndE o h4 G) h5 h6 (sndEs es h5 G)
  | .isi a t, sc, e, X, h, G => by
    unfold chkE at h
    split at h <;> first | (cases h; done) | skip
    simp only [Bool.and_eq_true, decide_eq_true_eq] at h
    obtain ⟨⟨⟨⟨⟨h1, h2⟩, h3⟩, h4⟩, h5⟩, h6⟩ := h
    exact isiE h1 h2 G h3 h4 h5 (sndE a h6 G)
  | .lc elt tg it c own, sc, e, X, h, G => by
    unfold chkE at h
    split at h <;> first | (cases h; done) | skip
    simp only [Bool.and_eq_true] at h
    obtain ⟨⟨⟨⟨⟨h1, h2⟩, h3⟩, h4⟩, h5⟩, h6⟩ := h
    have hu := (blkOk_by h1).uniq
    refine (pe_lc (own := ownL N own) G.calm (by rw [G.names]; exact G.nd) (sndI it h4 G) (G.blkOk h1) (fun s H C cl fp => (G.blk hu s H C cl fp).tg h3) (fun s H C cl fp => ?_) (fun s H C cl fp => sndE elt h6 (G.blk hu s H C cl fp)) (fun x => folded_of (by cases it <;> simp [chkI] at h4 <;> first | exact h4.1 | (split at h4 <;> first | (cases h4; done) | rfl)) x)).imp fun σ H Q hq => by
      rw [ownL_snd]; exact lc_of (ownsub h2) hq
    split at h5
    · split at h5 <;> first | (cases h5; done) | skip
      refine pts_nil.imp fun σ H Q hq => ?_
      obtain ⟨m, s, hh, b, h', S, En, e, q⟩ := hq
      cases e
      exact q m H (.refl _ _) S
    · exact pts_one (sndT c h5 (G.blk hu s H C cl fp)).1
    · cases h5
  | .dc kx vx tg it c own, sc, e, X, h, G => by
    unfold chkE at h
    split at h <;> first | (cases h; done) | skip
    simp only [Bool.and_eq_true] at h
    obtain ⟨⟨⟨⟨⟨⟨h1, h2⟩, h3⟩, h4⟩, h5⟩, h6⟩, h7⟩ := h
    have hu := (blkOk_by h1).uniq
    refine (pe_dc (own := ownL N own) G.calm (by rw [G.names]; exact G.nd) (sndI it h4 G) (G.blkOk h1) (fun s H C cl fp => (G.blk hu s H C cl fp).tg h3) (fun s H C cl fp => ?_) (fun s H C cl fp => sndE kx h6 (G.blk hu s H C cl fp)) (fun s H C cl fp => sndE vx h7 (G.blk hu s H C cl fp)) (fun x => folded_of (by cases it <;> simp [chkI] at h4 <;> first | exact h4.1 | (split at h4 <;> first | (cases h4; done) | rfl)) x)).imp fun σ H Q hq => by
      rw [ownL_snd]; exact dc_of (ownsub h2) hq
    split at h5
    · split at h5 <;> first | (cases h5; done) | skip
      refine pts_nil.imp fun σ H Q hq => ?_
      obtain ⟨m, s, hh, b, h', S, En, e, q⟩ := hq
      cases e
      exact q m H (.refl _ _) S
    · exact pts_one (sndT c h5 (G.blk hu s H C cl fp)).1
    · cases h5
  | .tuprev a, sc, e, X, h, G => by
    unfold chkE at h
    split at h <;> first | (cases h; done) | skip
    simp only [Bool.and_eq_true, decide_eq_true_eq] at h
    obtain ⟨⟨⟨⟨⟨h1, h2⟩, h3⟩, h4⟩, h5⟩, h6⟩ := h
    subst h1 h2
    obtain ⟨g1, g2, g3⟩ := G.gl h3
    obtain ⟨f1, f2, f3⟩ := G.gl h4
    refine (RT.pe_tupRev G.calm g1 (G.blt _ (by decide)) f1 (G.blt _ (by decide)) (sndE a h6 G) (starEach_cons h5)).imp fun σ H Q hq => ?_
    obtain ⟨m, s, hh, v, h', S, En, e, q⟩ := hq
    simp only [ev] at e
    obtain ⟨y, h1, e1, e2⟩ := Res.bind_eq e
    cases y with
    | ref n =>
      simp only at e2
      split at e2 <;> first | (cases e2; done) | skip
      rename_i xs hx
      cases e2
      refine .mk S En e1 fun m1 H1 z g1 S1 r1 => ?_
      obtain ⟨l, rfl, el⟩ := r1.ref_inv
      obtain ⟨ys, gl, rl⟩ := S1.list hx el
      exact ⟨l, ys, rfl, gl, fun p hp => (q.up g1).newTup S1 rl.reverse hp⟩
    | _ => cases e2
  | .srt a f, sc, e, X, h, G => by
    unfold chkE at h
    split at h <;> first | (cases h; done) | skip
    simp only [Bool.and_eq_true, decide_eq_true_eq] at h
    obtain ⟨⟨⟨⟨⟨⟨h1, h2⟩, h3⟩, h4⟩, h5⟩, h6⟩, h7⟩ := h
    exact srtE h1 h2 h3 G h4 h5 h6 (sndE a h7 G)
  | .setd d kx vx, sc, e, X, h, G => by
    unfold chkE at h
    split at h <;> first | (cases h; done) | skip
    simp only [Bool.and_eq_true, decide_eq_true_eq] at h
    obtain ⟨⟨⟨⟨⟨⟨⟨h1, h2⟩, h3⟩, h4⟩, h5⟩, h6⟩, h7⟩, h8⟩ := h
    subst h1
    exact setdE G h2 h3 h4 h5 (sndE d h6 G) (sndE kx h7 G) (sndE vx h8 G)
  | .lock i a, sc, e, X, h, G => by
    have h' : chkE N a sc e = true := by unfold chkE at h; exact h
    exact (pe_lock (sndE a h' G)).imp fun σ H Q hq => lock_of hq
theorem sndEs : ∀ (c : Es) {sc : Scope} {xs : List Expr} {X : Cx}, chkEs N c sc xs = true → Good P k sc N X → AllPE P k X c xs
  | .nil, sc, xs, X, h, G => by
    unfold chkEs at h
    split at h <;> first | (cases h; done) | skip
    exact .nil
  | .cons e es, sc, xs, X, h, G => by
    unfold chkEs at h
    split at h <;> first | (cases h; done) | skip
    simp only [Bool.and_eq_true] at h
    exact .cons h.1.1 (sndE e h.1.2 G) (sndEs es h.2 G)
theorem sndO : ∀ (c : O) {sc : Scope} {x : Option Expr} {X : Cx}, chkO N c sc x = true → Good P k sc N X → PO X x (TOv P k X.K c)
  | .no, sc, x, X, h, G => by
    unfold chkO at h
    split at h <;> first | (cases h; done) | skip
    refine po_none.imp fun σ H Q hq => ?_
    obtain ⟨m, s, hh, b, h', S, En, e, q⟩ := hq
    cases e
    exact q m H (.refl _ _) S
  | .yes c, sc, x, X, h, G => by
    unfold chkO at h
    split at h <;> first | (cases h; done) | skip
    refine (po_some (sndE c h G)).imp fun σ H Q hq => ?_
    obtain ⟨m, s, hh, b, h', S, En, e, q⟩ := hq
    simp only [evo] at e
    obtain ⟨x, h1, e1, e2⟩ := Res.bind_eq e
    split at e2 <;> first | (cases e2; done) | skip
    cases e2
    refine .mk S En e1 fun m1 H1 x' g1 S1 r1 => ?_
    cases r1
    exact ⟨_, rfl, q m1 H1 g1 S1⟩
theorem sndT : ∀ (c : T) {sc : Scope} {e : Expr} {X : Cx}, chkT N c sc e = true → Good P k sc N X → PT X e (TTv P k X.K c) ∧ ∀ op es pos, e = .BoolOp op es pos → PW X e (TTv P k X.K c)
  | .tt, sc, e, X, h, G => by simp [chkT] at h
  | .val c, sc, e, X, h, G => by
    unfold chkT at h
    simp only [Bool.and_eq_true] at h
    refine ⟨?_, fun op es pos he => by subst he; cases h.1⟩
    refine (pt_truth (sndE c h.2 G) (isTrue_of h.1)).imp fun σ H Q hq => ?_
    obtain ⟨m, s, hh, b, h', S, En, e, q⟩ := hq
    simp only [evt] at e
    obtain ⟨x, h1, e1, e2⟩ := Res.bind_eq e
    refine .mk S En e1 fun m1 H1 x' g1 S1 r1 => ?_
    obtain ⟨t1, rfl⟩ := tru_of e2 S1 r1
    exact ⟨b, t1, q m1 H1 g1 S1⟩
  | .cmp o a b, sc, e, X, h, G => by
    unfold chkT at h
    split at h <;> first | (cases h; done) | skip
    simp only [Bool.and_eq_true, decide_eq_true_eq] at h
    obtain ⟨⟨⟨rfl, hn⟩, h2⟩, h3⟩ := h
    refine ⟨?_, fun op es pos he => nomatch he⟩
    refine (pt_cmpR (copR_ok G.units o) (sndE a h2 G) (sndE b h3 G) (nomark_of hn)).imp fun σ H Q hq => ?_
    obtain ⟨m, s, hh, v, h', S, En, e, q⟩ := hq
    simp only [evt] at e
    obtain ⟨x, h1, e1, e2⟩ := Res.bind_eq e
    obtain ⟨y, h2, e3, e5⟩ := Res.bind_eq e2
    refine .mk S En e1 fun m1 H1 x' g1 S1 r1 => .mk S1 (En.mono g1) e3 fun m2 H2 y' g2 S2 r2 => ?_
    have hh : h' = h2 := (cop_of (Q := fun _ _ => True) e5 S2 (r1.mono g2) r2 trivial).2
    subst hh
    exact (cop_of (Q := fun x H' => ∃ k, x = .bl k ∧ Q k H') e5 S2 (r1.mono g2) r2 ⟨v, rfl, q m2 H2 (g1.trans g2) S2⟩).1
  | .chn o1 o2 a b c, sc, e, X, h, G => by
    unfold chkT at h
    split at h <;> first | (cases h; done) | skip
    simp only [Bool.and_eq_true, decide_eq_true_eq] at h
    obtain ⟨⟨⟨⟨⟨rfl, rfl⟩, hn⟩, h2⟩, h3⟩, h4⟩ := h
    refine ⟨?_, fun op es pos he => nomatch he⟩
    refine (pt_chain (copR_ok G.units o1) (copR_ok G.units o2) (sndE a h2 G) (sndE b h3 G) (sndE c h4 G) (lastMarks_of hn)).imp fun σ H Q hq => ?_
    obtain ⟨m, s, hh, v, h', S, En, e, q⟩ := hq
    simp only [evt] at e
    obtain ⟨x, h1, e1, e2⟩ := Res.bind_eq e
    obtain ⟨y, h2, e3, e4⟩ := Res.bind_eq e2
    obtain ⟨r, h3, e5, e6⟩ := Res.bind_eq e4
    refine .mk S En e1 fun m1 H1 x' g1 S1 r1 => .mk S1 (En.mono g1) e3 fun m2 H2 y' g2 S2 r2 => ?_
    have hh : h3 = h2 := (cop_of (Q := fun _ _ => True) e5 S2 (r1.mono g2) r2 trivial).2
    subst hh
    refine (cop_of (Q := fun z H3 => ∃ k, z = .bl k ∧ _) e5 S2 (r1.mono g2) r2 ⟨r, rfl, ?_⟩).1
    cases r with
    | false =>
      cases e6
      exact ⟨false, rfl, q m2 H2 (g1.trans g2) S2⟩
    | true =>
      obtain ⟨z, h4, e7, e9⟩ := Res.bind_eq e6
      refine .mk S2 ((En.mono g1).mono g2) e7 fun m3 H3 z' g3 S3 r3 => ?_
      have hh : h' = h4 := (cop_of (Q := fun _ _ => True) e9 S3 (r2.mono g3) r3 trivial).2
      subst hh
      exact (cop_of (Q := fun x H' => ∃ k, x = .bl k ∧ Q k H') e9 S3 (r2.mono g3) r3 ⟨v, rfl, q m3 H3 ((g1.trans g2).trans g3) S3⟩).1
  | .and a b, sc, e, X, h, G => by
    unfold chkT at h
    split at h <;> first | (cases h; done) | skip
    simp only [Bool.and_eq_true] at h
    have w := (sndT b h.2 G).2 _ _ _ rfl
    have fin := (pw_and (sndT a h.1 G).1 w).impW (t' := TTv P k X.K (.and a b)) fun σ H Q hq => by
      obtain ⟨m, s, hh, v, h', S, En, e, q⟩ := hq
      simp only [evt] at e
      obtain ⟨r, h1, e1, e2⟩ := Res.bind_eq e
      refine ⟨m, s, hh, r, h1, S, En, e1, fun m1 H1 g1 S1 => ?_⟩
      cases r with
      | true => exact ⟨m1, s, h1, v, h', S1, En.mono g1, e2, fun m2 H2 g2 S2 => q m2 H2 (g1.trans g2) S2⟩
      | false => cases e2; exact q m1 H1 g1 S1
    exact ⟨fin.pt, fun _ _ _ _ => fin⟩
  | .or a b, sc, e, X, h, G => by
    unfold chkT at h
    split at h <;> first | (cases h; done) | skip
    simp only [Bool.and_eq_true] at h
    have w := (sndT b h.2 G).2 _ _ _ rfl
    have fin := (pw_or (sndT a h.1 G).1 w).impW (t' := TTv P k X.K (.or a b)) fun σ H Q hq => by
      obtain ⟨m, s, hh, v, h', S, En, e, q⟩ := hq
      simp only [evt] at e
      obtain ⟨r, h1, e1, e2⟩ := Res.bind_eq e
      refine ⟨m, s, hh, r, h1, S, En, e1, fun m1 H1 g1 S1 => ?_⟩
      cases r with
      | false => exact ⟨m1, s, h1, v, h', S1, En.mono g1, e2, fun m2 H2 g2 S2 => q m2 H2 (g1.trans g2) S2⟩
      | true => cases e2; exact q m1 H1 g1 S1
    exact ⟨fin.pt, fun _ _ _ _ => fin⟩
  | .one a, sc, e, X, h, G => by
    unfold chkT at h
    split at h <;> first | (cases h; done) | skip
    rename_i op x pos
    have fin : PW X (.BoolOp op [x] pos) (TTv P k X.K (.one a)) := by
      cases op with
      | And => exact (pw_and1 (sndT a h G).1).impW fun σ H Q hq => hq
      | Or => exact (pw_or1 (sndT a h G).1).impW fun σ H Q hq => hq
    exact ⟨fin.pt, fun _ _ _ _ => fin⟩
  | .not a, sc, e, X, h, G => by
    unfold chkT at h
    split at h <;> first | (cases h; done) | skip
    refine ⟨?_, fun op es pos he => nomatch he⟩
    refine (pt_not (sndT a h G).1).imp fun σ H Q hq => ?_
    obtain ⟨m, s, hh, v, h', S, En, e, q⟩ := hq
    simp only [evt] at e
    obtain ⟨r, h1, e1, e2⟩ := Res.bind_eq e
    cases e2
    exact ⟨m, s, hh, r, _, S, En, e1, fun m1 H1 g1 S1 => q m1 H1 g1 S1⟩
theorem sndI : ∀ (c : I) {sc : Scope} {e tg : Expr} {X : Cx}, chkI N c sc e = true → Good P k sc N X → PI X tg e (TIv P k X.K c)
  | .seq a, sc, e, tg, X, h, G => by
    unfold chkI at h
    simp only [Bool.and_eq_true] at h
    refine (pi_seq (sndE a h.2 G)).imp fun σ H Q hq => ?_
    obtain ⟨m, s, hh, v, h', S, En, e, q⟩ := hq
    simp only [evi] at e
    obtain ⟨x, h1, e1, e2⟩ := Res.bind_eq e
    refine .mk S En e1 fun m1 H1 x' g1 S1 r1 => ?_
    cases r1 with
    | @tup p xs ys ht rs =>
      cases e2
      exact ⟨p, rfl, .inr ⟨⟨ys, ht⟩, q m1 H1 _ g1 S1 (itR_tup ht rs)⟩⟩
    | @ref n p ea =>
      simp only at e2
      split at e2 <;> first | (cases e2; done) | skip
      rename_i xs hx
      cases e2
      obtain ⟨ys, gl, rs⟩ := S1.list hx ea
      exact ⟨p, rfl, .inl ⟨⟨ys, gl⟩, q m1 H1 _ g1 S1 (itR_list ea)⟩⟩
    | _ => cases e2
  | .rng1 a, sc, e, tg, X, h, G => by
    unfold chkI at h
    split at h <;> first | (cases h; done) | skip
    simp only [Bool.and_eq_true, decide_eq_true_eq] at h
    obtain ⟨⟨⟨rfl, h2⟩, h3⟩, h4⟩ := h
    obtain ⟨g1, g2, g3⟩ := G.gl h2
    have st := starEach_cons (env := X.env) (es := []) h3
    refine (pi_range1 g1 (G.blt _ (by decide)) (pa_cons (sndE a h4 G) pa_nil st) st).imp fun σ H Q hq => ?_
    obtain ⟨m, s, hh, v, h', S, En, e, q⟩ := hq
    simp only [evi] at e
    obtain ⟨x, h1, e1, e2⟩ := Res.bind_eq e
    split at e2 <;> first | (cases e2; done) | skip
    split at e2 <;> first | (cases e2; done) | skip
    rename_i j hj
    cases e2
    refine .mk S En e1 fun m1 H1 x' g1 S1 r1 => ?_
    cases r1
    exact ⟨j, rfl, hj.1, hj.2, q m1 H1 _ g1 S1 (itR_range 0 j.toNat)⟩
  | .rng2 a b, sc, e, tg, X, h, G => by
    unfold chkI at h
    split at h <;> first | (cases h; done) | skip
    simp only [Bool.and_eq_true, decide_eq_true_eq] at h
    obtain ⟨⟨⟨⟨⟨rfl, h2⟩, h3⟩, h3'⟩, h4⟩, h5⟩ := h
    obtain ⟨g1, g2, g3⟩ := G.gl h2
    rename_i x y _
    have st2 := starEach_cons (env := X.env) (es := []) h3'
    have st : starEach [x, y] X.env = [(false, eval x X.env), (false, eval y X.env)] := by rw [starEach_cons h3, st2]; rfl
    refine (pi_range2 g1 (G.blt _ (by decide)) (pa_cons (sndE a h4 G) (pa_cons (sndE b h5 G) pa_nil st2) (starEach_cons h3)) st st2).imp fun σ H Q hq => ?_
    obtain ⟨m, s, hh, v, h', S, En, e, q⟩ := hq
    simp only [evi] at e
    obtain ⟨x, h1, e1, e2⟩ := Res.bind_eq e
    obtain ⟨y, h2, e3, e4⟩ := Res.bind_eq e2
    split at e4 <;> first | (cases e4; done) | skip
    split at e4 <;> first | (cases e4; done) | skip
    rename_i i j hj
    cases e4
    refine .mk S En e1 fun m1 H1 x' g1 S1 r1 => .mk S1 (En.mono g1) e3 fun m2 H2 y' g2 S2 r2 => ?_
    cases r1
    cases r2
    exact ⟨i, j, rfl, hj, q m2 H2 _ (g1.trans g2) S2 (itR_range i (j - i).toNat)⟩
  | .dky a, sc, e, tg, X, h, G => by
    unfold chkI at h
    simp only [Bool.and_eq_true] at h
    refine (pi_keys (sndE a h.2 G)).imp fun σ H Q hq => ?_
    obtain ⟨m, s, hh, v, h', S, En, e, q⟩ := hq
    simp only [evi] at e
    obtain ⟨x, h1, e1, e2⟩ := Res.bind_eq e
    split at e2 <;> first | (cases e2; done) | skip
    split at e2 <;> first | (cases e2; done) | skip
    rename_i n kvs hk
    cases e2
    refine .mk S En e1 fun m1 H1 x' g1 S1 r1 => ?_
    obtain ⟨p, rfl, ea⟩ := r1.ref_inv
    obtain ⟨o, ws, gd, rk⟩ := S1.fdc hk ea
    exact ⟨p, o, rfl, .inl ⟨ws, gd, q m1 H1 _ g1 S1 (itR_keys ea gd rk)⟩⟩
end
end
end Ev
/-! EvLst: a, b = a list. -/
namespace Ev
open PySem PySem.Spec PyProof.Rows L2
section
variable {prog : Program} {w : World} {A : Around} {E : Value → Shared → Prop} {s : Shared}
theorem lst_but {h h' : Heap} {l it : Addr} {items : Array Value} (x : h.IsList l items) (k : ∀ b o, b ≠ it → h.get? b = some o → h'.get? b = some o) (hne : l ≠ it) : h'.IsList l items := by
  obtain ⟨o, e, r⟩ := x
  exact ⟨o, k l o hne e, r⟩
theorem draw_lst {it l : Addr} {items : Array Value} (hne : l ≠ it) : ∀ (n i : Nat) (s : Shared) (Q : List Value → Shared → Prop), s.heap.IsListIter it l i → s.heap.IsList l items → i + n ≤ items.size →
    (∀ h', h'.IsListIter it l (i + n) → Heap.SameBut it s.heap h' → Q ((items.toList.drop i).take n) { s with heap := h' }) → wpAny (model prog w) A (draw (.ref it) n) Q E s
  | 0, i, s, Q, hit, _, _, hQ => by
    show wpAny _ _ (pure []) Q E s
    exact wpAny_pure (by simpa using hQ s.heap hit (Heap.SameBut.refl ..))
  | n + 1, i, s, Q, hit, hl, hle, hQ => by
    have hlt : i < items.size := by omega
    show wpAny _ _ (pyNext (.ref it) >>= _) Q E s
    refine wpAny_bind (wpAny_pyNext_list_item hit hl (x := items[i]) (by simp [hlt]) fun h₁ hit₁ hs₁ => ?_)
    refine wpAny_bind (wpAny_holding (draw_lst hne n (i + 1) _ _ hit₁ (lst_but hl (fun b o hb e => (hs₁.2 b hb).trans e) hne) (by omega) fun h₂ hit₂ hs₂ => wpAny_pure ?_))
    have hd : items.toList.drop i = items[i] :: items.toList.drop (i + 1) := by simp [List.drop_eq_getElem_cons, hlt]
    have := hQ h₂ (by rw [show i + (n + 1) = i + 1 + n by omega]; exact hit₂) (hs₁.trans hs₂)
    rw [hd, List.take_succ_cons] at this
    exact this
theorem unpack_lst {l : Addr} {items : Array Value} {targets : List (Bool × (Value → Sem Unit))} {Q : Unit → Shared → Prop} (hh : A.handled = none) (hl : s.heap.IsList l items)
    (hn : targets.length = items.size) (hstar : targets.findIdx? (·.1) = none)
    (h : ∀ h', Heap.ExtBut s.heap.objs.size s.heap h' → wpAny (model prog w) A (assignInOrder (targets.map (·.2)) items.toList) Q E { s with heap := h' }) :
    wpAny (model prog w) A (unpack (.ref l) targets) Q E s := by
  have hlt : l ≠ s.heap.objs.size := by obtain ⟨o, ho, _⟩ := hl; exact Nat.ne_of_lt (Heap.lt_size ho)
  unfold unpack
  rw [hn, hstar]
  refine wpAny_bind (wpAny_holding ?_)
  unfold unpackItems
  refine wpAny_bind ?_
  unfold notIterableAtAll
  refine wpAny_bind (wpAny_specialOf hl.typeIs slot_list_iter.lookup ?_)
  refine wpAny_pure ?_
  simp only [Bool.false_eq_true, if_false]
  refine wpAny_bind (wpAny_holding (wpAny_pyIter_list hl ?_))
  refine wpAny_bind (wpAny_holding (draw_lst hlt items.size 0 _ _ ⟨_, Heap.get?_push_size _ rfl, rfl, rfl⟩ (lst_but hl (fun b o _ e => Heap.get?_push_of_some _ e) hlt) (by omega) fun h₁ hit₁ hs₁ => ?_))
  have hall : List.take items.size (List.drop 0 items.toList) = items.toList := by
    rw [List.drop_zero]; exact List.take_of_length_le (by simp)
  rw [hall]
  rw [if_neg (by simp)]
  have hl₁ : h₁.IsList l items := lst_but hl (fun b o hb e => (hs₁.2 b hb).trans (Heap.get?_push_of_some _ e)) hlt
  refine wpAny_bind (wpAny_holding (wpAny_pyNext_list_end hh hit₁ hl₁ (by simp) fun h₂ he₂ => ?_))
  simp only [Option.isSome_none, Bool.false_eq_true, if_false]
  refine wpAny_pure (h h₂ fun b o hb e => he₂ b o hb ((hs₁.2 b hb).trans (Heap.get?_push_of_some _ e)))
end
/-- (a, b, ..) = a list or a tuple of that length -/
def gSeq (K : PySem.W.Frag) (n : Nat) (t : TGs) : TG := fun v σ H Q => ∃ a xs, v = .ref a ∧ (SqT K H a xs ∨ SqL K H a xs) ∧ xs.length = n ∧ t xs σ H Q
theorem pg_seq {X : Cx} {pos : Pos} {es : List Expr} {k : Nat} {t : TGs} {n : Nat} (hc : X.calm = true) (h : PGs X es t)
    (hn : (assignEach es X.env).length = n := by rfl) (hst : (assignEach es X.env).findIdx? (·.1) = none := by rfl) : PG X (.Tuple es k pos) (gSeq X.K n t) := by
  refine ⟨fun pins s σ H v u Q I r hw => ?_⟩
  obtain ⟨a, xs, e1, hq | hq, hl, hw⟩ := hw
  · exact (pg_tup hc h hn hst).run pins s σ H v u Q I r ⟨a, xs, e1, hq, hl, hw⟩
  · subst e1
    cases r
    obtain ⟨its, rv, pl, hz⟩ := I.list hq
    rw [assign_Tuple]
    refine wpAny_bind (wpAny_standAt (unpack_lst (I.ok.hd hc) pl.isList (by simp [hn, ← hl, rv.length]) hst fun h' hx => ?_))
    have I1 : Inv X pins σ H { s with heap := h' } := I.kept (t' := s.toks) fun b o e => hx b o (Nat.ne_of_lt (Heap.lt_size e)) e
    exact h.run pins _ σ H xs _ Q I1 (by simpa using rv) hw
theorem parE {P : Prog} {k : Nat} {N : List Str} {is : List Nat} {e : E} {sc : Scope} {X : Cx} {es : List Expr} {kk : Nat} {p2 pos : Pos} {f : Expr} {as : List Expr} {kws : List Keyword} {cp : Pos} (G : Good P k sc N X) (h2 : chkTg N sc (.tp is) (.Tuple es kk p2) = true)
    (he : PE X (.Call f as kws cp) (TEv P k X.K e)) : PS X (.Assign [.Tuple es kk p2] (.Call f as kws cp) pos) (fun D σ H => ∃ m s h v h1 xs, StR X.K m h H ∧ EnR X.K m H s σ ∧ ev (Rcx P k) e s h = .ok v h1 ∧ seqOf v h1 = some xs ∧ xs.length = is.length ∧
      ∀ m1 H1 σ1, Grow m m1 H H1 → StR X.K m1 h1 H1 → EnR X.K m1 H1 ((is.zip xs).foldl (fun σ p => σ.set p.1 (some p.2)) s) σ1 → D.nx σ1 H1) := by
  simp only [chkTg] at h2
  obtain ⟨h3, h4⟩ := G.tgs is es h2
  refine (ps_asg he (pg_seq G.calm h3 h4 (List.findIdx?_eq_none_iff.mpr fun y hy => by simp [tgs_nostar is es h2 y hy]))).imp fun D σ H hq => ?_
  obtain ⟨m, s, h, v, h1, xs, S, En, e1, e2, hl, q⟩ := hq
  refine .mk S En e1 fun m1 H1 z g1 S1 r1 => ?_
  have fin : ∀ ys, Reps X.K m1 H1 xs ys → gNames is ys σ H1 D.nx := fun ys rs => gNames_of is xs ys s σ D.nx rs hl (En.mono g1) fun σ' E' _ => q m1 H1 σ' g1 S1 E'
  cases r1 with
  | @tup a xs' ys ht rs =>
    cases e2
    exact ⟨a, ys, rfl, .inl ht, by rw [← rs.length]; exact hl, fin ys rs⟩
  | @ref n a ea =>
    simp only [seqOf] at e2
    obtain ⟨ys, g, rs⟩ := S1.list e2 ea
    exact ⟨a, ys, rfl, .inr g, by rw [← rs.length]; exact hl, fin ys rs⟩
  | _ => cases e2
end Ev
/-! EvSnd5: statements, defs, programs. -/
namespace Ev
open PySem PySem.Spec PyProof.Rows L2

/-- what is wanted behind a statement, as the interpreter says how it ends -/
def FlP (K : PySem.W.Frag) (m : List Addr) (H : Hp) (h' : Hpe) (D : Ends) : Fl → Prop
  | .nx σ => ∀ m' H' τ, Grow m m' H H' → StR K m' h' H' → EnR K m' H' σ τ → D.nx τ H'
  | .rt v => Post K m H h' v D.rt
  | .bk σ => ∀ m' H' τ, Grow m m' H H' → StR K m' h' H' → EnR K m' H' σ τ → D.bk τ H'
  | .ct σ => ∀ m' H' τ, Grow m m' H H' → StR K m' h' H' → EnR K m' H' σ τ → D.ct τ H'
theorem FlP.up {K : PySem.W.Frag} {m m1 : List Addr} {H H1 : Hp} {h' : Hpe} {D : Ends} {f : Fl} (g : Grow m m1 H H1) (p : FlP K m H h' D f) : FlP K m1 H1 h' D f := by
  cases f with
  | nx σ => exact fun m' H' τ g' => p m' H' τ (g.trans g')
  | rt v => exact Post.up g p
  | bk σ => exact fun m' H' τ g' => p m' H' τ (g.trans g')
  | ct σ => exact fun m' H' τ g' => p m' H' τ (g.trans g')
section
variable (P : Prog) (k : Nat) (K : PySem.W.Frag)
def TSv (c : S) : TS := fun D σ H => ∃ m s h f h', StR K m h H ∧ EnR K m H s σ ∧ run (Rcx P k) c s h = .ok f h' ∧ FlP K m H h' D f
def TSsv (c : Ss) : TS := fun D σ H => ∃ m s h f h', StR K m h H ∧ EnR K m H s σ ∧ runs (Rcx P k) c s h = .ok f h' ∧ FlP K m H h' D f
end
section
variable {P : Prog} {k : Nat} {N : List Str}
theorem sw_dict {kx vx : Expr} {gs : List Comprehension} {scope : Scope} {pos py : Pos} {y : Str} {l : Nat} {env : Env} (hk : env.scope.kind = .function) (hy : env.scope.names.lookup y = some .local) (hl : (py.line == pos.line) = true)
    (ha : (scope.names.any fun (n, k) => n == y && (k == .local || k == .cell)) = false) : swapsWith (.DictComp kx vx gs scope pos) (some (.Name y py)) l env = pure true := by
  have ky : env.kindOf y = some .local := hy
  have hb : env.blockKind = .function := by unfold Env.blockKind; rw [hk]; rfl
  unfold swapsWith
  simp only [hb, ky, ha, Expr.pos, hl]
  rfl
/-- name = {..} on one line, the name a local -/
theorem ps_setDc {X : Cx} {i : Nat} {y : Str} {py : Pos} {kx vx tg iter : Expr} {ifs : List Expr} {scope : Scope} {own : List (Str × Nat)} {pos spos : Pos} {wi : TI} {g : TG} {tt : TT} {tk tv : TE} (hc : X.calm = true) (hN : X.N.Nodup) (hy : X.N[i]? = some y) (hyl : X.env.scope.names.lookup y = some .local)
    (hsw : swapsWith (.DictComp kx vx [⟨tg, iter, ifs, 0⟩] scope pos) (some (.Name y py)) spos.line X.env = pure true) (hi : PI X tg iter wi) (ok : BlkOk X.N X.env.scope scope own)
    (hg : ∀ (s : Shared) (H : Hp) (C : Addr) (cl : List (Str × Addr)) (fp : List Addr), PG (X.blk s H scope (compEnvC scope cl C X.env) fp) tg g) (ht : ∀ (s : Shared) (H : Hp) (C : Addr) (cl : List (Str × Addr)) (fp : List Addr), PTs (X.blk s H scope (compEnvC scope cl C X.env) fp) ifs tt)
    (hk : ∀ (s : Shared) (H : Hp) (C : Addr) (cl : List (Str × Addr)) (fp : List Addr), PE (X.blk s H scope (compEnvC scope cl C X.env) fp) kx tk)
    (he : ∀ (s : Shared) (H : Hp) (C : Addr) (cl : List (Str × Addr)) (fp : List Addr), PE (X.blk s H scope (compEnvC scope cl C X.env) fp) vx tv) (hs : ∀ x, foldedSetIterable iter X.env x = pure x) :
    PS X (.Assign [.Name y py] (.DictComp kx vx [⟨tg, iter, ifs, 0⟩] scope pos) spos) (tAsg (tDc wi g tt tk tv (own.map (·.2))) (gName i)) := by
  refine ⟨fun pins s σ H D I h => ?_⟩
  rw [exec_Assign_Name_used _ _ _ _ hsw]
  refine wpAny_bind (wpAny_standAt (wpAny_bind ?_))
  have h : tDc wi g tt tk tv (own.map (·.2)) σ H (fun x H1 => gName i x σ H1 D.nx) := h
  show wpAny _ X.A (do let _ ← comprehension (.DictComp kx vx [⟨tg, iter, ifs, 0⟩] scope pos) scope X.env (firstIterPos [⟨tg, iter, ifs, 0⟩] pos) newDict false (eval iter X.env) (some (assign (.Name y py) X.env))) _ _ s
  refine wpAny_bind (thn (dc_core (Qf := fun _ s' => SP X pins D .next s') hc hN I hi ok hg ht hk he hs h fun L C s' m H' I' q hn f => ?_) fun _ s' hq => wpAny_pure (wpAny_pure hq))
  show wpAny _ _ (assign (.Name y py) X.env (.ref L)) _ _ _
  refine wpAny_assign_Name (store_ok2 (v := V.ref L) I' hN hy (.inl hyl) rfl (fun s2 I2 ⟨a, sb, ha⟩ => ?_) (.inr hyl))
  obtain ⟨f0, f1, f2, f3, f4, f5⟩ := f
  have haC : C ≠ a := by
    rcases ha with z | z
    · rw [z]; exact f1
    · exact fun e => f4 y a z e.symm
  refine ⟨m, hn.sameBut sb haC, fun h3 sb3 => ?_⟩
  exact ⟨_, H', I2.turned (t' := s2.toks) (fun b o hb e => (sb3.2 b hb).trans e) f0 f1 f3 f4 f5, q⟩

/-- o[i] = v of lists and dicts -/
def rSetE : V → V → V → Hp → (Hp → Prop) → Prop := fun o i v H Q => rSetL o i v H Q ∨ ∃ a H', o = .ref a ∧ DPut H a i v H' ∧ Q H'
theorem set_E {X : Cx} (hu : X.A.units + 1 < cLine) : PSet X rSetE := by
  intro pins s σ H o i v ov iv u Q I ro ri rv h
  rcases h with h | ⟨a, H', rfl, hp, q⟩
  · exact set_list pins s σ H o i v ov iv u Q I ro ri rv h
  · cases ro
    exact d_setItem hu I hp ri rv fun s' I' => ⟨H', I', q⟩
theorem setItem_of {K : PySem.W.Frag} {m : List Addr} {h h' : Hpe} {H : Hp} {o i v : Val} {x y z : V} {Q : Hp → Prop} (e : setItem o i v h = .ok () h') (S : StR K m h H) (ro : Rep K m H o x) (ri : Rep K m H i y) (rv : Rep K m H v z)
    (q : ∀ m' H', Grow m m' H H' → StR K m' h' H' → Q H') : rSetE x y z H Q := by
  cases ro with
  | @ref n a ea =>
    cases ri with
    | int j =>
      simp only [setItem] at e
      split at e <;> first | (cases e; done) | skip
      rename_i xs hx
      split at e <;> first | (cases e; done) | skip
      rename_i p hp
      cases e
      obtain ⟨ys, ga, ra⟩ := S.lst hx ea
      have g : Grow m m H (upd H a (.lst (ys.set p z))) := Grow.write ga (fun _ z => nomatch z) (fun _ _ z => nomatch z)
      obtain ⟨S', g'⟩ := S.write (o' := .lst (xs.set p v)) (u' := .lst (ys.set p z)) hx ea rfl ⟨_, upd_same, Reps.set (rv.mono g) p (ra.mono g)⟩
      exact .inl ⟨a, ys, j, p, rfl, rfl, ga, by rw [← ra.length]; exact hp, q _ _ g' S'⟩
    | str j =>
      simp only [setItem] at e
      split at e <;> first | (cases e; done) | skip
      rename_i xs hx
      split at e <;> first | (cases e; done) | skip
      rename_i hz
      cases e
      obtain ⟨ys, ga, ra⟩ := S.dic hx ea
      have g : Grow m m H (upd H a (.dK (putK ys (.inr j) z))) := Grow.write ga (fun _ z => nomatch z) (fun _ _ z => nomatch z)
      obtain ⟨S', g'⟩ := S.write (o' := .dic (putD xs (.str j) v)) (u' := .dK (putK ys (.inr j) z)) hx ea rfl ⟨_, upd_same, (ra.mono g).put (.str j) (rv.mono g)⟩
      exact .inr ⟨a, _, rfl, .inl ⟨ys, .inr j, ga, rfl, by rw [← size_eq, ← ra.length]; exact hz, rfl⟩, q _ _ g' S'⟩
    | _ => cases e
  | _ => cases e
theorem lockS_of {K : PySem.W.Frag} {i : Nat} {c : S} {D : Ends} {σ : L2.St} {H : Hp} (hq : TSv P k K (.lock i c) D σ H) : tLock (TSv P k K c) D σ H := by
  obtain ⟨m, s, h, f, h', S, En, e, q⟩ := hq
  simp only [run] at e
  split at e <;> first | (cases e; done) | skip
  rename_i n hs
  split at e <;> first | (cases e; done) | skip
  rename_i kvs hk
  obtain ⟨w, h1, e1, e2⟩ := Res.bind_eq e
  split at e2 <;> first | (cases e2; done) | skip
  rename_i kvs' hk'
  cases e2
  obtain ⟨x, hx, rx⟩ := En.at_ i _ hs
  obtain ⟨a, rfl, ea⟩ := rx.ref_inv
  obtain ⟨ws, ga, rk⟩ := S.dic hk ea
  refine ⟨a, .dK ws, ga, True.intro, fun od => ?_⟩
  obtain ⟨S1, g1⟩ := S.lock hk ea ga rk od
  refine ⟨m, s, _, f, h1, S1, En.mono g1, e1, ?_⟩
  have en : ∀ {m2 : List Addr} {H2 : Hp} {τ : L2.St} {σ' : Ev.En}, (∀ v x, Rep K m2 H2 v x → Rep K m2 (upd H2 a (.dK ws)) v x) → EnR K m2 H2 σ' τ → EnR K m2 (upd H2 a (.dK ws)) σ' τ := fun up En => ⟨En.len, fun i v e => let ⟨x, h1, h2⟩ := En.at_ i v e; ⟨x, h1, up _ _ h2⟩⟩
  cases f with
  | nx σ' =>
    intro m2 H2 τ g2 S2 En2
    obtain ⟨ef, S3, g3, up⟩ := StR.unlock S2 g2 ga rk hk' (g2.pre _ _ ea)
    exact ⟨ef, q m2 _ τ g3 S3 (en up En2)⟩
  | rt v =>
    intro m2 H2 y g2 S2 r2
    obtain ⟨ef, S3, g3, up⟩ := StR.unlock S2 g2 ga rk hk' (g2.pre _ _ ea)
    exact ⟨ef, q m2 _ y g3 S3 (up _ _ r2)⟩
  | bk σ' =>
    intro m2 H2 τ g2 S2 En2
    obtain ⟨ef, S3, g3, up⟩ := StR.unlock S2 g2 ga rk hk' (g2.pre _ _ ea)
    exact ⟨ef, q m2 _ τ g3 S3 (en up En2)⟩
  | ct σ' =>
    intro m2 H2 τ g2 S2 En2
    obtain ⟨ef, S3, g3, up⟩ := StR.unlock S2 g2 ga rk hk' (g2.pre _ _ ea)
    exact ⟨ef, q m2 _ τ g3 S3 (en up En2)⟩
theorem for_of {K : PySem.W.Frag} {tg : Tg} {it : I} {body : Ss} {D : Ends} {σ : L2.St} {H : Hp} (hq : TSv P k K (.fors tg it body) D σ H) : tFor (TIv P k K it) (TGv K tg) (TSsv P k K body) D σ H := by
  obtain ⟨m, s, h, f, h', S, En, e, q⟩ := hq
  simp only [run] at e
  obtain ⟨src, h1, e1, e2⟩ := Res.bind_eq e
  refine ⟨m, s, h, src, h1, S, En, e1, fun m1 H1 J g1 S1 hJ => ?_⟩
  refine ⟨fun i n τ H2 => n = src.items.length - i ∧ i ≤ src.items.length ∧ ∃ m2 h2 s2, Grow m m2 H H2 ∧ Grow m1 m2 H1 H2 ∧ StR K m2 h2 H2 ∧ EnR K m2 H2 s2 τ ∧ forL src tg (runs (Rcx P k) body) (src.items.drop i) s2 h2 = .ok f h',
    ⟨src.items.length, by simp, Nat.zero_le _, m1, h1, s, g1, .refl _ _, S1, En.mono g1, e2⟩, ?_⟩
  rintro i n τ H2 ⟨rfl, hi, m2, h2, s2, g2, g12, S2, En2, e3⟩
  by_cases hlt : i < src.items.length
  · obtain ⟨x, hx, hdr⟩ := drop_cons hlt
    rw [hdr] at e3
    unfold forL at e3
    split at e3 <;> first | (cases e3; done) | skip
    rename_i hst
    split at e3 <;> first | (cases e3; done) | skip
    rename_i s3 hs3
    obtain ⟨hgo, hy⟩ := hJ.go i x m2 h2 H2 g12 S2 hst hx
    obtain ⟨fl, h3, e4, e5⟩ := Res.bind_eq e3
    refine .inr ⟨hgo, fun τ' H' => ∃ m2 h2 s2, Grow m m2 H H' ∧ Grow m1 m2 H1 H' ∧ StR K m2 h2 H' ∧ EnR K m2 H' s2 τ' ∧ forL src tg (runs (Rcx P k) body) (src.items.drop (i + 1)) s2 h2 = .ok f h',
      fun τ' H' ⟨m3, h3, s3, a1, a2, a3, a4, a5⟩ => ⟨src.items.length - (i + 1), by omega, rfl, hlt, m3, h3, s3, a1, a2, a3, a4, a5⟩, fun x' H3 hyl => ?_⟩
    obtain ⟨g3, S3, r3⟩ := hy x' H3 hyl
    refine ⟨m2, s2, x, s3, En2.mono g3, r3, hs3, fun τ3 En3 _ => ?_⟩
    refine ⟨m2, s3, h2, fl, h3, S3, En3, e4, ?_⟩
    cases fl with
    | nx σ' => exact fun m4 H4 τ4 g4 S4 En4 => ⟨m4, h3, σ', (g2.trans g3).trans g4, (g12.trans g3).trans g4, S4, En4, e5⟩
    | ct σ' => exact fun m4 H4 τ4 g4 S4 En4 => ⟨m4, h3, σ', (g2.trans g3).trans g4, (g12.trans g3).trans g4, S4, En4, e5⟩
    | bk σ' =>
      cases e5
      exact fun m4 H4 τ4 g4 S4 En4 => q m4 H4 τ4 ((g2.trans g3).trans g4) S4 En4
    | rt v =>
      cases e5
      exact fun m4 H4 y g4 S4 r4 => q m4 H4 y ((g2.trans g3).trans g4) S4 r4
  · have hi' : i = src.items.length := by omega
    subst hi'
    rw [List.drop_length] at e3
    unfold forL at e3
    split at e3 <;> first | (cases e3; done) | skip
    rename_i hst
    cases e3
    exact .inl ⟨hJ.stop m2 _ H2 g12 S2 hst, q m2 H2 τ g2 S2 En2⟩
theorem while_of {K : PySem.W.Frag} {c : T} {body : Ss} {D : Ends} {σ : L2.St} {H : Hp} (hq : TSv P k K (.whil c body) D σ H) : tWhile (TTv P k K c) (TSsv P k K body) D σ H := by
  obtain ⟨m, s, h, f, h', S, En, e, q⟩ := hq
  simp only [run] at e
  refine ⟨fun n τ H2 => ∃ m2 h2 s2, Grow m m2 H H2 ∧ StR K m2 h2 H2 ∧ EnR K m2 H2 s2 τ ∧ whileL (evt (Rcx P k) c) (runs (Rcx P k) body) n s2 h2 = .ok f h', ⟨_, m, h, s, .refl _ _, S, En, e⟩, ?_⟩
  rintro n τ H2 ⟨m2, h2, s2, g2, S2, En2, e3⟩
  cases n with
  | zero => cases e3
  | succ n =>
    unfold whileL at e3
    obtain ⟨b, h3, e4, e5⟩ := Res.bind_eq e3
    refine ⟨m2, s2, h2, b, h3, S2, En2, e4, fun m3 H3 g3 S3 => ?_⟩
    cases b with
    | false =>
      cases e5
      exact q m3 H3 τ (g2.trans g3) S3 (En2.mono g3)
    | true =>
      obtain ⟨fl, h4, e6, e7⟩ := Res.bind_eq e5
      refine ⟨fun τ' H' => ∃ m2 h2 s2, Grow m m2 H H' ∧ StR K m2 h2 H' ∧ EnR K m2 H' s2 τ' ∧ whileL (evt (Rcx P k) c) (runs (Rcx P k) body) n s2 h2 = .ok f h', fun τ' H' h => ⟨n, Nat.lt_succ_self n, h⟩, m3, s2, h3, fl, h4, S3, En2.mono g3, e6, ?_⟩
      cases fl with
      | nx σ' => exact fun m4 H4 τ4 g4 S4 En4 => ⟨m4, h4, σ', (g2.trans g3).trans g4, S4, En4, e7⟩
      | ct σ' => exact fun m4 H4 τ4 g4 S4 En4 => ⟨m4, h4, σ', (g2.trans g3).trans g4, S4, En4, e7⟩
      | bk σ' =>
        cases e7
        exact fun m4 H4 τ4 g4 S4 En4 => q m4 H4 τ4 ((g2.trans g3).trans g4) S4 En4
      | rt v =>
        cases e7
        exact fun m4 H4 y g4 S4 r4 => q m4 H4 y ((g2.trans g3).trans g4) S4 r4
/-- name = e: any value -/
theorem setE {X : Cx} {sc : Scope} {i : Nat} {x : Str} {px p : Pos} {e : E} {v : Expr} (G : Good P k sc N X) (hi : N[i]? = some x) (hl : Ev.loc sc x = true) (hfun : X.env.scope.kind = .function) (he : chkE N e sc v = true)
    (hsw : (ncomp v || !isLocal sc x || (nlock e && swOk x px v)) = true) : PS X (.Assign [.Name x px] v p) (TSv P k X.K (.set i e)) := by
  obtain ⟨l1, l2⟩ := G.loc hl
  have rd : ∀ D σ H, TSv P k X.K (.set i e) D σ H → TEv P k X.K e σ H fun y H1 => gName i y σ H1 D.nx := fun D σ H hq => by
    obtain ⟨m, s, h, f, h', S, En, e1, q⟩ := hq
    simp only [run] at e1
    obtain ⟨w, h1, e2, e3⟩ := Res.bind_eq e1
    cases e3
    exact .mk S En e2 fun m1 H1 y g1 S1 r1 => q m1 H1 _ g1 S1 ((En.mono g1).set i r1)
  have plain : swapsWith v (some (.Name x px)) p.line X.env = pure false → PS X (.Assign [.Name x px] v p) (TSv P k X.K (.set i e)) := fun hs =>
    (ps_set (i := i) (by rw [G.names]; exact G.nd) (by rw [G.names]; exact hi) l1 (sndE e he G) hs l2).imp rd
  by_cases hc : ncomp v = true
  · exact plain (swaps_of hc)
  by_cases hloc : ¬ isLocal sc x = true
  · refine plain ?_
    have nl : ¬ X.env.kindOf x = some .local := by
      intro hk
      unfold isLocal at hloc
      unfold Ev.loc at hl
      split at hl
      · rename_i q; rw [q] at hloc; exact hloc rfl
      · rename_i q
        obtain ⟨kd, h1, h2 | ⟨h2, _⟩⟩ := G.scp x _ q
        · have : X.env.scope.names.lookup x = some .local := hk
          rw [h1, h2] at this; cases this
        · cases h2
      · cases hl
    have nb : (X.env.kindOf x == some .local) = false := beq_eq_false_iff_ne.mpr nl
    cases v <;> first | exact absurd rfl hc | skip
    · unfold swapsWith; simp only [nb, Bool.and_false, Bool.false_and]
    · unfold swapsWith; simp only [nb, Bool.and_false, Bool.false_and]
    · unfold swapsWith; simp only [nb, Bool.and_false, Bool.false_and]
  · have hc' : ncomp v = false := Bool.eq_false_iff.mpr hc
    have hloc : isLocal sc x = true := Decidable.not_not.mp hloc
    rw [hc', hloc] at hsw
    simp only [Bool.not_true, Bool.or_false, Bool.false_or, Bool.and_eq_true] at hsw
    obtain ⟨hlk, hsw⟩ := hsw
    have hxl : X.env.scope.names.lookup x = some .local := by
      unfold isLocal at hloc
      split at hloc
      · rename_i q
        obtain ⟨kd, h1, h2 | ⟨h2, _⟩⟩ := G.scp x _ q
        · rw [h1, h2]
        · cases h2
      · cases hloc
    cases v <;> first | exact absurd rfl hc | skip
    · -- a list comprehension
      rename_i elt gens scope pos
      obtain ⟨hline, hn⟩ : (px.line == pos.line) = true ∧ (scope.names.any fun (n, k) => n == x && (k == .local || k == .cell)) = false := by
        simp only [swOk, Bool.and_eq_true] at hsw
        exact ⟨hsw.1, Bool.not_eq_true' _ ▸ hsw.2⟩
      cases e with
      | lc el tg it c own =>
        unfold chkE at he
        split at he <;> first | (cases he; done) | skip
        rename_i hv
        cases hv
        simp only [Bool.and_eq_true] at he
        obtain ⟨⟨⟨⟨⟨h1, h2⟩, h3⟩, h4⟩, h5⟩, h6⟩ := he
        have hu := (blkOk_by h1).uniq
        refine (ps_setLc (i := i) (own := ownL N own) G.calm (by rw [G.names]; exact G.nd) (by rw [G.names]; exact hi) hxl (sw_true hfun hxl hline hn) (sndI it h4 G) (G.blkOk h1) (fun s H C cl fp => (G.blk hu s H C cl fp).tg h3) (tt := TTv P k X.K c) (fun s H C cl fp => ?_) (fun s H C cl fp => sndE el h6 (G.blk hu s H C cl fp))
          (fun x => folded_of (by cases it <;> simp [chkI] at h4 <;> first | exact h4.1 | (split at h4 <;> first | (cases h4; done) | rfl)) x)).imp fun D σ H hq => by
          rw [ownL_snd]; exact lc_of (ownsub h2) (rd D σ H hq)
        split at h5
        · split at h5 <;> first | (cases h5; done) | skip
          refine pts_nil.imp fun σ H Q hq => ?_
          obtain ⟨m, s, hh, b, h', S, En, e, q⟩ := hq
          cases e
          exact q m H (.refl _ _) S
        · exact pts_one (sndT c h5 (G.blk hu s H C cl fp)).1
        · cases h5
      | lock j e' => cases hlk
      | _ => simp [chkE] at he
    · cases hsw
    · -- a dict comprehension
      rename_i kx' vx' gens scope pos
      obtain ⟨hline, hn⟩ : (px.line == pos.line) = true ∧ (scope.names.any fun (n, k) => n == x && (k == .local || k == .cell)) = false := by
        simp only [swOk, Bool.and_eq_true] at hsw
        exact ⟨hsw.1, Bool.not_eq_true' _ ▸ hsw.2⟩
      cases e with
      | dc ke ve tg it c own =>
        unfold chkE at he
        split at he <;> first | (cases he; done) | skip
        rename_i hv
        cases hv
        simp only [Bool.and_eq_true] at he
        obtain ⟨⟨⟨⟨⟨⟨h1, h2⟩, h3⟩, h4⟩, h5⟩, h6⟩, h7⟩ := he
        have hu := (blkOk_by h1).uniq
        refine (ps_setDc (i := i) (own := ownL N own) G.calm (by rw [G.names]; exact G.nd) (by rw [G.names]; exact hi) hxl (sw_dict hfun hxl hline hn) (sndI it h4 G) (G.blkOk h1) (fun s H C cl fp => (G.blk hu s H C cl fp).tg h3) (tt := TTv P k X.K c) (fun s H C cl fp => ?_) (fun s H C cl fp => sndE ke h6 (G.blk hu s H C cl fp)) (fun s H C cl fp => sndE ve h7 (G.blk hu s H C cl fp))
          (fun x => folded_of (by cases it <;> simp [chkI] at h4 <;> first | exact h4.1 | (split at h4 <;> first | (cases h4; done) | rfl)) x)).imp fun D σ H hq => by
          rw [ownL_snd]; exact dc_of (ownsub h2) (rd D σ H hq)
        split at h5
        · split at h5 <;> first | (cases h5; done) | skip
          refine pts_nil.imp fun σ H Q hq => ?_
          obtain ⟨m, s, hh, b, h', S, En, e, q⟩ := hq
          cases e
          exact q m H (.refl _ _) S
        · exact pts_one (sndT c h5 (G.blk hu s H C cl fp)).1
        · cases h5
      | lock j e' => cases hlk
      | _ => simp [chkE] at he

mutual
theorem sndS : ∀ (c : S) {sc : Scope} {e : Stmt} {X : Cx}, chkS N c sc e = true → Good P k sc N X → X.env.scope.kind = .function → PS X e (TSv P k X.K c)
  | .set i e, sc, st, X, h, G, hf => by
    unfold chkS at h
    split at h <;> first | (cases h; done) | skip
    simp only [Bool.and_eq_true, decide_eq_true_eq] at h
    obtain ⟨⟨⟨h1, h2⟩, h3⟩, h4⟩ := h
    exact setE G h1 h2 hf h3 h4
  | .setSub o i v, sc, st, X, h, G, hf => by
    unfold chkS at h
    split at h <;> first | (cases h; done) | skip
    simp only [Bool.and_eq_true] at h
    obtain ⟨⟨⟨h2, h3⟩, h4⟩, h5⟩ := h
    rename_i eo ei pos' ev' pos
    have hasg : ∀ v, assign (.Subscript eo ei pos') X.env v = (do
      let ov ← holding [v] (eval eo X.env)
      let iv ← holding [v, ov] (eval ei X.env)
      standAt pos'
      holding [v, ov, iv] (PySem.setItem ov iv v)
      release [v, ov, iv] []) := by
      intro v
      cases ei <;> first | rfl | cases h2
    have hsw : swapsWithSole [.Subscript eo ei pos'] ev' pos.line X.env = pure false := by
      show swapsWith ev' (some (.Subscript eo ei pos')) pos.line X.env = pure false
      cases ev' <;> rfl
    refine (ps_asg (sndE v h3 G) (pg_sub (sndE o h4 G) (sndE i h5 G) (set_E (by have := G.units; omega)) hasg) hsw rfl rfl).imp fun D σ H hq => ?_
    obtain ⟨m, s, hh, f, h', S, En, e, q⟩ := hq
    simp only [run] at e
    obtain ⟨x, h1, e1, e2⟩ := Res.bind_eq e
    obtain ⟨y, h2, e3, e4⟩ := Res.bind_eq e2
    obtain ⟨z, h3, e5, e6⟩ := Res.bind_eq e4
    obtain ⟨⟨⟩, h4, e7, e8⟩ := Res.bind_eq e6
    cases e8
    exact .mk S En e1 fun m1 H1 x' g1 S1 r1 => .mk S1 (En.mono g1) e3 fun m2 H2 y' g2 S2 r2 => .mk S2 ((En.mono g1).mono g2) e5 fun m3 H3 z' g3 S3 r3 =>
      setItem_of e7 S3 (r2.mono g3) r3 ((r1.mono g2).mono g3) fun m4 H4 g4 S4 => q m4 H4 σ (((g1.trans g2).trans g3).trans g4) S4 ((((En.mono g1).mono g2).mono g3).mono g4)
  | .par is e, sc, st, X, h, G, hf => by
    unfold chkS at h
    split at h <;> first | (cases h; done) | skip
    simp only [Bool.and_eq_true] at h
    obtain ⟨⟨h1, h2⟩, h3⟩ := h
    split at h1 <;> first | (cases h1; done) | skip
    refine (parE G h2 (sndE e h3 G)).imp fun D σ H hq => ?_
    obtain ⟨m, s, hh, f, h', S, En, e0, q⟩ := hq
    simp only [run] at e0
    obtain ⟨v, h1, e1, e2⟩ := Res.bind_eq e0
    split at e2 <;> first | (cases e2; done) | skip
    rename_i xs hx
    split at e2 <;> first | (cases e2; done) | skip
    rename_i hl
    cases e2
    exact ⟨m, s, hh, v, _, xs, S, En, e1, hx, hl, fun m1 H1 σ1 g1 S1 E1 => q m1 H1 σ1 g1 S1 E1⟩
  | .aug i o e, sc, st, X, h, G, hf => by
    unfold chkS at h
    split at h <;> first | (cases h; done) | skip
    simp only [Bool.and_eq_true, decide_eq_true_eq] at h
    obtain ⟨⟨⟨⟨h1, h2⟩, rfl⟩, h4⟩, h5⟩ := h
    obtain ⟨l1, l2⟩ := G.loc h2
    rcases h4 with rfl | rfl
    · refine (ps_aug (by rw [G.names]; exact G.nd) (by rw [G.names]; exact h1) l1 (sndE e h5 G) ip_add l2).imp fun D σ H hq => ?_
      obtain ⟨m, s, hh, f, h', S, En, e1, q⟩ := hq
      simp only [run] at e1
      split at e1 <;> first | (cases e1; done) | skip
      rename_i x hx
      obtain ⟨y, h1, e2, e3⟩ := Res.bind_eq e1
      split at e3 <;> first | (cases e3; done) | skip
      cases e3
      obtain ⟨x', hx', rx⟩ := En.at_ _ _ hx
      cases rx
      refine ⟨_, hx', .mk S En e2 fun m1 H1 y' g1 S1 r1 => ?_⟩
      cases r1
      exact ⟨_, _, rfl, rfl, q m1 H1 _ g1 S1 ((En.mono g1).set i (.int _))⟩
    · refine (ps_aug (by rw [G.names]; exact G.nd) (by rw [G.names]; exact h1) l1 (sndE e h5 G) ip_sub l2).imp fun D σ H hq => ?_
      obtain ⟨m, s, hh, f, h', S, En, e1, q⟩ := hq
      simp only [run] at e1
      split at e1 <;> first | (cases e1; done) | skip
      rename_i x hx
      obtain ⟨y, h1, e2, e3⟩ := Res.bind_eq e1
      split at e3 <;> first | (cases e3; done) | skip
      cases e3
      obtain ⟨x', hx', rx⟩ := En.at_ _ _ hx
      cases rx
      refine ⟨_, hx', .mk S En e2 fun m1 H1 y' g1 S1 r1 => ?_⟩
      cases r1
      exact ⟨_, _, rfl, rfl, q m1 H1 _ g1 S1 ((En.mono g1).set i (.int _))⟩
  | .expr e, sc, st, X, h, G, hf => by
    unfold chkS at h
    split at h <;> first | (cases h; done) | skip
    simp only [Bool.and_eq_true] at h
    refine (ps_expr (sndE e h.2 G) (swaps_of h.1)).imp fun D σ H hq => ?_
    obtain ⟨m, s, hh, f, h', S, En, e1, q⟩ := hq
    simp only [run] at e1
    obtain ⟨y, h1, e2, e3⟩ := Res.bind_eq e1
    cases e3
    exact .mk S En e2 fun m1 H1 y' g1 S1 r1 => q m1 H1 _ g1 S1 (En.mono g1)
  | .ret e, sc, st, X, h, G, hf => by
    unfold chkS at h
    split at h <;> first | (cases h; done) | skip
    refine (ps_ret (sndE e h G)).imp fun D σ H hq => ?_
    obtain ⟨m, s, hh, f, h', S, En, e1, q⟩ := hq
    simp only [run] at e1
    obtain ⟨y, h1, e2, e3⟩ := Res.bind_eq e1
    cases e3
    exact .mk S En e2 fun m1 H1 y' g1 S1 r1 => q m1 H1 _ g1 S1 r1
  | .retN, sc, st, X, h, G, hf => by
    unfold chkS at h
    split at h <;> first | (cases h; done) | skip
    refine ps_retN.imp fun D σ H hq => ?_
    obtain ⟨m, s, hh, f, h', S, En, e1, q⟩ := hq
    cases e1
    exact q m H _ (.refl _ _) S .non
  | .ifs c a b, sc, st, X, h, G, hf => by
    unfold chkS at h
    split at h <;> first | (cases h; done) | skip
    simp only [Bool.and_eq_true] at h
    refine (ps_if (sndT c h.1.1 G).1 (sndSs a h.1.2 G hf) (sndSs b h.2 G hf)).imp fun D σ H hq => ?_
    obtain ⟨m, s, hh, f, h', S, En, e1, q⟩ := hq
    simp only [run] at e1
    obtain ⟨r, h1, e2, e3⟩ := Res.bind_eq e1
    refine ⟨m, s, hh, r, h1, S, En, e2, fun m1 H1 g1 S1 => ?_⟩
    cases r with
    | true => exact ⟨m1, s, h1, f, h', S1, En.mono g1, e3, q.up g1⟩
    | false => exact ⟨m1, s, h1, f, h', S1, En.mono g1, e3, q.up g1⟩
  | .fors tg it body, sc, st, X, h, G, hf => by
    unfold chkS at h
    split at h <;> first | (cases h; done) | skip
    simp only [Bool.and_eq_true] at h
    obtain ⟨⟨h1, h2⟩, h3⟩ := h
    exact (ps_for (by rw [G.nox]; exact PassesOwn.never) G.calm (sndI it h2 G) (G.tg h1) (sndSs body h3 G hf) (fun x => folded_of (by cases it <;> simp [chkI] at h2 <;> first | exact h2.1 | (split at h2 <;> first | (cases h2; done) | rfl)) x)).imp fun D σ H hq => for_of hq
  | .whil c body, sc, st, X, h, G, hf => by
    unfold chkS at h
    split at h <;> first | (cases h; done) | skip
    simp only [Bool.and_eq_true] at h
    exact (ps_while (by rw [G.nox]; exact PassesOwn.never) (sndT c h.1 G).1 (sndSs body h.2 G hf)).imp fun D σ H hq => while_of hq
  | .pass, sc, st, X, h, G, hf => by
    unfold chkS at h
    split at h <;> first | (cases h; done) | skip
    refine ps_pass.imp fun D σ H hq => ?_
    obtain ⟨m, s, hh, f, h', S, En, e1, q⟩ := hq
    cases e1
    exact q m H σ (.refl _ _) S En
  | .brk, sc, st, X, h, G, hf => by
    unfold chkS at h
    split at h <;> first | (cases h; done) | skip
    refine ps_break.imp fun D σ H hq => ?_
    obtain ⟨m, s, hh, f, h', S, En, e1, q⟩ := hq
    cases e1
    exact q m H σ (.refl _ _) S En
  | .cnt, sc, st, X, h, G, hf => by
    unfold chkS at h
    split at h <;> first | (cases h; done) | skip
    refine ps_continue.imp fun D σ H hq => ?_
    obtain ⟨m, s, hh, f, h', S, En, e1, q⟩ := hq
    cases e1
    exact q m H σ (.refl _ _) S En
  | .lock i a, sc, st, X, h, G, hf => by
    have h' : chkS N a sc st = true := by unfold chkS at h; exact h
    exact (ps_lock (sndS a h' G hf)).imp fun D σ H hq => lockS_of hq
theorem sndSs : ∀ (c : Ss) {sc : Scope} {e : List Stmt} {X : Cx}, chkSs N c sc e = true → Good P k sc N X → X.env.scope.kind = .function → PSs X e (TSsv P k X.K c)
  | .nil, sc, st, X, h, G, hf => by
    unfold chkSs at h
    split at h <;> first | (cases h; done) | skip
    refine pss_nil.imp fun D σ H hq => ?_
    obtain ⟨m, s, hh, f, h', S, En, e1, q⟩ := hq
    cases e1
    exact q m H σ (.refl _ _) S En
  | .cons c cs, sc, st, X, h, G, hf => by
    unfold chkSs at h
    split at h <;> first | (cases h; done) | skip
    simp only [Bool.and_eq_true] at h
    refine (pss_cons (sndS c h.1 G hf) (sndSs cs h.2 G hf)).imp fun D σ H hq => ?_
    obtain ⟨m, s, hh, f, h', S, En, e1, q⟩ := hq
    simp only [runs] at e1
    obtain ⟨fl, h1, e2, e3⟩ := Res.bind_eq e1
    refine ⟨m, s, hh, fl, h1, S, En, e2, ?_⟩
    cases fl with
    | nx σ' => exact fun m1 H1 τ g1 S1 En1 => ⟨m1, σ', h1, f, h', S1, En1, e3, q.up g1⟩
    | rt v => cases e3; exact q
    | bk σ' => cases e3; exact q
    | ct σ' => cases e3; exact q
end

/-! ### a def, a program -/
/-- a def of the text and its piece of the small language -/
structure FnChk (st : Stmt) (N ps : List Str) (F : Fn) : Prop where
  scope : FnScope N ps (defScope st)
  np : ps.length = F.np
  nl : F.nl = N.length
  body : chkSs N F.body (defScope st) (defBody st) = true
/-- the program as it stands behind the top -/
structure Linked (P : Prog) (K : PySem.W.Frag) (mg : Str → Option Value) : Prop where
  fns : ∀ f F, P.fn f = some F → ∃ (st : Stmt) (N ps : List Str) (a : Addr) (fd : FuncData), FnChk st N ps F ∧ Fun K f f st a fd ∧ Binds K fd ps [] ∧ mg f = some (.ref a)
  cons : ∀ x v, P.con x = some v → ∃ u y, mg x = some u ∧ RelV y u ∧ ∀ m H, Rep K m H v y
  blt : ∀ x ∈ bltNames, mg x = none
theorem lookup_self {names : List (Str × NameKind)} {x : Str} {kd : NameKind} (h : names.lookup x = some kd) : ∃ kd', names.lookup x = some kd' ∧ (kd' = kd ∨ (kd = .free ∧ kd' = .cell)) := ⟨kd, h, .inl rfl⟩
theorem fn_ok {prog : Program} {w : World} {K : PySem.W.Frag} {mg : Str → Option Value} {base : Heap} (L : Linked P K mg)
    (ih : ∀ f F, P.fn f = some F → ∃ a fd ps, mg f = some (.ref a) ∧ PySem.W.keepIn K (.ref a) = true ∧ Binds K fd ps [] ∧ FnOk prog w K mg base CX0 k a fd ps (spE P k K f))
    (ih1 : ∀ f F, P.fn f = some F → ∃ a fd ps, mg f = some (.ref a) ∧ PySem.W.keepIn K (.ref a) = true ∧ Binds K fd ps [] ∧ ∀ j, j + 1 = k → FnOk prog w K mg base CX0 j a fd ps (spE P j K f))
    {f : Str} {F : Fn} (hF : P.fn f = some F) {st : Stmt} {N ps : List Str} {a : Addr} {fd : FuncData} (C : FnChk st N ps F) (U : Fun K f f st a fd) :
    FnOk prog w K mg base CX0 (k + 1) a fd ps (spE P (k + 1) K f) := by
  have len : ∀ vs H Q E, spE P (k + 1) K f vs H Q E → vs.length = ps.length := fun vs H Q E hq => by
    obtain ⟨m, h, as, v, h', S, r, e, q⟩ := hq
    rw [call_succ] at e
    simp only [callBy, hF] at e
    split at e <;> first | (cases e; done) | skip
    rename_i hl
    rw [← r.length, hl, C.np]
  refine U.ok C.scope len fun cdv A outer s H vs Q E hr hq => ?_
  obtain ⟨m, h, as, v, h', S, r, e, q⟩ := hq
  rw [call_succ] at e
  simp only [callBy, hF] at e
  split at e <;> first | (cases e; done) | skip
  obtain ⟨fl, h1, e1, e2⟩ := Res.bind_eq e
  have G : Good P k (defScope st) N (cxOf CX0 prog w K mg base N f (defScope st) a cdv A outer s H E).nox := {
    calm := rfl
    names := rfl
    nd := C.scope.nd
    room := hr
    nox := rfl
    scp := fun x kd hx => lookup_self hx
    fnc := fun _ _ => rfl
    fns := ih
    fns1 := ih1
    cons := L.cons
    blt := L.blt }
  refine ⟨_, sndSs F.body C.body G C.scope.kind, m, startE F.nl as, h, fl, h1, S, EnR.start r C.nl, e1, ?_⟩
  cases fl with
  | nx σ' => cases e2; exact fun m1 H1 τ g1 S1 _ => q m1 H1 _ g1 S1 .non
  | rt v => cases e2; exact q
  | bk σ' => cases e2
  | ct σ' => cases e2
theorem all_ok {prog : Program} {w : World} {K : PySem.W.Frag} {mg : Str → Option Value} {base : Heap} (L : Linked P K mg) :
    ∀ (k : Nat), (∀ (f : Str) (F : Fn), P.fn f = some F → ∃ a fd ps, mg f = some (.ref a) ∧ PySem.W.keepIn K (.ref a) = true ∧ Binds K fd ps [] ∧ FnOk prog w K mg base CX0 k a fd ps (spE P k K f)) ∧
      ∀ (f : Str) (F : Fn), P.fn f = some F → ∃ a fd ps, mg f = some (.ref a) ∧ PySem.W.keepIn K (.ref a) = true ∧ Binds K fd ps [] ∧ ∀ j, j + 1 = k → FnOk prog w K mg base CX0 j a fd ps (spE P j K f)
  | 0 => by
    refine ⟨fun f F hF => ?_, fun f F hF => ?_⟩
    · obtain ⟨st, N, ps, a, fd, C, U, B, hm⟩ := L.fns f F hF
      have no : ∀ vs H Q E, ¬ spE P 0 K f vs H Q E := fun vs H Q E hq => by
        obtain ⟨m, h, as, v, h', S, r, e, q⟩ := hq
        cases e
      exact ⟨a, fd, ps, hm, U.kp, B, ⟨fun vs H Q E h => absurd h (no vs H Q E), fun A outer s H args us vs Q E _ _ _ _ h => absurd h (no vs H Q E)⟩⟩
    · obtain ⟨st, N, ps, a, fd, C, U, B, hm⟩ := L.fns f F hF
      exact ⟨a, fd, ps, hm, U.kp, B, fun j hj => absurd hj (Nat.succ_ne_zero j)⟩
  | k + 1 => by
    obtain ⟨ih, ih1⟩ := all_ok (prog := prog) (w := w) (base := base) L k
    refine ⟨fun f F hF => ?_, fun f F hF => ?_⟩
    · obtain ⟨st, N, ps, a, fd, C, U, B, hm⟩ := L.fns f F hF
      exact ⟨a, fd, ps, hm, U.kp, B, fn_ok L ih ih1 hF C U⟩
    · obtain ⟨a, fd, ps, h1, h2, h3, h4⟩ := ih f F hF
      exact ⟨a, fd, ps, h1, h2, h3, fun j hj => by cases hj; exact h4⟩
end
end Ev
/-! EvLink: from a program's text behind the top to what the interpreter reckons. -/
namespace Ev
open PySem PySem.Spec PyProof.Rows L2

/-- how a def stands in the written part -/
def DefAt (K : PySem.W.Frag) (x : Str) (st : Stmt) : Prop := ∃ (f : Addr) (fd : FuncData), PySem.W.nsIn K mainGlobals x = some (some (.ref f)) ∧ Fun K x x st f fd
theorem DefAt.mk {K : PySem.W.Frag} {x : Str} {st : Stmt} {f : Addr} {oc : Value} {od an : Option Addr} {osl : Array (Option Value)} {kV doc pm cdv ct : Value} (a : PySem.W.nsIn K mainGlobals x = some (some (.ref f)))
    (l : K.lookup f = some ⟨oc, od, .func (PySem.W.fnOf x x (defArgs st) (defBody st) (defScope st) .none kV doc pm an cdv ct), osl⟩) (c : PySem.W.codeIn K cdv x = true) (k : PySem.W.keepIn K (.ref f) = true) : DefAt K x st := ⟨f, _, a, fun_mk l c k⟩
theorem DefAt.step {goal : Prop} {K : PySem.W.Frag} {h : Heap} (_ : K.In h) (x : Str) (st : Stmt) {f : Addr} {oc : Value} {od an : Option Addr} {osl : Array (Option Value)} {kV doc pm cdv ct : Value} (a : PySem.W.nsIn K mainGlobals x = some (some (.ref f)))
    (l : K.lookup f = some ⟨oc, od, .func (PySem.W.fnOf x x (defArgs st) (defBody st) (defScope st) .none kV doc pm an cdv ct), osl⟩) (c : PySem.W.codeIn K cdv x = true) (k : PySem.W.keepIn K (.ref f) = true) (next : DefAt K x st → goal) : goal := next (.mk a l c k)
theorem none_step {goal : Prop} {K : PySem.W.Frag} {h : Heap} (_ : K.In h) (x : Str) (a : PySem.W.nsIn K mainGlobals x = some none) (next : PySem.W.nsIn K mainGlobals x = some none → goal) : goal := next a
/-- its parameters take what they are given -/
def ArgsOk (x : Str) (st : Stmt) (ps : List Str) : Prop := ∀ (kV doc pm : Value) (an : Option Addr) (cdv ct : Value) (us : List Value), us.length = ps.length → bindArgs (PySem.W.fnOf x x (defArgs st) (defBody st) (defScope st) .none kV doc pm an cdv ct) ⟨us, []⟩ = pure (ps.zip us)
/-- a def of the text and its piece of the small language, wherever it stands -/
def DefFit (K : PySem.W.Frag) (x : Str) (F : Fn) : Prop := ∃ (st : Stmt) (N ps : List Str), FnChk st N ps F ∧ ArgsOk x st ps ∧ DefAt K x st
theorem DefFit.mk {K : PySem.W.Frag} {x : Str} {F : Fn} {st : Stmt} {N ps : List Str} (h : FnChk st N ps F ∧ ArgsOk x st ps) (d : DefAt K x st) : DefFit K x F := ⟨st, N, ps, h.1, h.2, d⟩
theorem lookup_mem {x : Str} {F : Fn} : ∀ {tbl : List (Str × Fn)}, tbl.lookup x = some F → (x, F) ∈ tbl
  | [], h => by simp at h
  | (y, G) :: r, h => by
    rw [List.lookup_cons] at h
    split at h
    · rename_i e
      cases h
      have : x = y := by simpa using e
      rw [this]
      exact List.mem_cons_self
    · exact List.mem_cons_of_mem _ (lookup_mem h)
/-- what the module's constants are -/
def ConFit (K : PySem.W.Frag) (x : Str) (v : Val) : Prop := ∃ (u : Value) (y : V), PySem.W.nsIn K mainGlobals x = some (some u) ∧ RelV y u ∧ ∀ m H, Rep K m H v y
def strsAt (o : Obj) : Option (List Str) := match o.data with
  | .seq its _ => if o.cls = .type "tuple" ∧ its.size ≤ sizeLine then its.toList.mapM fun v => match v with
    | .str s _ => some s
    | _ => none else none
  | _ => none
theorem strs_vals : ∀ (its : List Value) (ss : List Str), its.mapM (fun v => match v with | .str s _ => some s | _ => none) = some ss → Vals (ss.map V.str) its
  | [], ss, h => by simp at h; subst h; exact .nil
  | v :: r, ss, h => by
    rw [List.mapM_cons] at h
    cases v with
    | str s t =>
      cases e : r.mapM (fun v : Value => match v with | .str s _ => some s | _ => none) with
      | none => simp [e] at h
      | some us =>
        simp [e] at h
        subst h
        exact .cons ⟨t, rfl⟩ (strs_vals r us e)
    | _ => simp at h
theorem Reps.strs {K : PySem.W.Frag} {m : List Addr} {H : Hp} : ∀ ss : List Str, Reps K m H (ss.map Val.str) (ss.map V.str)
  | [] => .nil
  | s :: ss => .cons (.str s) (Reps.strs ss)
theorem ConFit.step {goal : Prop} {K : PySem.W.Frag} {h : Heap} (_ : K.In h) (x : Str) (ss : List Str) {a : Addr} {o : Obj} (e : PySem.W.nsIn K mainGlobals x = some (some (.ref a))) (l : K.lookup a = some o) (f : strsAt o = some ss)
    (next : ConFit K x (.tup (ss.map Val.str)) → goal) : goal := by
  refine next ⟨.ref a, .ref a, e, rfl, fun m H => ?_⟩
  unfold strsAt at f
  split at f <;> first | (cases f; done) | skip
  rename_i its n hd
  split at f <;> first | (cases f; done) | skip
  rename_i hc
  exact .tup (.inr ⟨o, its, n, l, hc.1, hd, hc.2, strs_vals _ _ f⟩) (Reps.strs ss)
/-- the program as the interpreter takes it -/
def progOf (tbl : List (Str × Fn)) (cons : List (Str × Val)) (fuel : Nat) : Prog := ⟨fun x => tbl.lookup x, fun x => cons.lookup x, fuel⟩
theorem lookup_memV {x : Str} {F : Val} : ∀ {tbl : List (Str × Val)}, tbl.lookup x = some F → (x, F) ∈ tbl
  | [], h => by simp at h
  | (y, G) :: r, h => by
    rw [List.lookup_cons] at h
    split at h
    · rename_i e
      cases h
      have : x = y := by simpa using e
      rw [this]
      exact List.mem_cons_self
    · exact List.mem_cons_of_mem _ (lookup_memV h)
theorem linked_of {K : PySem.W.Frag} {h : Heap} {mg : Str → Option Value} (X : K.In h) (G : h.Ns mainGlobals mg) {tbl : List (Str × Fn)} {cons : List (Str × Val)} {fuel : Nat}
    (hd : ∀ p ∈ tbl, DefFit K p.1 p.2) (hc : ∀ p ∈ cons, ConFit K p.1 p.2) (hb : ∀ x ∈ bltNames, PySem.W.nsIn K mainGlobals x = some none) : Linked (progOf tbl cons fuel) K mg where
  fns := fun f F hF => by
    obtain ⟨st, N, ps, C, A, a, fd, hn, U⟩ := hd _ (lookup_mem (tbl := tbl) hF)
    exact ⟨st, N, ps, a, fd, C, U, U.binds A, PySem.W.mg_of X G hn⟩
  cons := fun x v hv => by
    obtain ⟨u, y, h1, h2, h3⟩ := hc _ (lookup_memV (tbl := cons) hv)
    exact ⟨u, y, PySem.W.mg_of X G h1, h2, h3⟩
  blt := fun x hx => PySem.W.mg_none_of X G (hb x hx)
/-- the heap behind the top -/
theorem StR.start {K : PySem.W.Frag} {H : Hp} {a : Addr} {ns : List Int} (hO : Only H) (hS : SqL K H a (ns.map V.int)) : StR K [a] [.frz (ns.map Val.int)] H where
  len := rfl
  ob := fun n o e => by
    rcases n with _ | n
    · cases e
      refine ⟨a, rfl, ns.map V.int, ?_, Reps.ints⟩
      rcases hS with (h | ⟨o, h⟩) | h
      · rcases hO a with z | ⟨o, xs, z⟩
        · rw [z] at h; cases h
        · rw [z] at h; cases h
      · exact .inl ⟨o, h⟩
      · exact .inr h
    · simp at e
  inj := fun i j b o u e1 e2 e3 e4 w1 w2 => by
    rcases i with _ | i
    · cases e3; cases w1
    · simp at e3
theorem law_end {l : PySem.W.OpenLaw} {q : Program} {loose : List Str} {XP : (Str → Option Value) → Heap → Prop} {YP : World → Heap → Prop} {d : DefRec} {K : Params → PySem.W.Frag} {tbl : List (Str × Fn)} {cons : List (Str × Val)} {fuel : Nat} {k : Nat} {Fl : Fn} {st : Stmt} {N : List Str}
    (hn : l.most = some 63) (hdf : d.params.defaults = []) (hnm : d.name = Str.ofString "law") (hY : ∀ (w : World) (h : Heap), YP w h → (K w.params).In h)
    (hk : Room (k + 1) callerA) (hF : tbl.lookup (Str.ofString "law") = some Fl) (hC : FnChk st N ["script"] Fl ∧ ArgsOk "law" st ["script"])
    (hD : ∀ (w : World) (h : Heap), (K w.params).In h → DefAt (K w.params) "law" st ∧ (∀ p ∈ tbl, DefFit (K w.params) p.1 p.2) ∧ (∀ p ∈ cons, ConFit (K w.params) p.1 p.2) ∧ ∀ x ∈ bltNames, PySem.W.nsIn (K w.params) mainGlobals x = some none)
    (law : ∀ ns : List Int, ns.length ≤ 63 → ∃ h', call (progOf tbl cons fuel) (k + 1) "law" [.ref 0] [.frz (ns.map Val.int)] = .ok (.bl true) h') :
    PySem.W.WalkO q loose XP YP l.row.toRowW d [] (fun f vs => PySem.call f vs) := by
  refine L2.walk_of (n := 63) (k := k + 1) (x := "script") (CX := fun _ => CX0) (sp := fun w => spE (progOf tbl cons fuel) (k + 1) (K w.params) "law") hn (by decide) hdf hk hY (fun w mg fa h KX G hfa => ?_) (fun w H a ns hl hO hS => ?_) fun _ _ _ _ _ z => z
  · obtain ⟨⟨f, fd, h1, U⟩, h2, h3, h4⟩ := hD w h KX
    have L := linked_of (fuel := fuel) KX G h2 h3 h4
    rw [hnm, PySem.W.mg_of KX G h1] at hfa
    cases hfa
    refine ⟨fd, fun s u => ?_, fun base _ _ => ?_⟩
    · obtain ⟨oc, od, kV, doc, pm, an, cdv, ct, osl, rfl, lk, hcd⟩ := U.ex
      exact .of_eq (hC.2 kV doc pm an cdv ct [u] rfl)
    · obtain ⟨i1, i2⟩ := all_ok (prog := l.prog) (w := w) (base := base) L k
      exact fn_ok L i1 i2 hF hC.1 U
  · obtain ⟨h', e⟩ := law ns hl
    exact ⟨[a], _, _, _, h', StR.start hO hS, .cons (.ref rfl) .nil, e, fun m' H' x g S' r => by cases r; rfl⟩
end Ev
/-! EvWp: reckoning backwards through the small language: no program's text of Python here. -/
namespace Ev
open PySem

/-- it answers, and so that Q -/
structure WP {α : Type} (r : Res α) (Q : α → Hpe → Prop) : Prop where
  get : ∃ a h, r = .ok a h ∧ Q a h
theorem WP.ok {α : Type} {a : α} {h : Hpe} {Q : α → Hpe → Prop} (q : Q a h) : WP (.ok a h) Q := ⟨a, h, rfl, q⟩
theorem WP.mono {α : Type} {r : Res α} {Q Q' : α → Hpe → Prop} (w : WP r Q) (i : ∀ a h, Q a h → Q' a h) : WP r Q' := by
  obtain ⟨a, h, e, q⟩ := w.get
  exact ⟨a, h, e, i a h q⟩
theorem WP.bind {α β : Type} {r : Res α} {f : α → Hpe → Res β} {Q : β → Hpe → Prop} (w : WP r fun a h => WP (f a h) Q) : WP (r.bind f) Q := by
  obtain ⟨a, h, e, q⟩ := w.get
  rw [e]
  exact q
theorem WP.map {α β : Type} {r : Res α} {g : α → β} {Q : β → Hpe → Prop} (w : WP r fun a h => Q (g a) h) : WP (r.bind fun a h => .ok (g a) h) Q := WP.bind (w.mono fun _ _ q => WP.ok q)
theorem WP.of_eq {α : Type} {r : Res α} {Q : α → Hpe → Prop} {a : α} {h : Hpe} (e : r = .ok a h) (q : Q a h) : WP r Q := ⟨a, h, e, q⟩

/-- statements: how they go on, what they return, break, continue -/
def WS (r : Res Fl) (N : En → Hpe → Prop) (T : Val → Hpe → Prop) (B C : En → Hpe → Prop) : Prop := WP r fun f h => match f with
  | .nx σ => N σ h
  | .rt v => T v h
  | .bk σ => B σ h
  | .ct σ => C σ h

/-- nothing that lay there has changed -/
def Le (h h' : Hpe) : Prop := ∀ (n : Nat) (o : Ob), h[n]? = some o → h'[n]? = some o
theorem Le.refl (h : Hpe) : Le h h := fun _ _ e => e
theorem Le.rfl {h : Hpe} : Le h h := fun _ _ e => e
theorem Le.trans {a b c : Hpe} (x : Le a b) (y : Le b c) : Le a c := fun n o e => y n o (x n o e)
theorem Le.len {a b : Hpe} (x : Le a b) : a.length ≤ b.length := by
  by_cases h : a.length ≤ b.length
  · exact h
  · have : b.length < a.length := by omega
    have e := x _ _ (List.getElem?_eq_getElem this)
    rw [List.getElem?_eq_none (Nat.le_refl _)] at e
    cases e
theorem Le.push (h g : Hpe) : Le h (h ++ g) := fun n o e => by
  have := (List.getElem?_eq_some_iff.mp e).1
  rw [List.getElem?_append_left this]
  exact e
theorem Le.set {a b : Hpe} (x : Le a b) {n : Nat} (hn : a.length ≤ n) (o : Ob) : Le a (b.set n o) := fun m u e => by
  have := (List.getElem?_eq_some_iff.mp e).1
  rw [List.getElem?_set_ne (by omega)]
  exact x m u e
/-- the same but for one object -/
def LeX (st : Nat) (h h' : Hpe) : Prop := h.length ≤ h'.length ∧ ∀ (n : Nat) (o : Ob), n ≠ st → h[n]? = some o → h'[n]? = some o
theorem LeX.refl (st : Nat) (h : Hpe) : LeX st h h := ⟨Nat.le_refl _, fun _ _ _ e => e⟩
theorem LeX.trans {st : Nat} {a b c : Hpe} (x : LeX st a b) (y : LeX st b c) : LeX st a c := ⟨Nat.le_trans x.1 y.1, fun n o k e => y.2 n o k (x.2 n o k e)⟩
theorem Le.x {st : Nat} {a b : Hpe} (x : Le a b) : LeX st a b := ⟨x.len, fun n o _ e => x n o e⟩
theorem LeX.set {st : Nat} {a b : Hpe} (x : LeX st a b) (o : Ob) : LeX st a (b.set st o) := ⟨by rw [List.length_set]; exact x.1, fun n u k e => by rw [List.getElem?_set_ne (Ne.symm k)]; exact x.2 n u k e⟩
theorem LeX.fresh {st : Nat} {a b : Hpe} (x : LeX st a b) {n : Nat} (hn : a.length ≤ n) (o : Ob) : LeX st a (b.set n o) := ⟨by rw [List.length_set]; exact x.1, fun m u k e => by
  have := (List.getElem?_eq_some_iff.mp e).1
  rw [List.getElem?_set_ne (by omega)]
  exact x.2 m u k e⟩
theorem at_push (h : Hpe) (o : Ob) : (h ++ [o])[h.length]? = some o := by simp
theorem at_set {h : Hpe} {n : Nat} {o u : Ob} (e : h[n]? = some u) : (h.set n o)[n]? = some o := by
  have := (List.getElem?_eq_some_iff.mp e).1
  rw [List.getElem?_set_self this]
theorem at_set_ne {h : Hpe} {n m : Nat} {o u : Ob} (k : n ≠ m) (e : h[m]? = some u) : (h.set n o)[m]? = some u := by
  rw [List.getElem?_set_ne k]; exact e

/-! ### the language -/
section
variable {R : Rc} {σ : En} {h : Hpe} {Q : Val → Hpe → Prop} {QB : Bool → Hpe → Prop} {QL : List Val → Hpe → Prop} {QO : Option Int → Hpe → Prop} {QI : Src → Hpe → Prop}
theorem wp_var {i : Nat} {v : Val} (e : σ[i]? = some (some v)) (q : Q v h) : WP (ev R (.var i) σ h) Q := by simp only [ev, e]; (first | exact q | exact WP.ok (q))
theorem wp_con {c : Con} (q : Q (conV c) h) : WP (ev R (.con c) σ h) Q := WP.ok q
theorem wp_glb {x : Str} {v : Val} (e : R.con x = some v) (q : Q v h) : WP (ev R (.glb x) σ h) Q := by simp only [ev, e]; (first | exact q | exact WP.ok (q))
theorem wp_tup {es : Es} (w : WP (evs R es σ h) fun vs h1 => vs.length ≤ sizeMax ∧ Q (.tup vs) h1) : WP (ev R (.tup es) σ h) Q := by
  simp only [ev]
  exact WP.bind (w.mono fun vs h1 q => by rw [if_pos q.1]; (first | exact q.2 | exact WP.ok (q.2)))
theorem wp_lst {es : Es} (w : WP (evs R es σ h) fun vs h1 => vs.length ≤ sizeMax ∧ Q (.ref h1.length) (h1 ++ [.lst vs])) : WP (ev R (.lst es) σ h) Q := by
  simp only [ev]
  exact WP.bind (w.mono fun vs h1 q => by rw [if_pos q.1]; (first | exact q.2 | exact WP.ok (q.2)))
theorem wp_dct0 (q : Q (.ref h.length) (h ++ [.dic []])) : WP (ev R .dct0 σ h) Q := WP.ok q
theorem wp_bin {o : Bop} {a b : E} (w : WP (ev R a σ h) fun x h1 => WP (ev R b σ h1) fun y h2 => WP (binop o x y h2) Q) : WP (ev R (.bin o a b) σ h) Q := by
  simp only [ev]
  exact WP.bind (w.mono fun x h1 w => WP.bind w)
theorem wp_neg {a : E} (w : WP (ev R a σ h) fun x h1 => ∃ i, x = .int i ∧ Q (.int (-i)) h1) : WP (ev R (.neg a) σ h) Q := by
  simp only [ev]
  exact WP.bind (w.mono fun x h1 ⟨i, e, q⟩ => by rw [e]; (first | exact q | exact WP.ok (q)))
theorem wp_cmp {o : Cop} {a b : E} (w : WP (ev R a σ h) fun x h1 => WP (ev R b σ h1) fun y h2 => WP (cmpop o x y h2) fun r h3 => Q (.bl r) h3) : WP (ev R (.cmp o a b) σ h) Q := by
  simp only [ev]
  exact WP.bind (w.mono fun x h1 w => WP.bind (w.mono fun y h2 w => WP.map w))
theorem wp_chn {o1 o2 : Cop} {a b c : E} (w : WP (ev R a σ h) fun x h1 => WP (ev R b σ h1) fun y h2 => WP (cmpop o1 x y h2) fun r h3 => (r = true → WP (ev R c σ h3) fun z h4 => WP (cmpop o2 y z h4) fun r2 h5 => Q (.bl r2) h5) ∧ (r = false → Q (.bl false) h3)) : WP (ev R (.chn o1 o2 a b c) σ h) Q := by
  simp only [ev]
  refine WP.bind (w.mono fun x h1 w => WP.bind (w.mono fun y h2 w => WP.bind (w.mono fun r h3 w => ?_)))
  cases r with
  | true => exact WP.bind ((w.1 rfl).mono fun z h4 w => WP.map w)
  | false => (first | exact w.2 rfl | exact WP.ok (w.2 rfl))
theorem wp_andv {a b : E} (w : WP (ev R a σ h) fun x h1 => WP (truth x h1) fun k h2 => (k = true → WP (ev R b σ h2) Q) ∧ (k = false → Q x h2)) : WP (ev R (.andv a b) σ h) Q := by
  simp only [ev]
  refine WP.bind (w.mono fun x h1 w => WP.bind (w.mono fun k h2 w => ?_))
  cases k with
  | true => (first | exact w.1 rfl | exact WP.ok (w.1 rfl))
  | false => (first | exact w.2 rfl | exact WP.ok (w.2 rfl))
theorem wp_orv {a b : E} (w : WP (ev R a σ h) fun x h1 => WP (truth x h1) fun k h2 => (k = true → Q x h2) ∧ (k = false → WP (ev R b σ h2) Q)) : WP (ev R (.orv a b) σ h) Q := by
  simp only [ev]
  refine WP.bind (w.mono fun x h1 w => WP.bind (w.mono fun k h2 w => ?_))
  cases k with
  | true => (first | exact w.1 rfl | exact WP.ok (w.1 rfl))
  | false => (first | exact w.2 rfl | exact WP.ok (w.2 rfl))
theorem wp_one {a : E} (w : WP (ev R a σ h) Q) : WP (ev R (.one a) σ h) Q := by simp only [ev]; (first | exact w | exact WP.ok (w))
theorem wp_notv {a : E} (w : WP (ev R a σ h) fun x h1 => WP (truth x h1) fun k h2 => Q (.bl (!k)) h2) : WP (ev R (.notv a) σ h) Q := by
  simp only [ev]
  exact WP.bind (w.mono fun x h1 w => WP.map w)
theorem wp_ife {c : T} {a b : E} (w : WP (evt R c σ h) fun k h1 => (k = true → WP (ev R a σ h1) Q) ∧ (k = false → WP (ev R b σ h1) Q)) : WP (ev R (.ife c a b) σ h) Q := by
  simp only [ev]
  refine WP.bind (w.mono fun k h1 w => ?_)
  cases k with
  | true => (first | exact w.1 rfl | exact WP.ok (w.1 rfl))
  | false => (first | exact w.2 rfl | exact WP.ok (w.2 rfl))
theorem wp_ix {a b : E} (w : WP (ev R a σ h) fun x h1 => WP (ev R b σ h1) fun y h2 => WP (index x y h2) Q) : WP (ev R (.ix a b) σ h) Q := by
  simp only [ev]
  exact WP.bind (w.mono fun x h1 w => WP.bind w)
theorem wp_sl {a : E} {lo hi : O} (w : WP (ev R a σ h) fun x h1 => WP (evo R lo σ h1) fun l h2 => WP (evo R hi σ h2) fun u h3 => WP (slice x l u h3) Q) : WP (ev R (.sl a lo hi) σ h) Q := by
  simp only [ev]
  exact WP.bind (w.mono fun x h1 w => WP.bind (w.mono fun y h2 w => WP.bind w))
theorem wp_call {f : Str} {es : Es} (w : WP (evs R es σ h) fun vs h1 => WP (R.fn f vs h1) Q) : WP (ev R (.call f es) σ h) Q := by
  simp only [ev]
  exact WP.bind w
theorem wp_blt {b : Blt} {a : E} (w : WP (ev R a σ h) fun x h1 => WP (builtin b x h1) Q) : WP (ev R (.blt b a) σ h) Q := by
  simp only [ev]
  exact WP.bind w
theorem wp_mth {m : Mth} {o : E} {es : Es} (w : WP (ev R o σ h) fun x h1 => recvOk m x h1 = true ∧ WP (evs R es σ h1) fun vs h2 => WP (method m x vs h2) Q) : WP (ev R (.mth m o es) σ h) Q := by
  simp only [ev]
  exact WP.bind (w.mono fun x h1 w => by rw [if_pos w.1]; exact WP.bind w.2)
theorem wp_isi {a : E} {t : Ty} (w : WP (ev R a σ h) fun x h1 => WP (tyOk t x h1) fun k h2 => Q (.bl k) h2) : WP (ev R (.isi a t) σ h) Q := by
  simp only [ev]
  exact WP.bind (w.mono fun x h1 w => WP.map w)
theorem wp_tuprev {a : E} (w : WP (ev R a σ h) fun x h1 => ∃ n xs, x = .ref n ∧ lstAt h1 n = some xs ∧ Q (.tup xs.reverse) h1) : WP (ev R (.tuprev a) σ h) Q := by
  simp only [ev]
  exact WP.bind (w.mono fun x h1 ⟨n, xs, e, k, q⟩ => by subst e; simp only [k]; (first | exact q | exact WP.ok (q)))
theorem wps_nil (q : QL [] h) : WP (evs R .nil σ h) QL := WP.ok q
theorem wps_cons {e : E} {es : Es} (w : WP (ev R e σ h) fun x h1 => WP (evs R es σ h1) fun xs h2 => QL (x :: xs) h2) : WP (evs R (.cons e es) σ h) QL := by
  simp only [evs]
  exact WP.bind (w.mono fun x h1 w => WP.map w)
theorem wpo_no (q : QO none h) : WP (evo R .no σ h) QO := WP.ok q
theorem wpo_yes {e : E} (w : WP (ev R e σ h) fun x h1 => ∃ i, x = .int i ∧ QO (some i) h1) : WP (evo R (.yes e) σ h) QO := by
  simp only [evo]
  exact WP.bind (w.mono fun x h1 ⟨i, e, q⟩ => by rw [e]; (first | exact q | exact WP.ok (q)))
theorem wpt_tt (q : QB true h) : WP (evt R .tt σ h) QB := WP.ok q
theorem wpt_val {e : E} (w : WP (ev R e σ h) fun x h1 => WP (truth x h1) QB) : WP (evt R (.val e) σ h) QB := by
  simp only [evt]
  exact WP.bind w
theorem wpt_cmp {o : Cop} {a b : E} (w : WP (ev R a σ h) fun x h1 => WP (ev R b σ h1) fun y h2 => WP (cmpop o x y h2) QB) : WP (evt R (.cmp o a b) σ h) QB := by
  simp only [evt]
  exact WP.bind (w.mono fun x h1 w => WP.bind w)
theorem wpt_chn {o1 o2 : Cop} {a b c : E} (w : WP (ev R a σ h) fun x h1 => WP (ev R b σ h1) fun y h2 => WP (cmpop o1 x y h2) fun r h3 => (r = true → WP (ev R c σ h3) fun z h4 => WP (cmpop o2 y z h4) QB) ∧ (r = false → QB false h3)) : WP (evt R (.chn o1 o2 a b c) σ h) QB := by
  simp only [evt]
  refine WP.bind (w.mono fun x h1 w => WP.bind (w.mono fun y h2 w => WP.bind (w.mono fun r h3 w => ?_)))
  cases r with
  | true => exact WP.bind (w.1 rfl)
  | false => (first | exact w.2 rfl | exact WP.ok (w.2 rfl))
theorem wpt_one {a : T} (w : WP (evt R a σ h) QB) : WP (evt R (.one a) σ h) QB := by simp only [evt]; (first | exact w | exact WP.ok (w))
theorem wpt_and {a b : T} (w : WP (evt R a σ h) fun k h1 => (k = true → WP (evt R b σ h1) QB) ∧ (k = false → QB false h1)) : WP (evt R (.and a b) σ h) QB := by
  simp only [evt]
  refine WP.bind (w.mono fun k h1 w => ?_)
  cases k with
  | true => (first | exact w.1 rfl | exact WP.ok (w.1 rfl))
  | false => (first | exact w.2 rfl | exact WP.ok (w.2 rfl))
theorem wpt_or {a b : T} (w : WP (evt R a σ h) fun k h1 => (k = true → QB true h1) ∧ (k = false → WP (evt R b σ h1) QB)) : WP (evt R (.or a b) σ h) QB := by
  simp only [evt]
  refine WP.bind (w.mono fun k h1 w => ?_)
  cases k with
  | true => (first | exact w.1 rfl | exact WP.ok (w.1 rfl))
  | false => (first | exact w.2 rfl | exact WP.ok (w.2 rfl))
theorem wpt_not {a : T} (w : WP (evt R a σ h) fun k h1 => QB (!k) h1) : WP (evt R (.not a) σ h) QB := by
  simp only [evt]
  exact WP.map w
theorem wpi_seq {e : E} (w : WP (ev R e σ h) fun x h1 => (∃ xs, x = .tup xs ∧ QI ⟨xs, .no⟩ h1) ∨ ∃ n xs, x = .ref n ∧ lstAt h1 n = some xs ∧ QI ⟨xs, .lst n⟩ h1) : WP (evi R (.seq e) σ h) QI := by
  simp only [evi]
  refine WP.bind (w.mono fun x h1 w => ?_)
  rcases w with ⟨xs, e, q⟩ | ⟨n, xs, e, k, q⟩
  · subst e; (first | exact q | exact WP.ok (q))
  · subst e; simp only [k]; (first | exact q | exact WP.ok (q))
theorem wpi_rng1 {a : E} (w : WP (ev R a σ h) fun x h1 => ∃ j : Int, x = .int j ∧ (-(2 ^ 62) ≤ j ∧ j < 2 ^ 62) ∧ QI ⟨(List.range j.toNat).map fun (i : Nat) => Val.int (0 + (i : Int)), .no⟩ h1) : WP (evi R (.rng1 a) σ h) QI := by
  simp only [evi]
  refine WP.bind (w.mono fun x h1 ⟨j, e, k, q⟩ => ?_)
  subst e
  simp only
  rw [if_pos k]
  (first | exact q | exact WP.ok (q))
theorem wpi_rng2 {a b : E} (w : WP (ev R a σ h) fun x h1 => WP (ev R b σ h1) fun y h2 => ∃ i j : Int, x = .int i ∧ y = .int j ∧ (-(2 ^ 62) ≤ i ∧ i < 2 ^ 62 ∧ -(2 ^ 62) ≤ j ∧ j < 2 ^ 62) ∧ QI ⟨(List.range (j - i).toNat).map fun (k : Nat) => Val.int (i + (k : Int)), .no⟩ h2) : WP (evi R (.rng2 a b) σ h) QI := by
  simp only [evi]
  refine WP.bind (w.mono fun x h1 w => WP.bind (w.mono fun y h2 ⟨i, j, e1, e2, k, q⟩ => ?_))
  subst e1 e2
  simp only
  rw [if_pos k]
  (first | exact q | exact WP.ok (q))
theorem wpi_dky {e : E} (w : WP (ev R e σ h) fun x h1 => ∃ n kvs, x = .ref n ∧ h1[n]? = some (.fdc kvs) ∧ QI ⟨kvs.map (·.1), .dic n kvs⟩ h1) : WP (evi R (.dky e) σ h) QI := by
  simp only [evi]
  refine WP.bind (w.mono fun x h1 ⟨n, kvs, e, k, q⟩ => ?_)
  subst e
  simp only [k]
  (first | exact q | exact WP.ok (q))
theorem wp_lock {i : Nat} {e : E} {n : Nat} {kvs : List (Val × Val)} (ei : σ[i]? = some (some (.ref n))) (k : h[n]? = some (.dic kvs)) (w : WP (ev R e σ (h.set n (.fdc kvs))) fun v h1 => (∃ k2, h1[n]? = some (.fdc k2)) ∧ Q v (h1.set n (.dic kvs))) : WP (ev R (.lock i e) σ h) Q := by
  simp only [ev, ei, k]
  exact WP.bind (w.mono fun v h1 ⟨⟨k2, e⟩, q⟩ => by simp only [e]; (first | exact q | exact WP.ok (q)))
theorem wp_srt {a : E} {f : Str} (w : WP (ev R a σ h) fun x h1 => ∃ n xs, x = .ref n ∧ lstAt h1 n = some xs ∧ R.key f = true ∧ WP (keysL (fun v h => R.fn1 f [v] h) xs h1) fun ks h2 => sortable ks = true ∧ Q (.ref h2.length) (h2 ++ [.lst (sortBy xs ks)])) : WP (ev R (.srt a f) σ h) Q := by
  simp only [ev]
  refine WP.bind (w.mono fun x h1 ⟨n, xs, e, k, kk, w⟩ => ?_)
  subst e
  simp only [k]
  rw [if_neg (by rw [kk]; simp)]
  exact WP.bind (w.mono fun ks h2 ⟨s, q⟩ => by rw [if_pos s]; (first | exact q | exact WP.ok (q)))
end
/-! ### statements -/
section
variable {R : Rc} {σ : En} {h : Hpe} {N B C : En → Hpe → Prop} {T : Val → Hpe → Prop}
theorem ws_nil (q : N σ h) : WS (runs R .nil σ h) N T B C := WP.ok q
theorem ws_cons {s : S} {ss : Ss} (w : WS (run R s σ h) (fun σ1 h1 => WS (runs R ss σ1 h1) N T B C) T B C) : WS (runs R (.cons s ss) σ h) N T B C := by
  unfold WS
  simp only [runs]
  refine WP.bind (WP.mono w fun f h1 w => ?_)
  cases f with
  | nx σ => (first | exact w | exact WP.ok (w))
  | rt v => (first | exact w | exact WP.ok (w))
  | bk v => (first | exact w | exact WP.ok (w))
  | ct v => (first | exact w | exact WP.ok (w))
theorem ws_set {i : Nat} {e : E} (w : WP (ev R e σ h) fun v h1 => N (σ.set i (some v)) h1) : WS (run R (.set i e) σ h) N T B C := by
  unfold WS
  simp only [run]
  exact WP.map w
theorem ws_setSub {o i v : E} (w : WP (ev R v σ h) fun x h1 => WP (ev R o σ h1) fun y h2 => WP (ev R i σ h2) fun z h3 => WP (setItem y z x h3) fun _ h4 => N σ h4) : WS (run R (.setSub o i v) σ h) N T B C := by
  unfold WS
  simp only [run]
  exact WP.bind (w.mono fun x h1 w => WP.bind (w.mono fun y h2 w => WP.bind (w.mono fun z h3 w => WP.map w)))
theorem ws_aug {i : Nat} {o : Bop} {e : E} {a : Int} (ei : σ[i]? = some (some (.int a))) (w : WP (ev R e σ h) fun y h1 => ∃ b, y = .int b ∧ (o = .add ∧ N (σ.set i (some (.int (a + b)))) h1 ∨ o = .sub ∧ N (σ.set i (some (.int (a - b)))) h1)) : WS (run R (.aug i o e) σ h) N T B C := by
  unfold WS
  simp only [run, ei]
  refine WP.bind (w.mono fun y h1 ⟨b, e, q⟩ => ?_)
  subst e
  rcases q with ⟨rfl, q⟩ | ⟨rfl, q⟩
  · (first | exact q | exact WP.ok (q))
  · (first | exact q | exact WP.ok (q))
theorem ws_expr {e : E} (w : WP (ev R e σ h) fun _ h1 => N σ h1) : WS (run R (.expr e) σ h) N T B C := by
  unfold WS
  simp only [run]
  exact WP.map w
theorem ws_ret {e : E} (w : WP (ev R e σ h) T) : WS (run R (.ret e) σ h) N T B C := by
  unfold WS
  simp only [run]
  exact WP.map w
theorem ws_retN (q : T .non h) : WS (run R .retN σ h) N T B C := WP.ok q
theorem ws_ifs {c : Ev.T} {a b : Ss} (w : WP (evt R c σ h) fun k h1 => (k = true → WS (runs R a σ h1) N T B C) ∧ (k = false → WS (runs R b σ h1) N T B C)) : WS (run R (.ifs c a b) σ h) N T B C := by
  unfold WS
  simp only [run]
  refine WP.bind (w.mono fun k h1 w => ?_)
  cases k with
  | true => (first | exact w.1 rfl | exact WP.ok (w.1 rfl))
  | false => (first | exact w.2 rfl | exact WP.ok (w.2 rfl))
theorem ws_fors {tg : Tg} {it : I} {body : Ss} (w : WP (evi R it σ h) fun s h1 => WS (forL s tg (runs R body) s.items σ h1) N T B C) : WS (run R (.fors tg it body) σ h) N T B C := by
  unfold WS
  simp only [run]
  exact WP.bind w
theorem ws_pass (q : N σ h) : WS (run R .pass σ h) N T B C := WP.ok q
theorem ws_brk (q : B σ h) : WS (run R .brk σ h) N T B C := WP.ok q
theorem ws_cnt (q : C σ h) : WS (run R .cnt σ h) N T B C := WP.ok q
theorem ws_lock {i : Nat} {s : S} {n : Nat} {kvs : List (Val × Val)} (ei : σ[i]? = some (some (.ref n))) (k : h[n]? = some (.dic kvs))
    (w : WS (run R s σ (h.set n (.fdc kvs))) (fun σ1 h1 => (∃ k2, h1[n]? = some (.fdc k2)) ∧ N σ1 (h1.set n (.dic kvs))) (fun v h1 => (∃ k2, h1[n]? = some (.fdc k2)) ∧ T v (h1.set n (.dic kvs)))
      (fun σ1 h1 => (∃ k2, h1[n]? = some (.fdc k2)) ∧ B σ1 (h1.set n (.dic kvs))) (fun σ1 h1 => (∃ k2, h1[n]? = some (.fdc k2)) ∧ C σ1 (h1.set n (.dic kvs)))) : WS (run R (.lock i s) σ h) N T B C := by
  unfold WS
  simp only [run, ei, k]
  refine WP.bind (WP.mono w fun f h1 w => ?_)
  cases f with
  | nx σ => obtain ⟨⟨k2, e⟩, q⟩ := w; simp only [e]; (first | exact q | exact WP.ok (q))
  | rt v => obtain ⟨⟨k2, e⟩, q⟩ := w; simp only [e]; (first | exact q | exact WP.ok (q))
  | bk v => obtain ⟨⟨k2, e⟩, q⟩ := w; simp only [e]; (first | exact q | exact WP.ok (q))
  | ct v => obtain ⟨⟨k2, e⟩, q⟩ := w; simp only [e]; (first | exact q | exact WP.ok (q))
theorem WS.mono {r : Res Fl} {N' B' C' : En → Hpe → Prop} {T' : Val → Hpe → Prop} (w : WS r N T B C) (n : ∀ σ h, N σ h → N' σ h) (t : ∀ σ h, T σ h → T' σ h) (b : ∀ σ h, B σ h → B' σ h) (c : ∀ σ h, C σ h → C' σ h) : WS r N' T' B' C' :=
  WP.mono w fun f h1 w => by
    cases f with
    | nx σ => (first | exact n _ _ w | exact WP.ok (n _ _ w))
    | rt v => exact t _ _ w
    | bk v => exact b _ _ w
    | ct v => exact c _ _ w
end
/-! ### loops -/
theorem forL_rule {s : Src} {tg : Tg} {body : En → Hpe → Res Fl} {N B C : En → Hpe → Prop} {T : Val → Hpe → Prop} (I : Nat → En → Hpe → Prop) (items : List Val) {σ : En} {h : Hpe} (j : Nat) (h0 : I j σ h)
    (stays : ∀ i σ h, I i σ h → s.stays h = true)
    (step : ∀ i x σ h, items[i]? = some x → I (j + i) σ h → ∃ σ1, store tg x σ = some σ1 ∧ WS (body σ1 h) (fun σ2 h2 => I (j + i + 1) σ2 h2) T N (fun σ2 h2 => I (j + i + 1) σ2 h2))
    (done : ∀ σ h, I (j + items.length) σ h → N σ h) : WS (forL s tg body items σ h) N T B C := by
  induction items generalizing j σ h with
  | nil =>
    unfold WS
    simp only [forL, stays _ _ _ h0, if_true]
    (first | exact done _ _ h0 | exact WP.ok (done _ _ h0))
  | cons x r ih =>
    obtain ⟨σ1, e, w⟩ := step 0 x σ h rfl h0
    unfold WS
    simp only [forL, stays _ _ _ h0, if_true, e]
    have next : ∀ σ2 h2, I (j + 0 + 1) σ2 h2 → WS (forL s tg body r σ2 h2) N T B C := fun σ2 h2 q => ih (j + 1) q (fun i x σ h e q => by
      obtain ⟨σ1, a, b⟩ := step (i + 1) x σ h (by simpa using e) (by rw [show j + (i + 1) = j + 1 + i by omega]; (first | exact q | exact WP.ok (q)))
      exact ⟨σ1, a, by rw [show j + 1 + i + 1 = j + (i + 1) + 1 by omega]; exact b⟩) (fun σ h q => done σ h (by rw [List.length_cons, show j + (r.length + 1) = j + 1 + r.length by omega]; (first | exact q | exact WP.ok (q))))
    refine WP.bind (WP.mono w fun f h1 w => ?_)
    cases f with
    | nx σ2 => exact next _ _ w
    | ct σ2 => exact next _ _ w
    | bk σ2 => (first | exact w | exact WP.ok (w))
    | rt v => (first | exact w | exact WP.ok (w))
/-- a list comprehension's turns -/
theorem lcL_rule {D : Nat} {s : Src} {step : Val → Hpe → Res (Option Val)} {Q : Hpe → Prop} (I : Nat → List Val → Hpe → Prop) (items : List Val) {h : Hpe} {acc : List Val} (j : Nat) (h0 : I j acc h)
    (stays : ∀ i acc h, I i acc h → s.stays h = true)
    (turn : ∀ i x acc h, items[i]? = some x → I (j + i) acc h → WP (step x h) fun r h1 => match r with
      | none => I (j + i + 1) acc h1
      | some v => h1[D]? = some (.lst acc) ∧ acc.length < sizeMax ∧ I (j + i + 1) (acc ++ [v]) (h1.set D (.lst (acc ++ [v]))))
    (done : ∀ acc h, I (j + items.length) acc h → Q h) : WP (lcL D s step items h) fun _ h1 => Q h1 := by
  induction items generalizing j acc h with
  | nil =>
    simp only [lcL, stays _ _ _ h0, if_true]
    (first | exact done _ _ h0 | exact WP.ok (done _ _ h0))
  | cons x r ih =>
    have w := turn 0 x acc h rfl h0
    simp only [lcL, stays _ _ _ h0, if_true]
    have next : ∀ acc2 h2, I (j + 0 + 1) acc2 h2 → WP (lcL D s step r h2) fun _ h1 => Q h1 := fun acc2 h2 q => ih (j + 1) q (fun i x acc h e q => by
      have b := turn (i + 1) x acc h (by simpa using e) (by rw [show j + (i + 1) = j + 1 + i by omega]; (first | exact q | exact WP.ok (q)))
      rw [show j + (i + 1) + 1 = j + 1 + i + 1 by omega] at b
      exact b) (fun acc h q => done acc h (by rw [List.length_cons, show j + (r.length + 1) = j + 1 + r.length by omega]; (first | exact q | exact WP.ok (q))))
    refine WP.bind (WP.mono w fun f h1 w => ?_)
    cases f with
    | none => exact next _ _ w
    | some v =>
      obtain ⟨e, z, q⟩ := w
      simp only [e, z, if_true]
      exact next _ _ q
/-- does what is walked stay in a heap that has all that was there? -/
theorem stays_le {s : Src} {h h' : Hpe} (l : Le h h') (e : s.stays h = true) : s.stays h' = true := by
  unfold Src.stays at e ⊢
  split
  · rfl
  · rename_i n hn
    rw [hn] at e
    have e := of_decide_eq_true e
    refine decide_eq_true ?_
    unfold lstAt at e ⊢
    split at e <;> first | (cases e; done) | skip
    · rename_i k; rw [l _ _ k]; exact e
    · rename_i k; rw [l _ _ k]; exact e
  · rename_i n kvs hn
    rw [hn] at e
    exact decide_eq_true (l _ _ (of_decide_eq_true e))
/-- [g(x) for x in xs if p(x)], nothing changed meanwhile -/
theorem wp_lc {R : Rc} {σ : En} {h : Hpe} {Q : Val → Hpe → Prop} {elt : E} {tg : Tg} {it : I} {c : T} {own : List Nat} {α : Type} (xs : List α) (f g : α → Val) (p : α → Bool)
    (w : WP (evi R it σ h) fun s h1 => s.items = xs.map f ∧ xs.length ≤ sizeMax ∧ s.stays h1 = true ∧
      (∀ x ∈ xs, ∀ h2, Le h1 h2 → ∃ σ2, store tg (f x) (wipeE σ own) = some σ2 ∧ WP (evt R c σ2 h2) fun k h3 => k = p x ∧ Le h2 h3 ∧ (p x = true → WP (ev R elt σ2 h3) fun v h4 => v = g x ∧ Le h3 h4)) ∧
      ∀ h', Le h1 h' → h'[h1.length]? = some (.lst ((xs.filter p).map g)) → Q (.ref h1.length) h') : WP (ev R (.lc elt tg it c own) σ h) Q := by
  simp only [ev]
  refine WP.bind (w.mono fun s h1 ⟨ei, hz, hs, hel, q⟩ => ?_)
  rw [ei]
  refine WP.bind (lcL_rule (D := h1.length) (fun i acc h2 => i ≤ xs.length ∧ acc = ((xs.take i).filter p).map g ∧ Le h1 h2 ∧ h2[h1.length]? = some (.lst acc)) (xs.map f) 0 ⟨Nat.zero_le _, rfl, Le.push _ _, at_push _ _⟩ (fun i acc h2 ⟨_, _, l, _⟩ => stays_le l hs) (fun i x acc h2 hx ⟨hi, ha, l, hd⟩ => ?_) fun acc h2 ⟨_, ha, l, hd⟩ => ?_)
  · rw [List.getElem?_map] at hx
    obtain ⟨y, hy, rfl⟩ := Option.map_eq_some_iff.mp hx
    have hlt : i < xs.length := (List.getElem?_eq_some_iff.mp hy).1
    obtain ⟨σ2, e1, w2⟩ := hel y (List.mem_of_getElem? hy) h2 l
    have ht : (xs.take (0 + i + 1)) = xs.take (0 + i) ++ [y] := by
      rw [Nat.zero_add, List.take_add_one, hy]
      rfl
    simp only [lcStep, e1]
    refine WP.bind (w2.mono fun k h3 ⟨hk, l3, w3⟩ => ?_)
    cases k with
    | true =>
      simp only [if_true]
      refine WP.bind ((w3 hk.symm).mono fun v h4 ⟨hv, l4⟩ => ?_)
      have hd4 := l4 _ _ (l3 _ _ hd)
      refine WP.ok ⟨hd4, ?_, by omega, ?_, ((l.trans l3).trans l4).set (Nat.le_refl _) _, at_set hd4⟩
      · rw [ha, List.length_map]
        refine Nat.lt_of_le_of_lt (List.length_filter_le _ _) ?_
        rw [List.length_take]
        omega
      · rw [ht, List.filter_append, List.map_append, ← ha]
        simp [← hk, hv]
    | false =>
      simp only [Bool.false_eq_true, if_false]
      refine WP.ok ⟨by omega, ?_, l.trans l3, l3 _ _ hd⟩
      rw [ht, List.filter_append, List.map_append, ← ha]
      simp [← hk]
  · rw [List.length_map, Nat.zero_add, List.take_length] at ha
    exact WP.ok (q h2 l (by rw [← ha]; exact hd))
/-- [g(x) for x in xs], nothing changed meanwhile -/
theorem wp_map {R : Rc} {σ : En} {h : Hpe} {Q : Val → Hpe → Prop} {elt : E} {tg : Tg} {it : I} {own : List Nat} {α : Type} (xs : List α) (f g : α → Val)
    (w : WP (evi R it σ h) fun s h1 => s.items = xs.map f ∧ xs.length ≤ sizeMax ∧ s.stays h1 = true ∧
      (∀ x ∈ xs, ∀ h2, Le h1 h2 → ∃ σ2, store tg (f x) (wipeE σ own) = some σ2 ∧ WP (ev R elt σ2 h2) fun v h4 => v = g x ∧ Le h2 h4) ∧
      ∀ h', Le h1 h' → h'[h1.length]? = some (.lst (xs.map g)) → Q (.ref h1.length) h') : WP (ev R (.lc elt tg it .tt own) σ h) Q :=
  wp_lc xs f g (fun _ => true) (w.mono fun s h1 ⟨a, b, c, d, e⟩ => ⟨a, b, c, fun x hx h2 l => by
    obtain ⟨σ2, e1, w⟩ := d x hx h2 l
    exact ⟨σ2, e1, wpt_tt ⟨rfl, .rfl, fun _ => w⟩⟩, fun h' l q => e h' l (by rw [q, List.filter_eq_self.mpr (fun _ _ => rfl)])⟩)
/-- keys of a sort, nothing changed meanwhile -/
theorem keysL_rule {f : Val → Hpe → Res Val} (g : Val → Val) : ∀ (xs : List Val) {h : Hpe} {Q : List Val → Hpe → Prop}, (∀ x ∈ xs, ∀ h2, Le h h2 → WP (f x h2) fun v h3 => v = g x ∧ Le h2 h3) → (∀ h', Le h h' → Q (xs.map g) h') → WP (keysL f xs h) Q
  | [], h, Q, _, q => WP.ok (q h .rfl)
  | x :: xs, h, Q, w, q => by
    simp only [keysL]
    refine WP.bind ((w x List.mem_cons_self h .rfl).mono fun v h1 ⟨e, l⟩ => ?_)
    refine WP.bind (keysL_rule g xs (fun y hy h2 l2 => w y (List.mem_cons_of_mem _ hy) h2 (l.trans l2)) fun h' l' => ?_)
    rw [e]
    exact WP.ok (q h' (l.trans l'))
/-! ### calls -/
abbrev Rk (P : Prog) (k : Nat) : Rc := ⟨call P k, (call2 P k).2, keyOk P k, P.con, P.fuel⟩
theorem call_of {P : Prog} {k : Nat} {f : Str} {vs : List Val} {h : Hpe} {np nl : Nat} {body : Ss} {Q : Val → Hpe → Prop} {σ : En} (hF : P.fn f = some ⟨np, nl, body⟩) (hl : vs.length = np) (hσ : startE nl vs = σ)
    (w : WS (runs (Rk P k) body σ h) (fun _ h => Q .non h) Q (fun _ _ => False) (fun _ _ => False)) : WP (call P (k + 1) f vs h) Q := by
  rw [call_succ]
  subst hσ
  simp only [callBy, hF, hl, if_true]
  refine WP.bind (WP.mono w fun f h1 w => ?_)
  cases f with
  | nx σ => (first | exact w | exact WP.ok (w))
  | rt v => (first | exact w | exact WP.ok (w))
  | bk v => exact w.elim
  | ct v => exact w.elim
/-- values without places are what they are: == tells them apart -/
theorem inside_tup {x : Val} {ys : List Val} {h : Hpe} {Q : Bool → Hpe → Prop} (c : ∀ y ∈ ys, canEq x y = true) (q : Q (ys.any fun z => z.eqv x) h) : WP (inside x (.tup ys) h) Q := by
  simp only [inside]
  rw [if_pos (List.all_eq_true.mpr c)]
  (first | exact q | exact WP.ok (q))
theorem inside_lst {x : Val} {n : Nat} {ys : List Val} {h : Hpe} {Q : Bool → Hpe → Prop} (e : h[n]? = some (.lst ys)) (c : ∀ y ∈ ys, canEq x y = true) (q : Q (ys.any fun z => z.eqv x) h) : WP (inside x (.ref n) h) Q := by
  simp only [inside, e]
  rw [if_pos (List.all_eq_true.mpr c)]
  (first | exact q | exact WP.ok (q))
theorem len_and {xs : List Val} {Q : Prop} (z : xs.length ≤ sizeMax) (q : Q) : xs.length ≤ sizeMax ∧ Q := ⟨z, q⟩
/-! ### operations on values of known shape -/
section
variable {R : Rc} {σ : En} {h : Hpe} {Q : Val → Hpe → Prop} {QB : Bool → Hpe → Prop}
theorem wp_cnon (q : Q .non h) : WP (ev R (.con .non) σ h) Q := WP.ok q
theorem wp_cbl {b : Bool} (q : Q (.bl b) h) : WP (ev R (.con (.bl b)) σ h) Q := WP.ok q
theorem wp_cint {i : Int} (q : Q (.int i) h) : WP (ev R (.con (.int i)) σ h) Q := WP.ok q
theorem wp_cstr {s : Str} (q : Q (.str s) h) : WP (ev R (.con (.str s)) σ h) Q := WP.ok q
theorem op_addi {i j : Int} (q : Q (.int (i + j)) h) : WP (binop .add (.int i) (.int j) h) Q := WP.ok q
theorem op_subi {i j : Int} (q : Q (.int (i - j)) h) : WP (binop .sub (.int i) (.int j) h) Q := WP.ok q
theorem op_muli {i j : Int} (z : (-(2 ^ 64) < i ∧ i < 2 ^ 64) ∨ (-(2 ^ 64) < j ∧ j < 2 ^ 64)) (q : Q (.int (i * j)) h) : WP (binop .mul (.int i) (.int j) h) Q := by simp only [binop]; rw [if_pos z]; (first | exact q | exact WP.ok (q))
theorem op_fdivi {i j : Int} (z : 0 < j ∧ j < 1073741824) (q : Q (.int (i / j)) h) : WP (binop .fdiv (.int i) (.int j) h) Q := by simp only [binop]; rw [if_pos z]; (first | exact q | exact WP.ok (q))
theorem op_modi {i j : Int} (z : 0 < j) (q : Q (.int (i % j)) h) : WP (binop .mod (.int i) (.int j) h) Q := by simp only [binop]; rw [if_pos z]; (first | exact q | exact WP.ok (q))
theorem op_powi {i j : Int} (z : 0 ≤ j ∧ j ≤ 1000 ∧ i.natAbs < 2 ^ 64) (q : Q (.int (i ^ j.toNat)) h) : WP (binop .pow (.int i) (.int j) h) Q := by simp only [binop]; rw [if_pos z]; (first | exact q | exact WP.ok (q))
theorem op_cats {x y : Str} (z : x.length + y.length ≤ sizeMax) (q : Q (.str (x ++ y)) h) : WP (binop .add (.str x) (.str y) h) Q := by simp only [binop]; rw [if_pos z]; (first | exact q | exact WP.ok (q))
theorem op_catt {x y : List Val} (z : x.length + y.length ≤ sizeMax) (q : Q (.tup (x ++ y)) h) : WP (binop .add (.tup x) (.tup y) h) Q := by simp only [binop]; rw [if_pos z]; (first | exact q | exact WP.ok (q))
theorem op_catl {m n : Nat} {x y : List Val} (e1 : h[m]? = some (.lst x)) (e2 : h[n]? = some (.lst y)) (z : x.length + y.length ≤ sizeMax) (q : Q (.ref h.length) (h ++ [.lst (x ++ y)])) : WP (binop .add (.ref m) (.ref n) h) Q := by simp only [binop, e1, e2]; rw [if_pos z]; (first | exact q | exact WP.ok (q))
theorem op_eqi {i j : Int} (q : QB (decide (i = j)) h) : WP (cmpop .eq (.int i) (.int j) h) QB := by
  have : cmpop .eq (.int i) (.int j) h = .ok (decide (i = j)) h := by
    simp only [cmpop]
    rw [if_pos (by rfl)]
    congr 1
  rw [this]; (first | exact q | exact WP.ok (q))
theorem op_nei {i j : Int} (q : QB (!decide (i = j)) h) : WP (cmpop .ne (.int i) (.int j) h) QB := by
  have : cmpop .ne (.int i) (.int j) h = .ok (!decide (i = j)) h := by
    simp only [cmpop]
    rw [if_pos (by rfl)]
    congr 1
  rw [this]; (first | exact q | exact WP.ok (q))
theorem op_eqs {i j : Str} (q : QB (decide (i = j)) h) : WP (cmpop .eq (.str i) (.str j) h) QB := by
  have : cmpop .eq (.str i) (.str j) h = .ok (decide (i = j)) h := by
    simp only [cmpop]
    rw [if_pos (by rfl)]
    congr 1
  rw [this]; (first | exact q | exact WP.ok (q))
theorem op_nes {i j : Str} (q : QB (!decide (i = j)) h) : WP (cmpop .ne (.str i) (.str j) h) QB := by
  have : cmpop .ne (.str i) (.str j) h = .ok (!decide (i = j)) h := by
    simp only [cmpop]
    rw [if_pos (by rfl)]
    congr 1
  rw [this]; (first | exact q | exact WP.ok (q))
theorem op_neb {i j : Bool} (q : QB (!decide (i = j)) h) : WP (cmpop .ne (.bl i) (.bl j) h) QB := by
  have : cmpop .ne (.bl i) (.bl j) h = .ok (!decide (i = j)) h := by
    simp only [cmpop]
    rw [if_pos (by rfl)]
    cases i <;> cases j <;> rfl
  rw [this]; (first | exact q | exact WP.ok (q))
theorem op_eqb {i j : Bool} (q : QB (decide (i = j)) h) : WP (cmpop .eq (.bl i) (.bl j) h) QB := by
  have : cmpop .eq (.bl i) (.bl j) h = .ok (decide (i = j)) h := by
    simp only [cmpop]
    rw [if_pos (by rfl)]
    cases i <;> cases j <;> rfl
  rw [this]; (first | exact q | exact WP.ok (q))
theorem op_lti {i j : Int} (q : QB (decide (i < j)) h) : WP (cmpop .lt (.int i) (.int j) h) QB := WP.ok q
theorem op_lei {i j : Int} (q : QB (decide (i ≤ j)) h) : WP (cmpop .le (.int i) (.int j) h) QB := WP.ok q
theorem op_gti {i j : Int} (q : QB (decide (j < i)) h) : WP (cmpop .gt (.int i) (.int j) h) QB := WP.ok q
theorem op_gei {i j : Int} (q : QB (decide (j ≤ i)) h) : WP (cmpop .ge (.int i) (.int j) h) QB := WP.ok q
theorem op_lts {i j : Str} (q : QB (decide (i.cps.toList < j.cps.toList)) h) : WP (cmpop .lt (.str i) (.str j) h) QB := WP.ok q
theorem op_isn {v : Val} (q : QB (decide (v = .non)) h) : WP (cmpop .isn v .non h) QB := WP.ok q
theorem op_isnn {v : Val} (q : QB (!decide (v = .non)) h) : WP (cmpop .isnn v .non h) QB := WP.ok q
theorem op_inn {x y : Val} (w : WP (inside x y h) QB) : WP (cmpop .inn x y h) QB := w
theorem op_nin {x y : Val} (w : WP (inside x y h) fun r h1 => QB (!r) h1) : WP (cmpop .nin x y h) QB := by
  simp only [cmpop]
  exact WP.map w
theorem tr_bl {b : Bool} (q : QB b h) : WP (truth (.bl b) h) QB := WP.ok q
theorem tr_int {i : Int} (q : QB (i != 0) h) : WP (truth (.int i) h) QB := WP.ok q
theorem tr_non (q : QB false h) : WP (truth .non h) QB := WP.ok q
theorem tr_lst {n : Nat} {xs : List Val} (e : h[n]? = some (.lst xs)) (q : QB (!xs.isEmpty) h) : WP (truth (.ref n) h) QB := by simp only [truth, e]; (first | exact q | exact WP.ok (q))
theorem ty_non {t : Ty} (q : QB false h) : WP (tyOk t .non h) QB := WP.ok q
theorem ty_bl {t : Ty} {b : Bool} (q : QB (t == .bool || t == .int) h) : WP (tyOk t (.bl b) h) QB := WP.ok q
theorem ty_int {t : Ty} {b : Int} (q : QB (t == .int) h) : WP (tyOk t (.int b) h) QB := WP.ok q
theorem ty_str {t : Ty} {b : Str} (q : QB (t == .str) h) : WP (tyOk t (.str b) h) QB := WP.ok q
theorem ty_tup {t : Ty} {b : List Val} (q : QB (t == .tuple) h) : WP (tyOk t (.tup b) h) QB := WP.ok q
theorem ty_lst {t : Ty} {n : Nat} {b : List Val} (e : h[n]? = some (.lst b)) (q : QB (t == .list) h) : WP (tyOk t (.ref n) h) QB := by simp only [tyOk, e]; (first | exact q | exact WP.ok (q))
theorem lstAt_lst {n : Nat} {b : List Val} (e : h[n]? = some (.lst b)) : lstAt h n = some b := by simp only [lstAt, e]
theorem lstAt_frz {n : Nat} {b : List Val} (e : h[n]? = some (.frz b)) : lstAt h n = some b := by simp only [lstAt, e]
theorem bi_lent {xs : List Val} (q : Q (.int xs.length) h) : WP (builtin .len (.tup xs) h) Q := WP.ok q
theorem bi_lens {s : Str} (z : s.length ≤ sizeMax) (q : Q (.int s.length) h) : WP (builtin .len (.str s) h) Q := by simp only [builtin]; rw [if_pos z]; (first | exact q | exact WP.ok (q))
theorem bi_lenl {n : Nat} {xs : List Val} (e : lstAt h n = some xs) (q : Q (.int xs.length) h) : WP (builtin .len (.ref n) h) Q := by simp only [builtin, seqOf, e]; (first | exact q | exact WP.ok (q))
theorem bi_abs {i : Int} (q : Q (.int (if i < 0 then -i else i)) h) : WP (builtin .abs (.int i) h) Q := WP.ok q
theorem bi_int {i : Int} (q : Q (.int i) h) : WP (builtin .int (.int i) h) Q := WP.ok q
theorem bi_tupt {xs : List Val} (q : Q (.tup xs) h) : WP (builtin .tuple (.tup xs) h) Q := WP.ok q
theorem bi_tupl {n : Nat} {xs : List Val} (e : lstAt h n = some xs) (q : Q (.tup xs) h) : WP (builtin .tuple (.ref n) h) Q := by simp only [builtin, seqOf, e]; (first | exact q | exact WP.ok (q))
theorem bi_listt {xs : List Val} (q : Q (.ref h.length) (h ++ [.lst xs])) : WP (builtin .list (.tup xs) h) Q := WP.ok q
theorem bi_listl {n : Nat} {xs : List Val} (e : lstAt h n = some xs) (q : Q (.ref h.length) (h ++ [.lst xs])) : WP (builtin .list (.ref n) h) Q := by simp only [builtin, seqOf, e]; (first | exact q | exact WP.ok (q))
theorem bi_sum {n : Nat} {xs : List Val} {is : List Int} (e : lstAt h n = some xs) (k : intsOf xs = some is) (q : Q (.int is.sum) h) : WP (builtin .sum (.ref n) h) Q := by simp only [builtin, e, Option.bind, k]; (first | exact q | exact WP.ok (q))
theorem bi_any {n : Nat} {xs : List Val} {is : List Bool} (e : lstAt h n = some xs) (k : blsOf xs = some is) (q : Q (.bl (is.any id)) h) : WP (builtin .any (.ref n) h) Q := by simp only [builtin, e, Option.bind, k]; (first | exact q | exact WP.ok (q))
theorem bi_all {n : Nat} {xs : List Val} {is : List Bool} (e : lstAt h n = some xs) (k : blsOf xs = some is) (q : Q (.bl (is.all id)) h) : WP (builtin .all (.ref n) h) Q := by simp only [builtin, e, Option.bind, k]; (first | exact q | exact WP.ok (q))
theorem bi_dict {n : Nat} {kvs : List (Val × Val)} (e : dicAt h n = some kvs) (q : Q (.ref h.length) (h ++ [.dic kvs])) : WP (builtin .dict (.ref n) h) Q := by simp only [builtin, e]; (first | exact q | exact WP.ok (q))
theorem ix_tup {xs : List Val} {i : Int} {v : Val} {n : Nat} (p : place xs.length i = some n) (e : xs[n]? = some v) (q : Q v h) : WP (index (.tup xs) (.int i) h) Q := by simp only [index, seqOf, p, Option.bind, e]; (first | exact q | exact WP.ok (q))
theorem place_nat {n : Nat} {i : Nat} (h : i < n) : place n (i : Int) = some i := by
  unfold place
  rw [if_pos (by omega), if_pos (by omega)]
  rfl
theorem place_zero {n : Nat} (h : 0 < n) : place n 0 = some 0 := place_nat (i := 0) h
theorem ix_tup0 {x : Val} {xs : List Val} (q : Q x h) : WP (index (.tup (x :: xs)) (.int 0) h) Q := ix_tup (n := 0) (place_zero (Nat.succ_pos _)) rfl q
theorem ix_tup1 {x y : Val} {xs : List Val} (q : Q y h) : WP (index (.tup (x :: y :: xs)) (.int 1) h) Q := ix_tup (n := 1) (place_nat (i := 1) (by simp)) rfl q
theorem ix_tup2 {x y z : Val} {xs : List Val} (q : Q z h) : WP (index (.tup (x :: y :: z :: xs)) (.int 2) h) Q := ix_tup (n := 2) (place_nat (i := 2) (by simp)) rfl q
theorem ix_lst {xs : List Val} {m : Nat} {i : Int} {v : Val} {n : Nat} (k : lstAt h m = some xs) (p : place xs.length i = some n) (e : xs[n]? = some v) (q : Q v h) : WP (index (.ref m) (.int i) h) Q := by simp only [index, seqOf, k, p, Option.bind, e]; (first | exact q | exact WP.ok (q))
theorem ix_dic {kvs : List (Val × Val)} {m : Nat} {i : Str} {v : Val} (k : dicAt h m = some kvs) (e : lookD kvs (.str i) = some v) (q : Q v h) : WP (index (.ref m) (.str i) h) Q := by simp only [index, k, Option.bind, e]; (first | exact q | exact WP.ok (q))
theorem place_last {n : Nat} (h : 0 < n) : place n (-1) = some (n - 1) := by
  unfold place
  rw [if_neg (by omega), if_pos (by omega)]
  congr 1
  omega
theorem sl_tup {xs : List Val} {lo hi : Option Int} (q : Q (.tup (cut xs lo hi)) h) : WP (slice (.tup xs) lo hi h) Q := WP.ok q
theorem sl_lst {xs : List Val} {n : Nat} {lo hi : Option Int} (e : lstAt h n = some xs) (q : Q (.ref h.length) (h ++ [.lst (cut xs lo hi)])) : WP (slice (.ref n) lo hi h) Q := by simp only [slice, e]; (first | exact q | exact WP.ok (q))
theorem mt_app {n : Nat} {xs : List Val} {v : Val} (e : h[n]? = some (.lst xs)) (z : xs.length < sizeMax) (q : Q .non (h.set n (.lst (xs ++ [v])))) : WP (method .append (.ref n) [v] h) Q := by simp only [method, e]; rw [if_pos z]; (first | exact q | exact WP.ok (q))
theorem mt_ext {n m : Nat} {xs ys : List Val} (e : h[n]? = some (.lst xs)) (e2 : h[m]? = some (.lst ys)) (z : xs.length + ys.length ≤ sizeMax) (q : Q .non (h.set n (.lst (xs ++ ys)))) : WP (method .extend (.ref n) [.ref m] h) Q := by simp only [method, e, e2]; rw [if_pos z]; (first | exact q | exact WP.ok (q))
theorem mt_ins {n : Nat} {xs : List Val} {i : Int} {v : Val} (e : h[n]? = some (.lst xs)) (z : xs.length < sizeMax ∧ 0 ≤ i ∧ i < 2 ^ 62) (q : Q .non (h.set n (.lst (xs.take i.toNat ++ v :: xs.drop i.toNat)))) : WP (method .insert (.ref n) [.int i, v] h) Q := by simp only [method, e]; rw [if_pos z]; (first | exact q | exact WP.ok (q))
theorem mt_rev {n : Nat} {xs : List Val} (e : h[n]? = some (.lst xs)) (q : Q .non (h.set n (.lst xs.reverse))) : WP (method .reverse (.ref n) [] h) Q := by simp only [method, e]; (first | exact q | exact WP.ok (q))
theorem mt_get {n : Nat} {kvs : List (Val × Val)} {k : Str} {d : Val} (e : dicAt h n = some kvs) (q : Q ((lookD kvs (.str k)).getD d) h) : WP (method .get (.ref n) [.str k, d] h) Q := by simp only [method, e]; (first | exact q | exact WP.ok (q))
theorem mt_join {n : Nat} {xs : List Val} {s : Str} {us : List Str} (e : lstAt h n = some xs) (k : strsOf xs = some us) (z : (us.map (·.length)).sum + us.length * s.length ≤ sizeMax) (q : Q (.str (Str.join s us)) h) : WP (method .join (.str s) [.ref n] h) Q := by simp only [method, e, Option.bind, k]; rw [if_pos z]; (first | exact q | exact WP.ok (q))
theorem rc_lst {m : Mth} {n : Nat} {xs : List Val} (hm : m ≠ .get) (hj : m ≠ .join) (e : h[n]? = some (.lst xs)) : recvOk m (.ref n) h = true := by cases m <;> first | (exact absurd rfl hm) | (exact absurd rfl hj) | simp only [recvOk, e]
theorem rc_get {n : Nat} {kvs : List (Val × Val)} (e : dicAt h n = some kvs) : recvOk .get (.ref n) h = true := by simp only [recvOk, e]; rfl
theorem si_lst {n : Nat} {xs : List Val} {k : Int} {j : Nat} {v : Val} {QU : Unit → Hpe → Prop} (e : h[n]? = some (.lst xs)) (p : place xs.length k = some j) (q : QU () (h.set n (.lst (xs.set j v)))) : WP (setItem (.ref n) (.int k) v h) QU := by simp only [setItem, e, p]; (first | exact q | exact WP.ok (q))
theorem si_dic {n : Nat} {kvs : List (Val × Val)} {k : Str} {v : Val} {QU : Unit → Hpe → Prop} (e : h[n]? = some (.dic kvs)) (z : kvs.length < sizeMax) (q : QU () (h.set n (.dic (putD kvs (.str k) v)))) : WP (setItem (.ref n) (.str k) v h) QU := by simp only [setItem, e]; rw [if_pos z]; (first | exact q | exact WP.ok (q))
end
theorem wp_glbR {P : Prog} {k : Nat} {x : Str} {v : Val} {σ : En} {h : Hpe} {Q : Val → Hpe → Prop} (e : P.con x = some v) (q : Q v h) : WP (ev (Rk P k) (.glb x) σ h) Q := wp_glb (R := Rk P k) e q
/-- a word in a row of words -/
theorem in_words {QB : Bool → Hpe → Prop} {x : Str} {ys : List Str} {h : Hpe} (q : QB (decide (x ∈ ys)) h) : WP (inside (.str x) (.tup (ys.map Val.str)) h) QB := by
  refine inside_tup (fun y hy => ?_) ?_
  · obtain ⟨z, _, rfl⟩ := List.mem_map.mp hy
    rfl
  · have : ((ys.map Val.str).any fun z => z.eqv (.str x)) = decide (x ∈ ys) := by
      clear q
      induction ys with
      | nil => simp
      | cons y ys ih =>
        rw [List.map_cons, List.any_cons, ih, Val.eqv]
        by_cases e : x = y
        · subst e; simp
        · have : y ≠ x := fun z => e z.symm
          simp [e, this]
    rw [this]
    exact q
theorem in_two {QB : Bool → Hpe → Prop} {x a b : Str} {h : Hpe} (q : QB (decide (x ∈ [a, b])) h) : WP (inside (.str x) (.tup [.str a, .str b]) h) QB := in_words (ys := [a, b]) q
end Ev

local macro_rules | `(tactic| array_get_dec) => `(tactic| first
  | ((with_reducible refine Ev.ws_cons ?_); (try simp only [List.set_cons_zero, List.set_cons_succ])) | (with_reducible refine Ev.ws_nil ?_) | (with_reducible refine Ev.ws_set ?_) | (with_reducible refine Ev.ws_ret ?_) | (with_reducible refine Ev.ws_ifs ?_) | (with_reducible refine Ev.ws_expr ?_)
  | (with_reducible refine Ev.wps_cons ?_) | (with_reducible refine Ev.wps_nil ?_)
  | ((with_reducible refine Ev.wp_var (v := ?_) ?_ ?_); rotate_left 1; (simp only [Ev.wipeE, List.set_cons_zero, List.set_cons_succ, List.getElem?_cons_succ, List.getElem?_cons_zero]); exact rfl)
  | (with_reducible refine Ev.wp_cint ?_) | (with_reducible refine Ev.wp_cstr ?_) | (with_reducible refine Ev.wp_cbl ?_) | (with_reducible refine Ev.wp_cnon ?_)
  | (with_reducible refine Ev.wp_call ?_) | (with_reducible refine Ev.wp_blt ?_) | (with_reducible refine Ev.wp_ix ?_) | (with_reducible refine Ev.wp_isi ?_) | (with_reducible refine Ev.wp_bin ?_) | (with_reducible refine Ev.wp_cmp ?_) | (with_reducible refine Ev.wp_mth ?_)
  | (with_reducible refine Ev.wp_sl ?_) | (with_reducible refine Ev.wp_chn ?_) | (with_reducible refine Ev.wp_andv ?_) | (with_reducible refine Ev.wp_orv ?_) | (with_reducible refine Ev.wp_one ?_) | (with_reducible refine Ev.wp_notv ?_) | (with_reducible refine Ev.wp_ife ?_) | (with_reducible refine Ev.wp_tuprev ?_) | (with_reducible refine Ev.wp_srt ?_)
  | (with_reducible refine Ev.wp_tup ?_) | (with_reducible refine Ev.wp_lst ?_) | (with_reducible refine Ev.wp_dct0 ?_) | (with_reducible refine Ev.wp_neg ?_)
  | (with_reducible refine Ev.wpo_no ?_) | (with_reducible refine Ev.wpo_yes ?_)
  | (with_reducible refine Ev.wpt_val ?_) | (with_reducible refine Ev.wpt_cmp ?_) | (with_reducible refine Ev.wpt_not ?_) | (with_reducible refine Ev.wpt_and ?_) | (with_reducible refine Ev.wpt_or ?_) | (with_reducible refine Ev.wpt_one ?_) | (with_reducible refine Ev.wpt_chn ?_) | (with_reducible refine Ev.wpt_tt ?_)
  | (with_reducible refine Ev.wpi_seq ?_) | (with_reducible refine Ev.wpi_rng1 ?_) | (with_reducible refine Ev.wpi_rng2 ?_) | (with_reducible refine Ev.wpi_dky ?_)
  | (with_reducible refine Ev.ws_setSub ?_) | (with_reducible refine Ev.ws_fors ?_) | (with_reducible refine Ev.ws_retN ?_) | (with_reducible refine Ev.ws_pass ?_) | (with_reducible refine Ev.ws_brk ?_) | (with_reducible refine Ev.ws_cnt ?_)
  | (with_reducible refine Ev.op_addi ?_) | (with_reducible refine Ev.op_subi ?_) | (with_reducible refine Ev.op_eqi ?_) | (with_reducible refine Ev.op_nei ?_) | (with_reducible refine Ev.op_eqs ?_) | (with_reducible refine Ev.op_nes ?_) | (with_reducible refine Ev.op_eqb ?_) | (with_reducible refine Ev.op_neb ?_)
  | (with_reducible refine Ev.op_lti ?_) | (with_reducible refine Ev.op_lei ?_) | (with_reducible refine Ev.op_gti ?_) | (with_reducible refine Ev.op_gei ?_) | (with_reducible refine Ev.op_lts ?_) | (with_reducible refine Ev.op_isn ?_) | (with_reducible refine Ev.op_isnn ?_) | (with_reducible refine Ev.op_inn ?_) | (with_reducible refine Ev.op_nin ?_)
  | (with_reducible refine Ev.tr_bl ?_) | (with_reducible refine Ev.tr_int ?_) | (with_reducible refine Ev.tr_non ?_) | (with_reducible refine Ev.ty_non ?_) | (with_reducible refine Ev.ty_bl ?_) | (with_reducible refine Ev.ty_int ?_) | (with_reducible refine Ev.ty_str ?_) | (with_reducible refine Ev.ty_tup ?_)
  | (with_reducible refine Ev.bi_lent ?_) | (with_reducible refine Ev.bi_abs ?_) | (with_reducible refine Ev.bi_int ?_) | (with_reducible refine Ev.bi_tupt ?_) | (with_reducible refine Ev.bi_listt ?_) | (with_reducible refine Ev.sl_tup ?_))
local macro_rules | `(tactic| sizeOf_list_dec) => `(tactic| repeat (first | array_get_dec | ((with_reducible refine Ev.len_and ?_ ?_); focus (simp [Ev.sizeMax] <;> fail)) | (refine ⟨fun h => absurd h ?_, fun _ => ?_⟩; focus (first | decide | (simp <;> fail))) | (refine ⟨fun _ => ?_, fun h => absurd h ?_⟩; rotate_left 1; focus (first | decide | (simp <;> fail)))))
local macro_rules | `(tactic| array_mem_dec) => `(tactic| repeat (first | array_get_dec | (with_reducible refine Ev.ix_tup0 ?_) | (with_reducible refine Ev.ix_tup1 ?_) | (with_reducible refine Ev.ix_tup2 ?_) | ((with_reducible refine Ev.wp_glbR (v := ?_) ?_ ?_); rotate_left 1; assumption) | (with_reducible refine Ev.in_words ?_) | (with_reducible refine Ev.in_two ?_) | ((with_reducible refine Ev.len_and ?_ ?_); focus (simp [Ev.sizeMax] <;> fail)) | (refine ⟨fun h => absurd h ?_, fun _ => ?_⟩; focus (first | decide | decide +kernel | (simp <;> fail))) | (refine ⟨fun _ => ?_, fun h => absurd h ?_⟩; rotate_left 1; focus (first | decide | decide +kernel | (simp <;> fail)))))
/-! EvLib: the laws' common helpers: _law_start, _law_take, _law_same. -/
namespace Ev
open PySem
/-- _law_start(script): script, row, seed, k, cell, j, mixed -/
def B__law_start : Ss := .cons (.set 1 (.lst (.nil))) (.cons (.set 2 (.con (.int 17))) (.cons (.fors (.nm 3) (.rng1 (.blt .len (.var 0))) (.cons (.set 4 (.blt .abs (.ix (.var 0) (.var 3)))) (.cons (.set 2 (.bin .mod (.blt .int (.bin .add (.bin .add (.bin .mul (.var 2) (.con (.int 31))) (.var 4)) (.var 3))) (.con (.int 2147483647)))) (.cons (.ifs (.cmp .ge (.var 4) (.bin .pow (.con (.int 10)) (.con (.int 18)))) (.cons (.set 4 (.bin .sub (.var 4) (.bin .pow (.con (.int 10)) (.con (.int 18))))) (.cons (.fors (.nm 5) (.rng1 (.con (.int 60))) (.cons (.ifs (.cmp .gt (.var 4) (.con (.int 0))) (.cons (.expr (.mth .append (.var 1) (.cons (.bin .mod (.blt .int (.var 4)) (.con (.int 840))) .nil))) (.cons (.set 4 (.bin .fdiv (.var 4) (.con (.int 840)))) .nil)) (.nil)) .nil)) .nil)) (.cons (.set 6 (.bin .mod (.blt .int (.bin .add (.bin .mul (.bin .add (.var 4) (.con (.int 1))) (.con (.int 48271))) (.bin .mul (.var 3) (.con (.int 69621))))) (.con (.int 2147483647)))) (.cons (.set 6 (.bin .mod (.blt .int (.bin .add (.bin .mul (.var 6) (.con (.int 40692))) (.con (.int 5)))) (.con (.int 2147483399)))) (.cons (.expr (.mth .append (.var 1) (.cons (.bin .mod (.bin .fdiv (.var 6) (.con (.int 13))) (.con (.int 840))) .nil))) .nil)))) .nil)))) (.cons (.ret (.lst (.cons (.var 1) (.cons (.con (.int 0)) (.cons (.var 2) .nil))))) .nil)))
/-- _law_take(state, many): state, many, at, mixed -/
def B__law_take : Ss := .cons (.set 2 (.ix (.var 0) (.con (.int 1)))) (.cons (.setSub (.var 0) (.con (.int 1)) (.bin .add (.var 2) (.con (.int 1)))) (.cons (.ifs (.cmp .lt (.var 2) (.blt .len (.ix (.var 0) (.con (.int 0))))) (.cons (.ret (.bin .mod (.blt .int (.ix (.ix (.var 0) (.con (.int 0))) (.var 2))) (.var 1))) .nil) (.nil)) (.cons (.set 3 (.bin .mod (.blt .int (.bin .mul (.bin .add (.ix (.var 0) (.con (.int 2))) (.bin .mul (.var 2) (.con (.int 40503)))) (.con (.int 48271)))) (.con (.int 2147483647)))) (.cons (.set 3 (.bin .mod (.blt .int (.bin .add (.bin .mul (.var 3) (.con (.int 69621))) (.bin .mul (.var 2) (.var 2)))) (.con (.int 2147483629)))) (.cons (.ret (.bin .mod (.bin .fdiv (.var 3) (.con (.int 11))) (.var 1))) .nil)))))
/-- _law_same(one, two): one, two, k -/
def B__law_same : Ss := .cons (.ifs (.or (.cmp .isn (.var 0) (.con .non)) (.one (.cmp .isn (.var 1) (.con .non)))) (.cons (.ret (.andv (.cmp .isn (.var 0) (.con .non)) (.one (.cmp .isn (.var 1) (.con .non))))) .nil) (.nil)) (.cons (.ifs (.or (.val (.isi (.var 0) .bool)) (.one (.val (.isi (.var 1) .bool)))) (.cons (.ret (.andv (.isi (.var 0) .bool) (.andv (.isi (.var 1) .bool) (.one (.cmp .eq (.var 0) (.var 1)))))) .nil) (.nil)) (.cons (.ifs (.or (.val (.isi (.var 0) .int)) (.one (.val (.isi (.var 1) .int)))) (.cons (.ret (.andv (.isi (.var 0) .int) (.andv (.isi (.var 1) .int) (.one (.cmp .eq (.var 0) (.var 1)))))) .nil) (.nil)) (.cons (.ifs (.or (.val (.isi (.var 0) .str)) (.one (.val (.isi (.var 1) .str)))) (.cons (.ret (.andv (.isi (.var 0) .str) (.andv (.isi (.var 1) .str) (.one (.cmp .eq (.var 0) (.var 1)))))) .nil) (.nil)) (.cons (.ifs (.or (.cmp .ne (.isi (.var 0) .tuple) (.isi (.var 1) .tuple)) (.one (.cmp .ne (.isi (.var 0) .list) (.isi (.var 1) .list)))) (.cons (.ret (.con (.bl false))) .nil) (.nil)) (.cons (.ifs (.cmp .ne (.blt .len (.var 0)) (.blt .len (.var 1))) (.cons (.ret (.con (.bl false))) .nil) (.nil)) (.cons (.ret (.blt .all (.lc (.call "_law_same" (.cons (.ix (.var 0) (.var 2)) (.cons (.ix (.var 1) (.var 2)) .nil))) (.nm 2) (.rng1 (.blt .len (.var 0))) .tt [2]))) .nil))))))
/-- the program has these defs -/
structure LibP (P : Prog) : Prop where
  law_start : P.fn (Str.ofString "_law_start") = some ⟨1, 7, B__law_start⟩
  law_take : P.fn (Str.ofString "_law_take") = some ⟨2, 4, B__law_take⟩
  law_same : P.fn (Str.ofString "_law_same") = some ⟨2, 3, B__law_same⟩

/-- the state of the draws: at most n so far -/
def StOk (st n : Nat) (h : Hpe) : Prop := ∃ (r : Nat) (a s : Int) (xs : List Int), h[st]? = some (.lst [.ref r, .int a, .int s]) ∧ r < st ∧ 0 ≤ a ∧ a ≤ (n : Int) ∧ h[r]? = some (.lst (xs.map Val.int))
theorem StOk.le {st n : Nat} {h h' : Hpe} (s : StOk st n h) (l : Le h h') : StOk st n h' := by
  obtain ⟨r, a, s, xs, e1, e2, e3, e4, e5⟩ := s
  exact ⟨r, a, s, xs, l _ _ e1, e2, e3, e4, l _ _ e5⟩
theorem StOk.set {st n m : Nat} {h : Hpe} (s : StOk st n h) (l : st < m) (o : Ob) : StOk st n (h.set m o) := by
  obtain ⟨r, a, s, xs, e1, e2, e3, e4, e5⟩ := s
  exact ⟨r, a, s, xs, at_set_ne (by omega) e1, e2, e3, e4, at_set_ne (by omega) e5⟩
theorem StOk.lt {st n : Nat} {h : Hpe} (s : StOk st n h) : st < h.length := by
  obtain ⟨r, a, sd, xs, e, _⟩ := s
  exact (List.getElem?_eq_some_iff.mp e).1
theorem StOk.more {st n m : Nat} {h : Hpe} (s : StOk st n h) (l : n ≤ m) : StOk st m h := by
  obtain ⟨r, a, s, xs, e1, e2, e3, e4, e5⟩ := s
  exact ⟨r, a, s, xs, e1, e2, e3, by omega, e5⟩
theorem take_ok {P : Prog} (L : LibP P) {k : Nat} {st n : Nat} {m : Int} {h : Hpe} (s : StOk st n h) (hn : n < 2 ^ 40) (hm : 0 < m) :
    WP (call P (k + 1) (Str.ofString "_law_take") [.ref st, .int m] h) fun v h' => (∃ i : Int, v = .int i ∧ 0 ≤ i ∧ i < m) ∧ LeX st h h' ∧ StOk st (n + 1) h' := by
  obtain ⟨r, a, sd, xs, e1, e2, e3, e4, e5⟩ := s
  refine call_of (σ := [some (.ref st), some (.int m), none, none]) L.law_take rfl rfl ?_
  unfold B__law_take
  repeat array_get_dec
  refine ix_lst (lstAt_lst e1) (n := 1) rfl rfl ?_
  repeat array_get_dec
  refine si_lst e1 (j := 1) rfl ?_
  have k1 : (h.set st (.lst [.ref r, .int (a + 1), .int sd]))[st]? = some (.lst [.ref r, .int (a + 1), .int sd]) := at_set e1
  have k2 : (h.set st (.lst [.ref r, .int (a + 1), .int sd]))[r]? = some (.lst (xs.map Val.int)) := at_set_ne (by omega) e5
  have fin : ∀ i : Int, 0 ≤ i → i < m → (∃ j : Int, Val.int i = .int j ∧ 0 ≤ j ∧ j < m) ∧ LeX st h (h.set st (.lst [.ref r, .int (a + 1), .int sd])) ∧ StOk st (n + 1) (h.set st (.lst [.ref r, .int (a + 1), .int sd])) := fun i h1 h2 =>
    ⟨⟨i, rfl, h1, h2⟩, (LeX.refl st h).set _, r, a + 1, sd, xs, k1, e2, by omega, by omega, k2⟩
  show WS (runs _ _ _ (h.set st (.lst [.ref r, .int (a + 1), .int sd]))) _ _ _ _
  generalize h.set st (.lst [.ref r, .int (a + 1), .int sd]) = h1 at *
  repeat array_get_dec
  refine ix_lst (lstAt_lst k1) (n := 0) rfl rfl ?_
  refine bi_lenl (lstAt_lst k2) ?_
  repeat array_get_dec
  refine ⟨fun hlt => ?_, fun _ => ?_⟩
  · have hlt := of_decide_eq_true hlt
    rw [List.length_map] at hlt
    repeat array_get_dec
    refine ix_lst (lstAt_lst k1) (n := 0) rfl rfl ?_
    repeat array_get_dec
    have hx : a.toNat < xs.length := by omega
    refine ix_lst (lstAt_lst k2) (n := a.toNat) (by rw [show a = ((a.toNat : Nat) : Int) by omega]; exact place_nat (by rw [List.length_map]; exact hx)) (by rw [List.getElem?_map, List.getElem?_eq_getElem hx]; rfl) ?_
    repeat array_get_dec
    exact op_modi hm (fin _ (Int.emod_nonneg _ (by omega)) (Int.emod_lt_of_pos _ hm))
  · repeat array_get_dec
    refine ix_lst (lstAt_lst k1) (n := 2) rfl rfl ?_
    repeat array_get_dec
    refine op_muli (.inr (by decide)) ?_
    repeat array_get_dec
    refine op_muli (.inr (by decide)) ?_
    repeat array_get_dec
    refine op_modi (by decide) ?_
    repeat array_get_dec
    refine op_muli (.inr (by decide)) ?_
    repeat array_get_dec
    refine op_muli (.inr (by omega)) ?_
    repeat array_get_dec
    refine op_modi (by decide) ?_
    repeat array_get_dec
    refine op_fdivi (by decide) ?_
    repeat array_get_dec
    exact op_modi hm (fin _ (Int.emod_nonneg _ (by omega)) (Int.emod_lt_of_pos _ hm))
theorem range_at {n i : Nat} {a : Int} {x : Val} (h : ((List.range n).map fun (k : Nat) => Val.int (a + (k : Int)))[i]? = some x) : i < n ∧ x = .int (a + i) := by
  rw [List.getElem?_map] at h
  obtain ⟨y, h1, h2⟩ := Option.map_eq_some_iff.mp h
  obtain ⟨h3, h4⟩ := List.getElem?_eq_some_iff.mp h1
  rw [List.length_range] at h3
  rw [List.getElem_range] at h4
  subst h4
  exact ⟨h3, h2.symm⟩
theorem start_ok {P : Prog} (L : LibP P) {k n : Nat} {xs : List Int} {h : Hpe} (e : h[n]? = some (.frz (xs.map Val.int))) (hz : xs.length ≤ 63) :
    WP (call P (k + 1) (Str.ofString "_law_start") [.ref n] h) fun v h' => ∃ st, v = .ref st ∧ h.length ≤ st ∧ Le h h' ∧ StOk st 0 h' := by
  refine call_of (σ := [some (.ref n), none, none, none, none, none, none]) L.law_start rfl rfl ?_
  unfold B__law_start
  repeat array_get_dec
  refine ⟨Nat.zero_le _, ?_⟩
  repeat array_get_dec
  refine bi_lenl (lstAt_frz (Le.push _ _ _ _ e)) ⟨_, rfl, by rw [List.length_map]; omega, ?_⟩
  rw [List.length_map, Int.toNat_natCast]
  -- the list, the seed
  refine forL_rule (fun i σ h2 => i ≤ 63 ∧ ∃ (ys : List Int) (seed : Int) (c3 c4 c5 c6 : Option Val), σ = [some (.ref n), some (.ref h.length), some (.int seed), c3, c4, c5, c6] ∧ Le h h2 ∧ h2[h.length]? = some (.lst (ys.map Val.int)) ∧ ys.length ≤ i * 60) _ 0
    ⟨Nat.zero_le _, [], 17, none, none, none, none, rfl, Le.push _ _, at_push _ _, Nat.le_refl _⟩ (fun _ _ _ _ => rfl) ?step ?done
  case step =>
    rintro i x σ h2 hx ⟨hi, ys, seed, c3, c4, c5, c6, rfl, l, hr, hy⟩
    obtain ⟨hi', rfl⟩ := range_at hx
    refine ⟨_, rfl, ?_⟩
    have hi63 : i < 63 := by omega
    rw [Nat.zero_add] at hy ⊢
    rw [Int.zero_add]
    repeat array_get_dec
    refine ix_lst (lstAt_frz (l _ _ e)) (n := i) (place_nat (by rw [List.length_map]; exact hi')) (by rw [List.getElem?_map, List.getElem?_eq_getElem hi']; rfl) ?_
    repeat array_get_dec
    refine op_muli (.inr (by decide)) ?_
    repeat array_get_dec
    refine op_modi (by decide) ?_
    repeat array_get_dec
    refine op_powi (by decide) ?_
    repeat array_get_dec
    refine ⟨fun _ => ?_, fun _ => ?_⟩
    · repeat array_get_dec
      refine op_powi (by decide) ?_
      repeat array_get_dec
      refine ⟨_, rfl, by decide, ?_⟩
      refine forL_rule (fun j σ h3 => j ≤ 60 ∧ ∃ (zs : List Int) (cell seed : Int) (d3 c5 c6 : Option Val), σ = [some (.ref n), some (.ref h.length), some (.int seed), d3, some (.int cell), c5, c6] ∧ Le h h3 ∧ h3[h.length]? = some (.lst (zs.map Val.int)) ∧ zs.length ≤ i * 60 + j) _ 0
        ⟨Nat.zero_le _, ys, _, _, _, _, _, rfl, l, hr, hy⟩ (fun _ _ _ _ => rfl) ?_ ?_
      · rintro j x σ h3 hx ⟨hj, zs, cell, seed, d3, c5, c6, rfl, l3, hr3, hz3⟩
        obtain ⟨hj', rfl⟩ := range_at hx
        have hj60 : j < 60 := hj'
        refine ⟨_, rfl, ?_⟩
        rw [Nat.zero_add] at hz3 ⊢
        repeat array_get_dec
        refine ⟨fun _ => ?_, fun _ => ?_⟩
        · repeat array_get_dec
          refine ⟨rc_lst (by decide) (by decide) hr3, ?_⟩
          repeat array_get_dec
          refine op_modi (by decide) ?_
          repeat array_get_dec
          refine mt_app hr3 (by rw [List.length_map]; unfold sizeMax; omega) ?_
          repeat array_get_dec
          refine op_fdivi (by decide) ?_
          repeat array_get_dec
          exact ⟨by omega, zs ++ [cell % 840], _, _, _, _, _, rfl, l3.set (Nat.le_refl _) _, (at_set hr3).trans (by rw [List.map_append]; rfl), by rw [List.length_append, List.length_singleton]; omega⟩
        · repeat array_get_dec
          exact ⟨by omega, zs, _, _, _, _, _, rfl, l3, hr3, by omega⟩
      · rintro σ h3 ⟨hj, zs, cell, seed, d3, c5, c6, rfl, l3, hr3, hz3⟩
        repeat array_get_dec
        exact ⟨by omega, zs, _, _, _, _, _, rfl, l3, hr3, by simp at hz3; omega⟩
    · repeat array_get_dec
      refine op_muli (.inr (by decide)) ?_
      repeat array_get_dec
      refine op_muli (.inr (by decide)) ?_
      repeat array_get_dec
      refine op_modi (by decide) ?_
      repeat array_get_dec
      refine op_muli (.inr (by decide)) ?_
      repeat array_get_dec
      refine op_modi (by decide) ?_
      repeat array_get_dec
      refine ⟨rc_lst (by decide) (by decide) hr, ?_⟩
      repeat array_get_dec
      refine op_fdivi (by decide) ?_
      repeat array_get_dec
      refine op_modi (by decide) ?_
      repeat array_get_dec
      refine mt_app hr (by rw [List.length_map]; unfold sizeMax; omega) ?_
      repeat array_get_dec
      exact ⟨by omega, ys ++ [_], _, _, _, _, _, rfl, l.set (Nat.le_refl _) _, (at_set hr).trans (by rw [List.map_append]; rfl), by rw [List.length_append, List.length_singleton]; omega⟩
  case done =>
    rintro σ h2 ⟨hi, ys, seed, c3, c4, c5, c6, rfl, l, hr, hy⟩
    sizeOf_list_dec
    refine ⟨_, rfl, Nat.le_trans (Nat.le_refl _) l.len, l.trans (Le.push _ _), h.length, 0, seed, ys, at_push _ _, ?_, by omega, by omega, Le.push _ _ _ _ hr⟩
    have := (List.getElem?_eq_some_iff.mp hr).1
    omega
end Ev
/-! EvTerm: terms as plain values: text, size, parts; what the terms' functions tell. -/
namespace Ev
open PySem
/-! ### terms as values -/
mutual
/-- a term or an atom: an unknown, or a name with arguments -/
def tm : Val → Bool
  | .str _ => true
  | .tup xs => match xs with
    | .str _ :: as => tms as
    | _ => false
  | _ => false
def tms : List Val → Bool
  | [] => true
  | x :: xs => tm x && tms xs
end
mutual
def txt : Val → Str
  | .str s => s
  | .tup xs => match xs with
    | .str f :: as => if as.isEmpty then f else f ++ (Str.ofString "(") ++ Str.join (Str.ofString ", ") (txts as) ++ (Str.ofString ")")
    | _ => Str.ofString ""
  | _ => Str.ofString ""
def txts : List Val → List Str
  | [] => []
  | x :: xs => txt x :: txts xs
end
mutual
def sz : Val → Nat
  | .tup xs => match xs with
    | _ :: as => 1 + szs as
    | _ => 1
  | _ => 1
def szs : List Val → Nat
  | [] => 0
  | x :: xs => sz x + szs xs
end
mutual
/-- a measure of all that is written -/
def wt : Val → Nat
  | .str s => s.length + 2
  | .tup xs => wts xs + 2
  | _ => 2
def wts : List Val → Nat
  | [] => 0
  | x :: xs => wt x + wts xs
end
mutual
def walk : Val → List Val
  | .tup xs => .tup xs :: (match xs with
    | _ :: as => walks as
    | _ => [])
  | v => [v]
def walks : List Val → List Val
  | [] => []
  | x :: xs => walk x ++ walks xs
end
def isStr : Val → Bool
  | .str _ => true
  | _ => false
@[simp] theorem isStr_str {s : Str} : isStr (.str s) = true := rfl
@[simp] theorem isStr_tup {s : List Val} : isStr (.tup s) = false := rfl
mutual
def filled (kvs : List (Val × Val)) : Val → Val
  | .str s => (lookD kvs (.str s)).getD (.str s)
  | .tup xs => .tup (match xs with
    | f :: as => f :: filleds kvs as
    | _ => [])
  | v => v
def filleds (kvs : List (Val × Val)) : List Val → List Val
  | [] => []
  | x :: xs => filled kvs x :: filleds kvs xs
end
theorem txts_map : ∀ xs : List Val, txts xs = xs.map txt
  | [] => by rw [txts]; rfl
  | x :: xs => by rw [txts, txts_map xs]; rfl
theorem filleds_map (kvs : List (Val × Val)) : ∀ xs : List Val, filleds kvs xs = xs.map (filled kvs)
  | [] => by rw [filleds]; rfl
  | x :: xs => by rw [filleds, filleds_map kvs xs]; rfl
theorem szs_sum : ∀ xs : List Val, szs xs = (xs.map sz).sum
  | [] => by rw [szs]; rfl
  | x :: xs => by rw [szs, szs_sum xs]; rfl
theorem walks_flat : ∀ xs : List Val, walks xs = (xs.map walk).flatten
  | [] => by rw [walks]; rfl
  | x :: xs => by rw [walks, walks_flat xs]; rfl
theorem tms_mem : ∀ {xs : List Val}, tms xs = true → ∀ x ∈ xs, tm x = true
  | [], _, x, hx => by simp at hx
  | y :: ys, h, x, hx => by
    rw [tms, Bool.and_eq_true] at h
    rcases List.mem_cons.mp hx with rfl | hx
    · exact h.1
    · exact tms_mem h.2 x hx
theorem wts_mem : ∀ {xs : List Val} {x : Val}, x ∈ xs → wt x ≤ wts xs
  | [], x, hx => by simp at hx
  | y :: ys, x, hx => by
    rw [wts]
    rcases List.mem_cons.mp hx with rfl | hx
    · omega
    · have := wts_mem hx; omega
theorem wt_two : ∀ t : Val, 2 ≤ wt t
  | .str s => by rw [wt]; omega
  | .tup s => by rw [wt]; omega
  | .non | .bl _ | .int _ | .ref _ => by rw [wt] <;> simp
theorem wts_len : ∀ xs : List Val, 2 * xs.length ≤ wts xs
  | [] => by simp
  | x :: xs => by
    rw [wts, List.length_cons]
    have := wts_len xs
    have := wt_two x
    omega
theorem deps_mem : ∀ {xs : List Val} {x : Val}, x ∈ xs → x.dep ≤ Val.deps xs
  | [], x, hx => by simp at hx
  | y :: ys, x, hx => by
    rw [Val.deps]
    rcases List.mem_cons.mp hx with rfl | hx
    · omega
    · have := deps_mem hx; omega
/-- a term's shape -/
theorem tm_tup {xs : List Val} (h : tm (.tup xs) = true) : ∃ f as, xs = .str f :: as ∧ tms as = true := by
  cases xs with
  | nil => simp [tm] at h
  | cons x as => cases x with
    | str f => exact ⟨f, as, rfl, by simpa [tm] using h⟩
    | _ => simp [tm] at h
theorem tm_cases {t : Val} (h : tm t = true) : (∃ s, t = .str s) ∨ ∃ f as, t = .tup (.str f :: as) ∧ tms as = true := by
  cases t with
  | str s => exact .inl ⟨s, rfl⟩
  | tup xs => obtain ⟨f, as, rfl, h⟩ := tm_tup h; exact .inr ⟨f, as, rfl, h⟩
  | _ => simp [tm] at h
theorem len_app (x y : Str) : (x ++ y).length = x.length + y.length := by
  show (x.cps ++ y.cps).size = _
  rw [Array.size_append]
  rfl
mutual
theorem txt_len : ∀ t : Val, tm t = true → (txt t).length + 2 ≤ wt t
  | .str s, _ => by rw [txt, wt]; exact Nat.le_refl _
  | .tup [], h => by simp [tm] at h
  | .tup (.str f :: as), h => by
    rw [tm] at h
    rw [txt, wt, wts, wt]
    split
    · omega
    · rename_i hne
      have h3 := txts_len as h
      have e1 : (Str.ofString "(").length = 1 := by decide +kernel
      have e2 : (Str.ofString ")").length = 1 := by decide +kernel
      rw [len_app, len_app, len_app, e1, e2]
      have : as ≠ [] := by intro z; subst z; simp at hne
      have := h3.2 this
      omega
  | .tup (.non :: _), h | .tup (.bl _ :: _), h | .tup (.int _ :: _), h | .tup (.tup _ :: _), h | .tup (.ref _ :: _), h => by simp [tm] at h
  | .non, h | .bl _, h | .int _, h | .ref _, h => by simp [tm] at h
theorem txts_len : ∀ ts : List Val, tms ts = true → ((txts ts).map (·.length)).sum + 2 * ts.length ≤ wts ts ∧ (ts ≠ [] → (Str.join (Str.ofString ", ") (txts ts)).length + 2 ≤ wts ts)
  | [], _ => by rw [txts, wts]; exact ⟨Nat.le_refl _, fun h => absurd rfl h⟩
  | x :: xs, h => by
    rw [tms, Bool.and_eq_true] at h
    have h1 := txt_len x h.1
    have h2 := txts_len xs h.2
    rw [txts, wts]
    refine ⟨by rw [List.map_cons, List.sum_cons, List.length_cons]; omega, fun _ => ?_⟩
    cases xs with
    | nil =>
      rw [txts, wts]
      show (txt x).length + 2 ≤ _
      omega
    | cons y ys =>
      have h3 := h2.2 (by simp)
      rw [txts] at h3 ⊢
      have e2 : (Str.ofString ", ").length = 2 := by decide +kernel
      show (txt x ++ Str.ofString ", " ++ Str.join (Str.ofString ", ") (txt y :: txts ys)).length + 2 ≤ _
      rw [len_app, len_app, e2]
      omega
end
theorem cut_tail {α : Type} (x : α) (as : List α) : cut (x :: as) (some 1) none = as := by
  unfold cut bound
  simp
theorem strsOf_map {α : Type} (g : α → Str) : ∀ xs : List α, strsOf (xs.map fun x => .str (g x)) = some (xs.map g)
  | [] => rfl
  | x :: xs => by
    rw [List.map_cons, strsOf, strsOf_map g xs]
    rfl
theorem intsOf_map {α : Type} (g : α → Int) : ∀ xs : List α, intsOf (xs.map fun x => .int (g x)) = some (xs.map g)
  | [] => rfl
  | x :: xs => by
    rw [List.map_cons, intsOf, intsOf_map g xs]
    rfl
theorem sum_cast {α : Type} (g : α → Nat) : ∀ xs : List α, (xs.map fun x => (g x : Int)).sum = ((xs.map g).sum : Nat)
  | [] => rfl
  | x :: xs => by
    rw [List.map_cons, List.sum_cons, sum_cast g xs, List.map_cons, List.sum_cons]
    omega
end Ev
/-! EvSame: _law_same tells that equal things are the same. -/
namespace Ev
open PySem
/-- the same data, at most d deep -/
inductive Sm (h : Hpe) : Nat → Val → Val → Prop
  | non {d : Nat} : Sm h d .non .non
  | bl {d : Nat} (b : Bool) : Sm h d (.bl b) (.bl b)
  | int {d : Nat} (i : Int) : Sm h d (.int i) (.int i)
  | str {d : Nat} (s : Str) : Sm h d (.str s) (.str s)
  | tup {d : Nat} {xs ys : List Val} (hl : xs.length = ys.length) (hz : xs.length ≤ sizeMax) (e : ∀ (i : Nat) (x y : Val), xs[i]? = some x → ys[i]? = some y → Sm h d x y) : Sm h (d + 1) (.tup xs) (.tup ys)
  | lst {d : Nat} {m n : Nat} {xs ys : List Val} (hm : h[m]? = some (.lst xs)) (hn : h[n]? = some (.lst ys)) (hl : xs.length = ys.length) (hz : xs.length ≤ sizeMax) (e : ∀ (i : Nat) (x y : Val), xs[i]? = some x → ys[i]? = some y → Sm h d x y) : Sm h (d + 1) (.ref m) (.ref n)
theorem Sm.le {h h' : Hpe} (l : Le h h') : ∀ {d : Nat} {a b : Val}, Sm h d a b → Sm h' d a b
  | _, _, _, .non => .non
  | _, _, _, .bl b => .bl b
  | _, _, _, .int b => .int b
  | _, _, _, .str b => .str b
  | _, _, _, .tup hl hz e => .tup hl hz fun i x y h1 h2 => (e i x y h1 h2).le l
  | _, _, _, .lst hm hn hl hz e => .lst (l _ _ hm) (l _ _ hn) hl hz fun i x y h1 h2 => (e i x y h1 h2).le l
theorem blsOf_map {α : Type} (g : α → Bool) : ∀ xs : List α, blsOf (xs.map fun x => .bl (g x)) = some (xs.map g)
  | [] => rfl
  | x :: xs => by
    rw [List.map_cons, blsOf, blsOf_map g xs]
    rfl
theorem same_ok {P : Prog} (L : LibP P) : ∀ (d : Nat) {k : Nat} {h : Hpe} {a b : Val}, Sm h d a b → d < k → WP (call P k (Str.ofString "_law_same") [a, b] h) fun v h' => v = .bl true ∧ Le h h' := by
  intro d
  induction d using Nat.strongRecOn with
  | _ d ih =>
  intro k h a b s hk
  obtain ⟨k, rfl⟩ : ∃ j, k = j + 1 := ⟨k - 1, by omega⟩
  refine call_of (σ := [some a, some b, none]) L.law_same rfl rfl ?_
  unfold B__law_same
  cases s with
  | non => sizeOf_list_dec; exact ⟨by simp, .rfl⟩
  | bl b => sizeOf_list_dec; exact ⟨by simp, .rfl⟩
  | int b => sizeOf_list_dec; exact ⟨by simp, .rfl⟩
  | str b => sizeOf_list_dec; exact ⟨by simp, .rfl⟩
  | @tup d xs ys hl hz e =>
    sizeOf_list_dec
    refine ⟨fun h => absurd h (by simp [hl]), fun _ => ?_⟩
    sizeOf_list_dec
    refine wp_lc (List.range xs.length) (fun i => .int (0 + (i : Int))) (fun _ => .bl true) (fun _ => true) ?_
    sizeOf_list_dec
    refine ⟨_, rfl, by unfold sizeMax at hz; omega, by rw [Int.toNat_natCast], by rw [List.length_range]; exact hz, rfl, fun i hi h2 l => ⟨_, rfl, ?_⟩, fun h' l q => ?_⟩
    · have hi : i < xs.length := by simpa using hi
      refine wpt_tt ⟨rfl, .rfl, fun _ => ?_⟩
      sizeOf_list_dec
      refine ix_tup (n := i) (by rw [Int.zero_add]; exact place_nat hi) (List.getElem?_eq_getElem hi) ?_
      sizeOf_list_dec
      refine ix_tup (n := i) (by rw [Int.zero_add]; exact place_nat (by omega)) (List.getElem?_eq_getElem (by omega)) ?_
      sizeOf_list_dec
      exact ih d (Nat.lt_succ_self d) ((e i _ _ (List.getElem?_eq_getElem hi) (List.getElem?_eq_getElem (by omega))).le l) (by omega)
    · refine bi_all (lstAt_lst q) (blsOf_map (fun _ => true) _) ⟨?_, l⟩
      simp
  | @lst d m n xs ys hm hn hl hz e =>
    repeat (first | (with_reducible refine ty_lst hm ?_) | (with_reducible refine ty_lst hn ?_) | (with_reducible refine bi_lenl (lstAt_lst hm) ?_) | (with_reducible refine bi_lenl (lstAt_lst hn) ?_) | array_get_dec | (refine ⟨fun h => absurd h ?_, fun _ => ?_⟩; focus (first | decide | (simp <;> fail))) | (refine ⟨fun _ => ?_, fun h => absurd h ?_⟩; rotate_left 1; focus (first | decide | (simp <;> fail))))
    refine ⟨fun h => absurd h (by simp [hl]), fun _ => ?_⟩
    sizeOf_list_dec
    refine wp_lc (List.range xs.length) (fun i => .int (0 + (i : Int))) (fun _ => .bl true) (fun _ => true) ?_
    sizeOf_list_dec
    refine bi_lenl (lstAt_lst hm) ?_
    refine ⟨_, rfl, by unfold sizeMax at hz; omega, by rw [Int.toNat_natCast], by rw [List.length_range]; exact hz, rfl, fun i hi h2 l => ⟨_, rfl, ?_⟩, fun h' l q => ?_⟩
    · have hi : i < xs.length := by simpa using hi
      refine wpt_tt ⟨rfl, .rfl, fun _ => ?_⟩
      sizeOf_list_dec
      refine ix_lst (lstAt_lst (l _ _ hm)) (n := i) (by rw [Int.zero_add]; exact place_nat hi) (List.getElem?_eq_getElem hi) ?_
      sizeOf_list_dec
      refine ix_lst (lstAt_lst (l _ _ hn)) (n := i) (by rw [Int.zero_add]; exact place_nat (by omega)) (List.getElem?_eq_getElem (by omega)) ?_
      sizeOf_list_dec
      exact ih d (Nat.lt_succ_self d) ((e i _ _ (List.getElem?_eq_getElem hi) (List.getElem?_eq_getElem (by omega))).le l) (by omega)
    · refine bi_all (lstAt_lst q) (blsOf_map (fun _ => true) _) ⟨?_, l⟩
      simp
end Ev
/-! EvTermOk: what the program's functions on terms tell. -/
namespace Ev
open PySem
/-- is_unknown(term): term -/
def B_is_unknown : Ss := .cons (.ret (.isi (.var 0) .str)) .nil
/-- term_text(term): term, inner, argument -/
def B_term_text : Ss := .cons (.ifs (.val (.call "is_unknown" (.cons (.var 0) .nil))) (.cons (.ret (.var 0)) .nil) (.nil)) (.cons (.ifs (.cmp .eq (.blt .len (.var 0)) (.con (.int 1))) (.cons (.ret (.ix (.var 0) (.con (.int 0)))) .nil) (.nil)) (.cons (.set 1 (.mth .join (.con (.str ", ")) (.cons (.lc (.call "term_text" (.cons (.var 2) .nil)) (.nm 2) (.seq (.sl (.var 0) (.yes (.con (.int 1))) .no)) .tt [2]) .nil))) (.cons (.ret (.bin .add (.bin .add (.bin .add (.ix (.var 0) (.con (.int 0))) (.con (.str "("))) (.var 1)) (.con (.str ")")))) .nil)))
/-- term_size(term): term, argument -/
def B_term_size : Ss := .cons (.ifs (.val (.call "is_unknown" (.cons (.var 0) .nil))) (.cons (.ret (.con (.int 1))) .nil) (.nil)) (.cons (.ret (.bin .add (.con (.int 1)) (.blt .sum (.lc (.call "term_size" (.cons (.var 1) .nil)) (.nm 1) (.seq (.sl (.var 0) (.yes (.con (.int 1))) .no)) .tt [1])))) .nil)
/-- all_parts(term): term, found, argument -/
def B_all_parts : Ss := .cons (.set 1 (.lst (.cons (.var 0) .nil))) (.cons (.ifs (.not (.val (.call "is_unknown" (.cons (.var 0) .nil)))) (.cons (.fors (.nm 2) (.seq (.sl (.var 0) (.yes (.con (.int 1))) .no)) (.cons (.expr (.mth .extend (.var 1) (.cons (.call "all_parts" (.cons (.var 2) .nil)) .nil))) .nil)) .nil) (.nil)) (.cons (.ret (.var 1)) .nil))
/-- parts_of(term): term, found, part -/
def B_parts_of : Ss := .cons (.set 1 (.lst (.nil))) (.cons (.fors (.nm 2) (.seq (.call "all_parts" (.cons (.var 0) .nil))) (.cons (.ifs (.cmp .nin (.var 2) (.var 1)) (.cons (.expr (.mth .append (.var 1) (.cons (.var 2) .nil))) .nil) (.nil)) .nil)) (.cons (.ret (.var 1)) .nil))
/-- unknowns_of(term): term, part -/
def B_unknowns_of : Ss := .cons (.ret (.lc (.var 1) (.nm 1) (.seq (.call "parts_of" (.cons (.var 0) .nil))) (.val (.call "is_unknown" (.cons (.var 1) .nil))) [1])) .nil
/-- fill_term(term, filling): term, filling, argument -/
def B_fill_term : Ss := .cons (.ifs (.val (.call "is_unknown" (.cons (.var 0) .nil))) (.cons (.ret (.mth .get (.var 1) (.cons (.var 0) (.cons (.var 0) .nil)))) .nil) (.nil)) (.cons (.ret (.bin .add (.tup (.cons (.ix (.var 0) (.con (.int 0))) .nil)) (.blt .tuple (.lc (.call "fill_term" (.cons (.var 2) (.cons (.var 1) .nil))) (.nm 2) (.seq (.sl (.var 0) (.yes (.con (.int 1))) .no)) .tt [2])))) .nil)
/-- term_key(term): term -/
def B_term_key : Ss := .cons (.ret (.tup (.cons (.call "term_size" (.cons (.var 0) .nil)) (.cons (.call "term_text" (.cons (.var 0) .nil)) .nil)))) .nil
/-- sorted_terms(terms): terms, table, term, text -/
def B_sorted_terms : Ss := .cons (.set 1 (.dc (.call "term_text" (.cons (.var 2) .nil)) (.var 2) (.nm 2) (.seq (.var 0)) .tt [2])) (.cons (.ret (.srt (.lock 1 (.lc (.ix (.var 1) (.var 3)) (.nm 3) (.dky (.var 1)) .tt [3])) "term_key")) .nil)
/-- the program has these defs -/
structure Term0 (P : Prog) : Prop where
  is_unknown : P.fn (Str.ofString "is_unknown") = some ⟨1, 1, B_is_unknown⟩
  term_text : P.fn (Str.ofString "term_text") = some ⟨1, 3, B_term_text⟩
  term_size : P.fn (Str.ofString "term_size") = some ⟨1, 2, B_term_size⟩
  term_key : P.fn (Str.ofString "term_key") = some ⟨1, 1, B_term_key⟩
structure TermP (P : Prog) : Prop extends Term0 P where
  all_parts : P.fn (Str.ofString "all_parts") = some ⟨1, 3, B_all_parts⟩
  parts_of : P.fn (Str.ofString "parts_of") = some ⟨1, 3, B_parts_of⟩
  unknowns_of : P.fn (Str.ofString "unknowns_of") = some ⟨1, 2, B_unknowns_of⟩
  fill_term : P.fn (Str.ofString "fill_term") = some ⟨2, 3, B_fill_term⟩
  sorted_terms : P.fn (Str.ofString "sorted_terms") = some ⟨1, 4, B_sorted_terms⟩
section
variable {P : Prog} (T : Term0 P)
include T
theorem unk_ok {k : Nat} {t : Val} {h : Hpe} (ht : tm t = true) (hk : 1 ≤ k) : WP (call P k (Str.ofString "is_unknown") [t] h) fun v h' => v = .bl (isStr t) ∧ h' = h := by
  obtain ⟨k, rfl⟩ : ∃ j, k = j + 1 := ⟨k - 1, by omega⟩
  refine call_of (σ := [some t]) T.is_unknown rfl rfl ?_
  unfold B_is_unknown
  rcases tm_cases ht with ⟨s, rfl⟩ | ⟨f, as, rfl, ha⟩
  · sizeOf_list_dec; exact ⟨rfl, rfl⟩
  · sizeOf_list_dec; exact ⟨rfl, rfl⟩
theorem text_ok : ∀ (d : Nat) {t : Val}, t.dep ≤ d → tm t = true → wt t ≤ sizeMax → ∀ {k : Nat} {h : Hpe}, d + 2 ≤ k → WP (call P k (Str.ofString "term_text") [t] h) fun v h' => v = .str (txt t) ∧ Le h h' := by
  intro d
  induction d with
  | zero =>
    intro t hd ht hw k h hk
    obtain ⟨k, rfl⟩ : ∃ j, k = j + 1 := ⟨k - 1, by omega⟩
    refine call_of (σ := [some t, none, none]) T.term_text rfl rfl ?_
    unfold B_term_text
    rcases tm_cases ht with ⟨s, rfl⟩ | ⟨f, as, rfl, ha⟩
    · sizeOf_list_dec
      refine (unk_ok T ht (by omega)).mono ?_
      rintro _ _ ⟨rfl, rfl⟩
      sizeOf_list_dec
      exact ⟨by rw [txt], .rfl⟩
    · rw [Val.dep] at hd; omega
  | succ d ih =>
    intro t hd ht hw k h hk
    obtain ⟨k, rfl⟩ : ∃ j, k = j + 1 := ⟨k - 1, by omega⟩
    refine call_of (σ := [some t, none, none]) T.term_text rfl rfl ?_
    unfold B_term_text
    rcases tm_cases ht with ⟨s, rfl⟩ | ⟨f, as, rfl, ha⟩
    · sizeOf_list_dec
      refine (unk_ok T ht (by omega)).mono ?_
      rintro _ _ ⟨rfl, rfl⟩
      sizeOf_list_dec
      exact ⟨by rw [txt], .rfl⟩
    · have hl := txt_len _ ht
      sizeOf_list_dec
      refine (unk_ok T ht (by omega)).mono ?_
      rintro _ _ ⟨rfl, rfl⟩
      sizeOf_list_dec
      cases as with
      | nil =>
        sizeOf_list_dec
        refine ix_tup0 ⟨?_, .rfl⟩
        simp [txt]
      | cons a as =>
        refine ⟨fun h => absurd h (by simp; omega), fun _ => ?_⟩
        sizeOf_list_dec
        refine ⟨rfl, ?_⟩
        sizeOf_list_dec
        rw [Val.dep, Val.deps] at hd
        rw [wt, wts] at hw
        refine wp_map (a :: as) id (fun x => .str (txt x)) ?_
        sizeOf_list_dec
        refine ⟨1, rfl, ?_⟩
        sizeOf_list_dec
        have hws := wts_len (a :: as)
        refine .inl ⟨_, rfl, by rw [cut_tail, List.map_id], by omega, rfl, fun x hx h2 l => ⟨_, rfl, ?_⟩, fun h' l q => ?_⟩
        · sizeOf_list_dec
          have h1 := deps_mem hx
          have h2 := wts_mem hx
          exact ih (by show x.dep ≤ d; omega) (tms_mem ha x hx) (by omega) (by omega)
        · have htl := txts_len (a :: as) ha
          sizeOf_list_dec
          refine mt_join (lstAt_lst q) (strsOf_map txt _) ?_ ?_
          · rw [← txts_map]
            have e2 : (Str.ofString ", ").length = 2 := by decide +kernel
            have e3 : (txts (a :: as)).length = (a :: as).length := by rw [txts_map, List.length_map]
            rw [e2, e3]
            omega
          · sizeOf_list_dec
            refine ix_tup0 ?_
            rw [txt] at hl
            have hne : (a :: as).isEmpty = false := rfl
            rw [hne] at hl
            simp only [Bool.false_eq_true, if_false, len_app] at hl
            rw [wt, wts] at hl
            rw [← txts_map]
            sizeOf_list_dec
            refine op_cats (by omega) ?_
            sizeOf_list_dec
            refine op_cats (by rw [len_app]; omega) ?_
            sizeOf_list_dec
            refine op_cats (by rw [len_app, len_app]; omega) ⟨?_, l⟩
            simp only [txt, hne, Bool.false_eq_true, if_false, txts_map]
theorem size_ok : ∀ (d : Nat) {t : Val}, t.dep ≤ d → tm t = true → wt t ≤ sizeMax → ∀ {k : Nat} {h : Hpe}, d + 2 ≤ k → WP (call P k (Str.ofString "term_size") [t] h) fun v h' => v = .int (sz t) ∧ Le h h' := by
  intro d
  induction d with
  | zero =>
    intro t hd ht hw k h hk
    obtain ⟨k, rfl⟩ : ∃ j, k = j + 1 := ⟨k - 1, by omega⟩
    refine call_of (σ := [some t, none]) T.term_size rfl rfl ?_
    unfold B_term_size
    rcases tm_cases ht with ⟨s, rfl⟩ | ⟨f, as, rfl, ha⟩
    · sizeOf_list_dec
      refine (unk_ok T ht (by omega)).mono ?_
      rintro _ _ ⟨rfl, rfl⟩
      sizeOf_list_dec
      exact ⟨by simp [sz], .rfl⟩
    · rw [Val.dep] at hd; omega
  | succ d ih =>
    intro t hd ht hw k h hk
    obtain ⟨k, rfl⟩ : ∃ j, k = j + 1 := ⟨k - 1, by omega⟩
    refine call_of (σ := [some t, none]) T.term_size rfl rfl ?_
    unfold B_term_size
    rcases tm_cases ht with ⟨s, rfl⟩ | ⟨f, as, rfl, ha⟩
    · sizeOf_list_dec
      refine (unk_ok T ht (by omega)).mono ?_
      rintro _ _ ⟨rfl, rfl⟩
      sizeOf_list_dec
      exact ⟨by simp [sz], .rfl⟩
    · sizeOf_list_dec
      refine (unk_ok T ht (by omega)).mono ?_
      rintro _ _ ⟨rfl, rfl⟩
      sizeOf_list_dec
      rw [Val.dep, Val.deps] at hd
      rw [wt, wts] at hw
      refine wp_map as id (fun x => .int (sz x)) ?_
      sizeOf_list_dec
      refine ⟨1, rfl, ?_⟩
      sizeOf_list_dec
      have hws := wts_len as
      refine .inl ⟨_, rfl, by rw [cut_tail, List.map_id], by omega, rfl, fun x hx h2 l => ⟨_, rfl, ?_⟩, fun h' l q => ?_⟩
      · sizeOf_list_dec
        have h1 := deps_mem hx
        have h2 := wts_mem hx
        exact ih (by show x.dep ≤ d; omega) (tms_mem ha x hx) (by omega) (by omega)
      · refine bi_sum (lstAt_lst q) (intsOf_map (fun x => (sz x : Int)) _) ?_
        sizeOf_list_dec
        refine ⟨?_, l⟩
        rw [sz, sum_cast, ← szs_sum]
        congr 1
end
end Ev
/-! EvPart: parts of terms, lists without repeats. -/
namespace Ev
open PySem
/-- a list without repeats, first ones kept -/
def addO (acc : List Val) (x : Val) : List Val := if x ∈ acc then acc else acc ++ [x]
def once (xs : List Val) : List Val := xs.foldl addO []
theorem addO_nodup {acc : List Val} (h : acc.Nodup) (x : Val) : (addO acc x).Nodup := by
  unfold addO
  split
  · exact h
  · rename_i hx
    rw [List.nodup_append]
    exact ⟨h, by simp, fun a ha b hb => by rw [List.mem_singleton.mp hb]; exact fun e => hx (e ▸ ha)⟩
theorem addO_mem {acc : List Val} {x y : Val} : y ∈ addO acc x ↔ y ∈ acc ∨ y = x := by
  unfold addO
  split
  · rename_i hx
    exact ⟨.inl, fun h => h.elim id fun e => e ▸ hx⟩
  · rw [List.mem_append, List.mem_singleton]
theorem addO_len (acc : List Val) (x : Val) : (addO acc x).length ≤ acc.length + 1 := by
  unfold addO
  split
  · omega
  · rw [List.length_append]; exact Nat.le_refl _
theorem foldl_addO_nodup : ∀ (xs : List Val) {acc : List Val}, acc.Nodup → (xs.foldl addO acc).Nodup
  | [], _, h => h
  | x :: xs, _, h => foldl_addO_nodup xs (addO_nodup h x)
theorem foldl_addO_mem : ∀ (xs : List Val) {acc : List Val} {y : Val}, y ∈ xs.foldl addO acc ↔ y ∈ acc ∨ y ∈ xs
  | [], acc, y => by simp
  | x :: xs, acc, y => by
    rw [List.foldl_cons, foldl_addO_mem xs, addO_mem, List.mem_cons, or_assoc]
theorem once_nodup (xs : List Val) : (once xs).Nodup := foldl_addO_nodup xs List.nodup_nil
theorem once_mem {xs : List Val} {y : Val} : y ∈ once xs ↔ y ∈ xs := by
  unfold once
  rw [foldl_addO_mem]
  simp
theorem once_take (xs : List Val) (i : Nat) {x : Val} (h : xs[i]? = some x) : once (xs.take (i + 1)) = addO (once (xs.take i)) x := by
  unfold once
  rw [List.take_add_one, h, List.foldl_append]
  rfl
theorem foldl_addO_len : ∀ (xs acc : List Val), (xs.foldl addO acc).length ≤ acc.length + xs.length
  | [], acc => by simp
  | x :: xs, acc => by
    have := foldl_addO_len xs (addO acc x)
    have := addO_len acc x
    rw [List.foldl_cons, List.length_cons]
    omega
theorem once_len (xs : List Val) : (once xs).length ≤ xs.length := by
  have := foldl_addO_len xs []
  simpa [once] using this
mutual
theorem eqv_flat : ∀ (a b : Val), tm a = true → tm b = true → a.eqv b = decide (a = b)
  | .str x, .str y, _, _ => by
    rw [Val.eqv]
    by_cases h : x = y
    · subst h; simp
    · have : Val.str x ≠ Val.str y := fun e => h (Val.str.inj e)
      simp [h]
  | .str x, .tup ys, _, _ => by simp [Val.eqv]
  | .tup xs, .str y, _, _ => by simp [Val.eqv]
  | .tup [], _, h, _ => by simp [tm] at h
  | .tup (.str f :: as), .tup [], _, h => by simp [tm] at h
  | .tup (.str f :: as), .tup (.str g :: bs), h1, h2 => by
    rw [tm] at h1 h2
    have := eqvs_flat as bs h1 h2
    simp only [Val.eqv, Val.eqvs, this]
    by_cases hf : f = g
    · subst hf
      by_cases ha : as = bs
      · subst ha; simp
      · simp [ha]
    · simp [hf]
  | .tup (.str f :: as), .tup (.non :: _), _, h | .tup (.str f :: as), .tup (.bl _ :: _), _, h | .tup (.str f :: as), .tup (.int _ :: _), _, h | .tup (.str f :: as), .tup (.tup _ :: _), _, h | .tup (.str f :: as), .tup (.ref _ :: _), _, h => by simp [tm] at h
  | .tup (.non :: _), _, h, _ | .tup (.bl _ :: _), _, h, _ | .tup (.int _ :: _), _, h, _ | .tup (.tup _ :: _), _, h, _ | .tup (.ref _ :: _), _, h, _ => by simp [tm] at h
  | .non, _, h, _ | .bl _, _, h, _ | .int _, _, h, _ | .ref _, _, h, _ => by simp [tm] at h
  | .str _, .non, _, h | .str _, .bl _, _, h | .str _, .int _, _, h | .str _, .ref _, _, h => by simp [tm] at h
  | .tup (.str _ :: _), .non, _, h | .tup (.str _ :: _), .bl _, _, h | .tup (.str _ :: _), .int _, _, h | .tup (.str _ :: _), .ref _, _, h => by simp [tm] at h
theorem eqvs_flat : ∀ (a b : List Val), tms a = true → tms b = true → Val.eqvs a b = decide (a = b)
  | [], [], _, _ => by simp [Val.eqvs]
  | [], _ :: _, _, _ => by simp [Val.eqvs]
  | _ :: _, [], _, _ => by simp [Val.eqvs]
  | x :: xs, y :: ys, h1, h2 => by
    rw [tms, Bool.and_eq_true] at h1 h2
    rw [Val.eqvs, eqv_flat x y h1.1 h2.1, eqvs_flat xs ys h1.2 h2.2]
    by_cases hx : x = y
    · subst hx
      by_cases ha : xs = ys
      · subst ha; simp
      · simp [ha]
    · simp [hx]
end
mutual
theorem tm_flat : ∀ a : Val, tm a = true → a.flat = true
  | .str _, _ => by rw [Val.flat] <;> simp
  | .tup [], h => by simp [tm] at h
  | .tup (.str f :: as), h => by
    rw [tm] at h
    simp [Val.flat, Val.flats, tms_flat as h]
  | .tup (.non :: _), h | .tup (.bl _ :: _), h | .tup (.int _ :: _), h | .tup (.tup _ :: _), h | .tup (.ref _ :: _), h => by simp [tm] at h
  | .non, h | .bl _, h | .int _, h | .ref _, h => by simp [tm] at h
theorem tms_flat : ∀ a : List Val, tms a = true → Val.flats a = true
  | [], _ => rfl
  | x :: xs, h => by
    rw [tms, Bool.and_eq_true] at h
    rw [Val.flats, tm_flat x h.1, tms_flat xs h.2]
    rfl
end
theorem any_mem {x : Val} (hx : tm x = true) : ∀ {ys : List Val}, (∀ y ∈ ys, tm y = true) → (ys.any fun z => z.eqv x) = decide (x ∈ ys)
  | [], _ => by simp
  | y :: ys, h => by
    rw [List.any_cons, any_mem hx fun z hz => h z (List.mem_cons_of_mem _ hz), eqv_flat y x (h y List.mem_cons_self) hx]
    by_cases e : x = y
    · subst e; simp
    · have : y ≠ x := fun z => e z.symm
      simp [e, this]
theorem canEq_tm {x y : Val} (hx : tm x = true) (hy : tm y = true) (hd : x.dep ≤ 100) : canEq x y = true := by
  unfold canEq
  rw [tm_flat x hx, tm_flat y hy]
  have : min x.dep y.dep ≤ 100 := by omega
  simp [this]
/-! ### parts -/
/-- what a part of a term keeps -/
structure Part (D W : Nat) (t : Val) : Prop where
  tm : tm t = true
  dep : t.dep ≤ D
  wt : wt t ≤ W
mutual
theorem walk_part : ∀ (t : Val) {D W : Nat}, Part D W t → ∀ x ∈ walk t, Part D W x
  | .str s, _, _, h, x, hx => by simp [walk] at hx; rw [hx]; exact h
  | .tup [], _, _, h, _, _ => by have := h.tm; simp [tm] at this
  | .tup (.str f :: as), D, W, h, x, hx => by
    rw [walk] at hx
    rcases List.mem_cons.mp hx with rfl | hx
    · exact h
    · have h1 := h.tm
      have h2 := h.dep
      have h3 := h.wt
      rw [tm] at h1
      rw [Val.dep, Val.deps] at h2
      rw [wt, wts] at h3
      exact walks_part as h1 (by omega) (by omega) x hx
  | .tup (.non :: _), _, _, h, _, _ | .tup (.bl _ :: _), _, _, h, _, _ | .tup (.int _ :: _), _, _, h, _, _ | .tup (.tup _ :: _), _, _, h, _, _ | .tup (.ref _ :: _), _, _, h, _, _ => by have := h.tm; simp [tm] at this
  | .non, _, _, h, _, _ | .bl _, _, _, h, _, _ | .int _, _, _, h, _, _ | .ref _, _, _, h, _, _ => by have := h.tm; simp [tm] at this
theorem walks_part : ∀ (ts : List Val) {D W : Nat}, tms ts = true → Val.deps ts ≤ D → wts ts ≤ W → ∀ x ∈ walks ts, Part D W x
  | [], _, _, _, _, _, x, hx => by rw [walks] at hx; simp at hx
  | t :: ts, D, W, h1, h2, h3, x, hx => by
    rw [tms, Bool.and_eq_true] at h1
    rw [Val.deps] at h2
    rw [wts] at h3
    rw [walks] at hx
    rcases List.mem_append.mp hx with hx | hx
    · exact walk_part t ⟨h1.1, by omega, by omega⟩ x hx
    · exact walks_part ts h1.2 (by omega) (by omega) x hx
end
mutual
theorem walk_len : ∀ t : Val, 2 * (walk t).length ≤ wt t
  | .str s => by rw [walk, wt] <;> simp
  | .tup [] => by simp [walk, wt]
  | .tup (f :: as) => by
    have := walks_len as
    rw [walk, wt, wts]
    simp only [List.length_cons]
    omega
  | .non | .bl _ | .int _ | .ref _ => by rw [walk, wt] <;> simp
theorem walks_len : ∀ ts : List Val, 2 * (walks ts).length ≤ wts ts
  | [] => by rw [walks, wts]; simp
  | t :: ts => by
    have h1 := walk_len t
    have h2 := walks_len ts
    rw [walks, wts, List.length_append]
    omega
end
theorem walks_take (as : List Val) (i : Nat) {x : Val} (h : as[i]? = some x) : walks (as.take (i + 1)) = walks (as.take i) ++ walk x := by
  rw [walks_flat, walks_flat, List.take_add_one, h, List.map_append, List.flatten_append]
  simp
theorem wts_take : ∀ (as : List Val) (i : Nat), wts (as.take i) ≤ wts as
  | [], i => by simp
  | a :: as, 0 => by simp [wts]
  | a :: as, i + 1 => by
    rw [List.take_succ_cons, wts, wts]
    have := wts_take as i
    omega
end Ev
/-! EvPartOk: all_parts, parts_of, unknowns_of, fill_term, term_key. -/
namespace Ev
open PySem
section
variable {P : Prog} (T : TermP P)
include T
theorem all_parts_ok : ∀ (d : Nat) {t : Val}, t.dep ≤ d → tm t = true → wt t ≤ sizeMax → ∀ {k : Nat} {h : Hpe}, d + 2 ≤ k → WP (call P k (Str.ofString "all_parts") [t] h) fun v h' => ∃ n, v = .ref n ∧ h.length ≤ n ∧ Le h h' ∧ h'[n]? = some (.lst (walk t)) := by
  intro d
  induction d with
  | zero =>
    intro t hd ht hw k h hk
    obtain ⟨k, rfl⟩ : ∃ j, k = j + 1 := ⟨k - 1, by omega⟩
    refine call_of (σ := [some t, none, none]) T.all_parts rfl rfl ?_
    unfold B_all_parts
    rcases tm_cases ht with ⟨s, rfl⟩ | ⟨f, as, rfl, ha⟩
    · sizeOf_list_dec
      sizeOf_list_dec
      refine (unk_ok T.toTerm0 ht (by omega)).mono ?_
      rintro _ _ ⟨rfl, rfl⟩
      sizeOf_list_dec
      exact ⟨_, rfl, Nat.le_refl _, Le.push _ _, by simp [walk]⟩
    · rw [Val.dep] at hd; omega
  | succ d ih =>
    intro t hd ht hw k h hk
    obtain ⟨k, rfl⟩ : ∃ j, k = j + 1 := ⟨k - 1, by omega⟩
    refine call_of (σ := [some t, none, none]) T.all_parts rfl rfl ?_
    unfold B_all_parts
    rcases tm_cases ht with ⟨s, rfl⟩ | ⟨f, as, rfl, ha⟩
    · sizeOf_list_dec
      sizeOf_list_dec
      refine (unk_ok T.toTerm0 ht (by omega)).mono ?_
      rintro _ _ ⟨rfl, rfl⟩
      sizeOf_list_dec
      exact ⟨_, rfl, Nat.le_refl _, Le.push _ _, by simp [walk]⟩
    · sizeOf_list_dec
      sizeOf_list_dec
      refine (unk_ok T.toTerm0 ht (by omega)).mono ?_
      rintro _ _ ⟨rfl, rfl⟩
      sizeOf_list_dec
      refine ⟨1, rfl, ?_⟩
      sizeOf_list_dec
      refine .inl ⟨_, rfl, ?_⟩
      rw [cut_tail]
      rw [Val.dep, Val.deps] at hd
      have hw' := hw
      rw [wt, wts] at hw'
      refine forL_rule (fun i σ h2 => i ≤ as.length ∧ ∃ c2, σ = [some (.tup (.str f :: as)), some (.ref h.length), c2] ∧ Le h h2 ∧ h2[h.length]? = some (.lst (.tup (.str f :: as) :: walks (as.take i)))) as 0
        ⟨Nat.zero_le _, none, rfl, Le.push _ _, by simp [walks]⟩ (fun _ _ _ _ => rfl) ?_ ?_
      · rintro i x σ h2 hx ⟨hi, c2, rfl, l, hr⟩
        rw [Nat.zero_add] at hr ⊢
        have hxm := List.mem_of_getElem? hx
        have hlt := (List.getElem?_eq_some_iff.mp hx).1
        refine ⟨_, rfl, ?_⟩
        sizeOf_list_dec
        refine ⟨rc_lst (by decide) (by decide) hr, ?_⟩
        sizeOf_list_dec
        have h1 := deps_mem hxm
        have h2' := wts_mem hxm
        refine (ih (by omega) (tms_mem ha x hxm) (by omega) (by omega)).mono ?_
        rintro _ h3 ⟨n, rfl, hn, l3, e3⟩
        sizeOf_list_dec
        have hr3 := l3 _ _ hr
        refine mt_ext hr3 e3 ?_ ?_
        · have h4 := walk_len x
          have h5 := walks_len (as.take i)
          have h6 : wts (as.take i) + wt x ≤ wts as := by
            have e : wts (as.take (i + 1)) ≤ wts as := wts_take as (i + 1)
            have e2 : as.take (i + 1) = as.take i ++ [x] := by rw [List.take_add_one, hx]; rfl
            have e3 : ∀ (u : List Val), wts (u ++ [x]) = wts u + wt x := by
              intro u
              induction u with
              | nil => simp [wts]
              | cons y ys ih => rw [List.cons_append, wts, ih, wts]; omega
            rw [e2, e3] at e
            exact e
          rw [List.length_cons]
          omega
        · sizeOf_list_dec
          refine ⟨by omega, _, rfl, (l.trans l3).set (Nat.le_refl _) _, ?_⟩
          rw [at_set hr3, walks_take as i hx]
          rfl
      · rintro σ h2 ⟨hi, c2, rfl, l, hr⟩
        sizeOf_list_dec
        refine ⟨_, rfl, Nat.le_refl _, l, ?_⟩
        rw [hr, Nat.zero_add, List.take_length, walk]
theorem parts_of_ok {t : Val} {D : Nat} (hp : Part D sizeMax t) (hD : D ≤ 100) {k : Nat} {h : Hpe} (hk : D + 3 ≤ k) : WP (call P k (Str.ofString "parts_of") [t] h) fun v h' => ∃ n, v = .ref n ∧ h.length ≤ n ∧ Le h h' ∧ h'[n]? = some (.lst (once (walk t))) := by
  obtain ⟨k, rfl⟩ : ∃ j, k = j + 1 := ⟨k - 1, by omega⟩
  refine call_of (σ := [some t, none, none]) T.parts_of rfl rfl ?_
  unfold B_parts_of
  sizeOf_list_dec
  sizeOf_list_dec
  refine (all_parts_ok T D hp.dep hp.tm hp.wt (by omega)).mono ?_
  rintro _ h1 ⟨m, rfl, hm, l1, e1⟩
  refine .inr ⟨m, _, rfl, lstAt_lst e1, ?_⟩
  rw [List.length_append, List.length_singleton] at hm
  have hwl := walk_len t
  refine forL_rule (fun i σ h2 => i ≤ (walk t).length ∧ ∃ c2, σ = [some t, some (.ref h.length), c2] ∧ Le h h2 ∧ h2[h.length]? = some (.lst (once ((walk t).take i))) ∧ h2[m]? = some (.lst (walk t))) (walk t) 0
    ⟨Nat.zero_le _, none, rfl, (Le.push _ _).trans l1, l1 _ _ (at_push _ _), e1⟩ (fun i σ h2 ⟨_, c2, _, _, _, e⟩ => decide_eq_true (lstAt_lst e)) ?_ ?_
  · rintro i x σ h2 hx ⟨hi, c2, rfl, l, hr, em⟩
    rw [Nat.zero_add] at hr hi ⊢
    have hxm := List.mem_of_getElem? hx
    have hlt := (List.getElem?_eq_some_iff.mp hx).1
    have hpx := walk_part t hp x hxm
    refine ⟨_, rfl, ?_⟩
    have all : ∀ y ∈ once ((walk t).take i), Part D sizeMax y := fun y hy => walk_part t hp y (List.mem_of_mem_take (once_mem.mp hy))
    sizeOf_list_dec
    refine inside_lst hr (fun y hy => canEq_tm hpx.tm (all y hy).tm (by have := hpx.dep; omega)) ?_
    rw [any_mem hpx.tm fun y hy => (all y hy).tm]
    have hol := once_len ((walk t).take i)
    rw [List.length_take] at hol
    have hot := once_take (walk t) i hx
    unfold addO at hot
    refine ⟨fun hc => ?_, fun hc => ?_⟩
    · have hc : x ∉ once ((walk t).take i) := by simpa using hc
      rw [if_neg hc] at hot
      sizeOf_list_dec
      refine ⟨rc_lst (by decide) (by decide) hr, ?_⟩
      sizeOf_list_dec
      have hpw := hp.wt
      refine mt_app hr (by omega) ?_
      sizeOf_list_dec
      refine ⟨by omega, _, rfl, l.set (Nat.le_refl _) _, by rw [at_set hr, hot], at_set_ne (by omega) em⟩
    · have hc : x ∈ once ((walk t).take i) := by simpa using hc
      rw [if_pos hc] at hot
      sizeOf_list_dec
      exact ⟨by omega, _, rfl, l, by rw [hr, hot], em⟩
  · rintro σ h2 ⟨hi, c2, rfl, l, hr, em⟩
    sizeOf_list_dec
    refine ⟨_, rfl, Nat.le_refl _, l, ?_⟩
    rw [hr, Nat.zero_add, List.take_length]
theorem unknowns_of_ok {t : Val} {D : Nat} (hp : Part D sizeMax t) (hD : D ≤ 100) {k : Nat} {h : Hpe} (hk : D + 4 ≤ k) : WP (call P k (Str.ofString "unknowns_of") [t] h) fun v h' => ∃ n, v = .ref n ∧ h.length ≤ n ∧ Le h h' ∧ h'[n]? = some (.lst ((once (walk t)).filter isStr)) := by
  obtain ⟨k, rfl⟩ : ∃ j, k = j + 1 := ⟨k - 1, by omega⟩
  refine call_of (σ := [some t, none]) T.unknowns_of rfl rfl ?_
  unfold B_unknowns_of
  sizeOf_list_dec
  refine wp_lc (once (walk t)) id id isStr ?_
  sizeOf_list_dec
  refine (parts_of_ok T hp hD (by omega)).mono ?_
  rintro _ h1 ⟨m, rfl, hm, l1, e1⟩
  have hol := once_len (walk t)
  have hwl := walk_len t
  have hpw := hp.wt
  refine .inr ⟨m, _, rfl, lstAt_lst e1, by rw [List.map_id], by omega, decide_eq_true (lstAt_lst e1), fun x hx h2 l => ⟨_, rfl, ?_⟩, fun h' l q => ?_⟩
  · have hpx := walk_part t hp x (once_mem.mp hx)
    sizeOf_list_dec
    refine (unk_ok T.toTerm0 hpx.tm (by omega)).mono ?_
    rintro _ _ ⟨rfl, rfl⟩
    sizeOf_list_dec
    refine ⟨rfl, .rfl, fun _ => ?_⟩
    sizeOf_list_dec
    exact ⟨rfl, .rfl⟩
  · exact ⟨_, rfl, l1.len, l1.trans l, by rw [q, List.map_id]⟩
theorem fill_ok {n : Nat} {kvs : List (Val × Val)} : ∀ (d : Nat) {t : Val}, t.dep ≤ d → tm t = true → wt t ≤ sizeMax → ∀ {k : Nat} {h : Hpe}, h[n]? = some (.dic kvs) → d + 2 ≤ k → WP (call P k (Str.ofString "fill_term") [t, .ref n] h) fun v h' => v = filled kvs t ∧ Le h h' := by
  intro d
  induction d with
  | zero =>
    intro t hd ht hw k h hh hk
    obtain ⟨k, rfl⟩ : ∃ j, k = j + 1 := ⟨k - 1, by omega⟩
    refine call_of (σ := [some t, some (.ref n), none]) T.fill_term rfl rfl ?_
    unfold B_fill_term
    have hdd : dicAt h n = some kvs := by simp only [dicAt, hh]
    rcases tm_cases ht with ⟨s, rfl⟩ | ⟨f, as, rfl, ha⟩
    · sizeOf_list_dec
      refine (unk_ok T.toTerm0 ht (by omega)).mono ?_
      rintro _ _ ⟨rfl, rfl⟩
      sizeOf_list_dec
      refine ⟨rc_get hdd, ?_⟩
      sizeOf_list_dec
      exact mt_get hdd ⟨by rw [filled], .rfl⟩
    · rw [Val.dep] at hd; omega
  | succ d ih =>
    intro t hd ht hw k h hh hk
    obtain ⟨k, rfl⟩ : ∃ j, k = j + 1 := ⟨k - 1, by omega⟩
    refine call_of (σ := [some t, some (.ref n), none]) T.fill_term rfl rfl ?_
    unfold B_fill_term
    have hdd : dicAt h n = some kvs := by simp only [dicAt, hh]
    rcases tm_cases ht with ⟨s, rfl⟩ | ⟨f, as, rfl, ha⟩
    · sizeOf_list_dec
      refine (unk_ok T.toTerm0 ht (by omega)).mono ?_
      rintro _ _ ⟨rfl, rfl⟩
      sizeOf_list_dec
      refine ⟨rc_get hdd, ?_⟩
      sizeOf_list_dec
      exact mt_get hdd ⟨by rw [filled], .rfl⟩
    · sizeOf_list_dec
      refine (unk_ok T.toTerm0 ht (by omega)).mono ?_
      rintro _ _ ⟨rfl, rfl⟩
      sizeOf_list_dec
      refine ix_tup0 ?_
      sizeOf_list_dec
      sizeOf_list_dec
      rw [Val.dep, Val.deps] at hd
      rw [wt, wts] at hw
      have hws := wts_len as
      refine wp_map as id (filled kvs) ?_
      sizeOf_list_dec
      refine ⟨1, rfl, ?_⟩
      sizeOf_list_dec
      refine .inl ⟨_, rfl, by rw [cut_tail, List.map_id], by omega, rfl, fun x hx h2 l => ⟨_, rfl, ?_⟩, fun h' l q => ?_⟩
      · sizeOf_list_dec
        have h1 := deps_mem hx
        have h2 := wts_mem hx
        exact ih (by show x.dep ≤ d; omega) (tms_mem ha x hx) (by omega) (l _ _ hh) (by omega)
      · refine bi_tupl (lstAt_lst q) ?_
        refine op_catt (by rw [List.length_map, List.length_singleton]; omega) ⟨?_, l⟩
        rw [filled, filleds_map]
        rfl
end
section
variable {P : Prog} (T : Term0 P)
include T
theorem key_ok {t : Val} {D : Nat} (hp : Part D sizeMax t) {k : Nat} {h : Hpe} (hk : D + 3 ≤ k) : WP (call P k (Str.ofString "term_key") [t] h) fun v h' => v = .tup [.int (sz t), .str (txt t)] ∧ Le h h' := by
  obtain ⟨k, rfl⟩ : ∃ j, k = j + 1 := ⟨k - 1, by omega⟩
  refine call_of (σ := [some t]) T.term_key rfl rfl ?_
  unfold B_term_key
  sizeOf_list_dec
  refine (size_ok T D hp.dep hp.tm hp.wt (by omega)).mono ?_
  rintro _ h1 ⟨rfl, l1⟩
  sizeOf_list_dec
  refine (text_ok T D hp.dep hp.tm hp.wt (by omega)).mono ?_
  rintro _ h2 ⟨rfl, l2⟩
  sizeOf_list_dec
  exact ⟨rfl, l1.trans l2⟩
end
end Ev
/-! EvSorted: dict comprehensions; sorted_terms. -/
namespace Ev
open PySem
theorem dcL_rule {D : Nat} {s : Src} {step : Val → Hpe → Res (Option (Val × Val))} {Q : Hpe → Prop} (I : Nat → List (Val × Val) → Hpe → Prop) (items : List Val) {h : Hpe} {acc : List (Val × Val)} (j : Nat) (h0 : I j acc h)
    (stays : ∀ i acc h, I i acc h → s.stays h = true)
    (turn : ∀ i x acc h, items[i]? = some x → I (j + i) acc h → WP (step x h) fun r h1 => match r with
      | none => I (j + i + 1) acc h1
      | some p => ∃ k, p.1 = .str k ∧ h1[D]? = some (.dic acc) ∧ acc.length < sizeMax ∧ I (j + i + 1) (putD acc (.str k) p.2) (h1.set D (.dic (putD acc (.str k) p.2))))
    (done : ∀ acc h, I (j + items.length) acc h → Q h) : WP (dcL D s step items h) fun _ h1 => Q h1 := by
  induction items generalizing j acc h with
  | nil =>
    simp only [dcL, stays _ _ _ h0, if_true]
    exact WP.ok (done _ _ h0)
  | cons x r ih =>
    have w := turn 0 x acc h rfl h0
    simp only [dcL, stays _ _ _ h0, if_true]
    have next : ∀ acc2 h2, I (j + 0 + 1) acc2 h2 → WP (dcL D s step r h2) fun _ h1 => Q h1 := fun acc2 h2 q => ih (j + 1) q (fun i x acc h e q => by
      have b := turn (i + 1) x acc h (by simpa using e) (by rw [show j + (i + 1) = j + 1 + i by omega]; exact q)
      rw [show j + (i + 1) + 1 = j + 1 + i + 1 by omega] at b
      exact b) (fun acc h q => done acc h (by rw [List.length_cons, show j + (r.length + 1) = j + 1 + r.length by omega]; exact q))
    refine WP.bind (WP.mono w fun f h1 w => ?_)
    cases f with
    | none => exact next _ _ w
    | some p =>
      obtain ⟨kv, v⟩ := p
      obtain ⟨k, rfl, e, z, q⟩ := w
      simp only [e, z, if_true]
      exact next _ _ q
def dictOf {α : Type} (kf : α → Str) (vf : α → Val) (xs : List α) : List (Val × Val) := xs.foldl (fun d x => putD d (.str (kf x)) (vf x)) []
theorem putD_len (d : List (Val × Val)) (k v : Val) : (putD d k v).length ≤ d.length + 1 := by
  unfold putD
  split
  · rw [List.length_map]; omega
  · rw [List.length_append]; exact Nat.le_refl _
theorem dictOf_len {α : Type} (kf : α → Str) (vf : α → Val) (xs : List α) : (dictOf kf vf xs).length ≤ xs.length := by
  have : ∀ (xs : List α) (d : List (Val × Val)), (xs.foldl (fun d x => putD d (.str (kf x)) (vf x)) d).length ≤ d.length + xs.length := by
    intro xs
    induction xs with
    | nil => intro d; simp
    | cons x xs ih =>
      intro d
      have h1 := ih (putD d (.str (kf x)) (vf x))
      have h2 := putD_len d (.str (kf x)) (vf x)
      rw [List.foldl_cons, List.length_cons]
      omega
  simpa [dictOf] using this xs []
theorem dictOf_take {α : Type} (kf : α → Str) (vf : α → Val) (xs : List α) (i : Nat) {x : α} (h : xs[i]? = some x) : dictOf kf vf (xs.take (i + 1)) = putD (dictOf kf vf (xs.take i)) (.str (kf x)) (vf x) := by
  unfold dictOf
  rw [List.take_add_one, h, List.foldl_append]
  rfl
/-- {k(x): v(x) for x in xs}, nothing changed meanwhile -/
theorem wp_dcm {R : Rc} {σ : En} {h : Hpe} {Q : Val → Hpe → Prop} {ke ve : E} {tg : Tg} {it : I} {own : List Nat} {α : Type} (xs : List α) (f : α → Val) (kf : α → Str) (vf : α → Val)
    (w : WP (evi R it σ h) fun s h1 => s.items = xs.map f ∧ xs.length ≤ sizeMax ∧ s.stays h1 = true ∧
      (∀ x ∈ xs, ∀ h2, Le h1 h2 → ∃ σ2, store tg (f x) (wipeE σ own) = some σ2 ∧ WP (ev R ke σ2 h2) fun kv h3 => kv = .str (kf x) ∧ Le h2 h3 ∧ WP (ev R ve σ2 h3) fun v h4 => v = vf x ∧ Le h3 h4) ∧
      ∀ h', Le h1 h' → h'[h1.length]? = some (.dic (dictOf kf vf xs)) → Q (.ref h1.length) h') : WP (ev R (.dc ke ve tg it .tt own) σ h) Q := by
  simp only [ev]
  refine WP.bind (w.mono fun s h1 ⟨ei, hz, hs, hel, q⟩ => ?_)
  rw [ei]
  refine WP.bind (dcL_rule (D := h1.length) (fun i acc h2 => i ≤ xs.length ∧ acc = dictOf kf vf (xs.take i) ∧ Le h1 h2 ∧ h2[h1.length]? = some (.dic acc)) (xs.map f) 0 ⟨Nat.zero_le _, rfl, Le.push _ _, at_push _ _⟩ (fun i acc h2 ⟨_, _, l, _⟩ => stays_le l hs) (fun i x acc h2 hx ⟨hi, ha, l, hd⟩ => ?_) fun acc h2 ⟨_, ha, l, hd⟩ => ?_)
  · rw [List.getElem?_map] at hx
    obtain ⟨y, hy, rfl⟩ := Option.map_eq_some_iff.mp hx
    have hlt : i < xs.length := (List.getElem?_eq_some_iff.mp hy).1
    obtain ⟨σ2, e1, w2⟩ := hel y (List.mem_of_getElem? hy) h2 l
    rw [Nat.zero_add] at ha hi ⊢
    simp only [dcStep, e1]
    refine WP.bind (wpt_tt ?_)
    simp only [if_true]
    refine WP.bind (w2.mono fun kv h3 ⟨hk, l3, w3⟩ => WP.bind (w3.mono fun v h4 ⟨hv, l4⟩ => ?_))
    subst hk hv
    have hd4 := l4 _ _ (l3 _ _ hd)
    refine WP.ok ⟨_, rfl, hd4, ?_, by omega, ?_, ((l.trans l3).trans l4).set (Nat.le_refl _) _, at_set hd4⟩
    · rw [ha]
      have := dictOf_len kf vf (xs.take i)
      rw [List.length_take] at this
      omega
    · rw [ha, dictOf_take kf vf xs i hy]
  · rw [List.length_map, Nat.zero_add, List.take_length] at ha
    exact WP.ok (q h2 l (by rw [← ha]; exact hd))
/-- a dict of things by texts that tell them apart -/
theorem putD_same {α : Type} (kf : α → Str) (vf : α → Val) {ys : List α} {x : α} (hx : ∃ y ∈ ys, kf y = kf x) (hv : ∀ y ∈ ys, kf y = kf x → vf y = vf x) : putD (ys.map fun y => (Val.str (kf y), vf y)) (.str (kf x)) (vf x) = ys.map fun y => (Val.str (kf y), vf y) := by
  unfold putD
  have : ((ys.map fun y => (Val.str (kf y), vf y)).any fun p => decide (p.1 = Val.str (kf x))) = true := by
    obtain ⟨y, h1, h2⟩ := hx
    rw [List.any_eq_true]
    exact ⟨_, List.mem_map.mpr ⟨y, h1, rfl⟩, by simp [h2]⟩
  rw [if_pos this, List.map_map]
  refine List.map_congr_left fun y hy => ?_
  show (if Val.str (kf y) = Val.str (kf x) then (Val.str (kf y), vf x) else (Val.str (kf y), vf y)) = _
  split
  · rename_i e
    rw [hv y hy (Val.str.inj e)]
  · rfl
theorem putD_new {α : Type} (kf : α → Str) (vf : α → Val) {ys : List α} {x : α} (hx : ∀ y ∈ ys, kf y ≠ kf x) : putD (ys.map fun y => (Val.str (kf y), vf y)) (.str (kf x)) (vf x) = (ys ++ [x]).map fun y => (Val.str (kf y), vf y) := by
  unfold putD
  have : ((ys.map fun y => (Val.str (kf y), vf y)).any fun p => decide (p.1 = Val.str (kf x))) = false := by
    rw [List.any_eq_false]
    intro p hp
    obtain ⟨y, h1, rfl⟩ := List.mem_map.mp hp
    simp [hx y h1]
  rw [if_neg (by rw [this]; simp), List.map_append]
  rfl
theorem dictOf_once {xs : List Val} (kf : Val → Str) (inj : ∀ x ∈ xs, ∀ y ∈ xs, kf x = kf y → x = y) : dictOf kf id xs = (once xs).map fun y => (Val.str (kf y), y) := by
  have : ∀ (r d : List Val), (∀ x ∈ d ++ r, ∀ y ∈ d ++ r, kf x = kf y → x = y) → r.foldl (fun d x => putD d (.str (kf x)) (id x)) (d.map fun y => (Val.str (kf y), y)) = (r.foldl addO d).map fun y => (Val.str (kf y), y) := by
    intro r
    induction r with
    | nil => intro d _; rfl
    | cons x r ih =>
      intro d hi
      rw [List.foldl_cons, List.foldl_cons]
      have e : putD (d.map fun y => (Val.str (kf y), y)) (.str (kf x)) (id x) = (addO d x).map fun y => (Val.str (kf y), y) := by
        unfold addO
        split
        · rename_i hx
          exact putD_same kf id ⟨x, hx, rfl⟩ fun y hy e => hi y (List.mem_append_left _ hy) x (List.mem_append_right _ List.mem_cons_self) e
        · rename_i hx
          exact putD_new kf id fun y hy e => hx (by rw [← hi y (List.mem_append_left _ hy) x (List.mem_append_right _ List.mem_cons_self) e]; exact hy)
      rw [e]
      refine ih (addO d x) fun a ha b hb => hi a ?_ b ?_
      · rcases List.mem_append.mp ha with ha | ha
        · rcases addO_mem.mp ha with ha | rfl
          · exact List.mem_append_left _ ha
          · exact List.mem_append_right _ List.mem_cons_self
        · exact List.mem_append_right _ (List.mem_cons_of_mem _ ha)
      · rcases List.mem_append.mp hb with ha | ha
        · rcases addO_mem.mp ha with ha | rfl
          · exact List.mem_append_left _ ha
          · exact List.mem_append_right _ List.mem_cons_self
        · exact List.mem_append_right _ (List.mem_cons_of_mem _ ha)
  exact this xs [] (by simpa using inj)
theorem lookD_map {ys : List Val} (kf : Val → Str) {x : Val} (hx : x ∈ ys) (inj : ∀ y ∈ ys, kf y = kf x → y = x) : lookD (ys.map fun y => (Val.str (kf y), y)) (.str (kf x)) = some x := by
  unfold lookD
  induction ys with
  | nil => simp at hx
  | cons y ys ih =>
    rw [List.map_cons, List.find?_cons]
    by_cases e : kf y = kf x
    · simp [e, inj y List.mem_cons_self e]
    · have hne : x ≠ y := fun z => e (by rw [z])
      have : decide ((Val.str (kf y), y).1 = Val.str (kf x)) = false := by simp [e]
      rw [this]
      exact ih ((List.mem_cons.mp hx).resolve_left hne) fun z hz => inj z (List.mem_cons_of_mem _ hz)
/-! ### the order of terms -/
def tkey (t : Val) : Val := .tup [.int (sz t), .str (txt t)]
def tle (a b : Val) : Bool := PySem.W.dataLe false (fun t => (tkey t).toD) a b
def sortedT (xs : List Val) : List Val := (once xs).mergeSort tle
theorem sortBy_key (xs : List Val) (g : Val → Val) : sortBy xs (xs.map g) = xs.mergeSort (PySem.W.dataLe false fun t => (g t).toD) := by
  unfold sortBy
  have e : (xs.map g).zip xs = xs.map fun x => (g x, x) := by
    induction xs with
    | nil => rfl
    | cons x xs ih => rw [List.map_cons, List.zip_cons_cons, ih]; rfl
  rw [e, ← List.map_mergeSort (r := PySem.W.dataLe false fun t => (g t).toD) (s := PySem.W.dataLe false fun p : Val × Val => p.1.toD) (f := fun x => (g x, x)) (fun a _ b _ => rfl), List.map_map]
  exact List.map_id _
theorem sortable_tkey (xs : List Val) : sortable (xs.map tkey) = true := by
  unfold sortable
  rw [Bool.and_eq_true, Bool.and_eq_true]
  refine ⟨⟨?_, ?_⟩, ?_⟩
  · rw [List.all_eq_true]
    intro a ha
    rw [List.all_eq_true]
    intro b hb
    obtain ⟨x, _, rfl⟩ := List.mem_map.mp ha
    obtain ⟨y, _, rfl⟩ := List.mem_map.mp hb
    rfl
  · rw [List.all_eq_true]
    intro a ha
    obtain ⟨x, _, rfl⟩ := List.mem_map.mp ha
    rfl
  · rw [Bool.or_eq_true]
    left
    rw [List.all_eq_true]
    intro a ha
    obtain ⟨x, _, rfl⟩ := List.mem_map.mp ha
    rfl
section
variable {P : Prog} (T : TermP P)
include T
theorem sorted_ok {v : Val} {xs : List Val} {D : Nat} {k : Nat} {h : Hpe} (hv : v = .tup xs ∨ ∃ n, v = .ref n ∧ h[n]? = some (.lst xs)) (hz : xs.length ≤ sizeMax) (hp : ∀ x ∈ xs, Part D sizeMax x) (inj : ∀ x ∈ xs, ∀ y ∈ xs, txt x = txt y → x = y) (hk : D + 6 ≤ k) :
    WP (call P k (Str.ofString "sorted_terms") [v] h) fun v h' => ∃ n, v = .ref n ∧ h.length ≤ n ∧ Le h h' ∧ h'[n]? = some (.lst (sortedT xs)) := by
  obtain ⟨k, rfl⟩ : ∃ j, k = j + 1 := ⟨k - 1, by omega⟩
  refine call_of (σ := [some v, none, none, none]) T.sorted_terms rfl rfl ?_
  unfold B_sorted_terms
  have its : (∃ ys, v = .tup ys ∧ (⟨ys, .no⟩ : Src) = ⟨xs, .no⟩) ∨ ∃ n, v = .ref n ∧ lstAt h n = some xs := by
    rcases hv with rfl | ⟨n, rfl, e⟩
    · exact .inl ⟨xs, rfl, rfl⟩
    · exact .inr ⟨n, rfl, lstAt_lst e⟩
  have key : ∀ (s : Src), s.items = xs → s.stays h = true → (s.items = xs.map id ∧ xs.length ≤ sizeMax ∧ s.stays h = true ∧
      (∀ x ∈ xs, ∀ h2, Le h h2 → ∃ σ2, store (.nm 2) (id x) (wipeE [some v, none, none, none] [2]) = some σ2 ∧ WP (ev (Rk P k) (.call (Str.ofString "term_text") (.cons (.var 2) .nil)) σ2 h2) fun kv h3 => kv = .str (txt x) ∧ Le h2 h3 ∧ WP (ev (Rk P k) (.var 2) σ2 h3) fun v h4 => v = id x ∧ Le h3 h4)) := by
    intro s e1 e2
    refine ⟨by rw [List.map_id, e1], hz, e2, fun x hx h2 l => ⟨_, rfl, ?_⟩⟩
    sizeOf_list_dec
    refine (text_ok T.toTerm0 D (hp x hx).dep (hp x hx).tm (hp x hx).wt (by omega)).mono ?_
    rintro _ h3 ⟨rfl, l3⟩
    refine ⟨rfl, l3, ?_⟩
    sizeOf_list_dec
    exact ⟨rfl, .rfl⟩
  sizeOf_list_dec
  refine wp_dcm xs id txt id ?_
  have rest : ∀ h', Le h h' → h'[h.length]? = some (.dic (dictOf txt id xs)) → WS (runs (Rk P k) (.cons (.ret (.srt (.lock 1 (.lc (.ix (.var 1) (.var 3)) (.nm 3) (.dky (.var 1)) .tt [3])) (Str.ofString "term_key"))) .nil) [some v, some (.ref h.length), none, none] h')
      (fun _ h1 => ∃ n, Val.non = .ref n ∧ h.length ≤ n ∧ Le h h1 ∧ h1[n]? = some (.lst (sortedT xs))) (fun v h' => ∃ n, v = .ref n ∧ h.length ≤ n ∧ Le h h' ∧ h'[n]? = some (.lst (sortedT xs))) (fun _ _ => False) (fun _ _ => False) := by
    intro h1 l1 e1
    rw [dictOf_once txt inj] at e1
    have hlt := (List.getElem?_eq_some_iff.mp e1).1
    sizeOf_list_dec
    refine wp_lock rfl e1 ?_
    have ef : (h1.set h.length (.fdc ((once xs).map fun y => (Val.str (txt y), y))))[h.length]? = some (.fdc ((once xs).map fun y => (Val.str (txt y), y))) := at_set e1
    have hol := once_len xs
    refine wp_map (once xs) (fun y => .str (txt y)) id ?_
    sizeOf_list_dec
    refine ⟨_, _, rfl, ef, by rw [List.map_map]; rfl, by omega, decide_eq_true ef, fun x hx h2 l => ⟨_, rfl, ?_⟩, fun h2 l q => ?_⟩
    · sizeOf_list_dec
      refine ix_dic (kvs := (once xs).map fun y => (Val.str (txt y), y)) (by simp only [dicAt, l _ _ ef]) (lookD_map txt hx fun y hy e => inj y (once_mem.mp hy) x (once_mem.mp hx) e) ?_
      exact ⟨rfl, .rfl⟩
    · rw [List.length_set] at q ⊢
      rw [List.map_id] at q
      refine ⟨⟨_, l _ _ ef⟩, h1.length, once xs, rfl, lstAt_lst (at_set_ne (by omega) q), ?_, ?_⟩
      · show (decide (k ≠ 0) && (P.fn (Str.ofString "term_key")).isSome) = true
        rw [T.term_key]
        have : k ≠ 0 := by omega
        simp [this]
      · have l2 : Le h1 (h2.set h.length (.dic ((once xs).map fun y => (Val.str (txt y), y)))) := by
          intro m o e
          by_cases hm : m = h.length
          · subst hm
            rw [e1] at e
            cases e
            exact at_set (l _ _ ef)
          · exact at_set_ne (Ne.symm hm) (l _ _ (at_set_ne (Ne.symm hm) e))
        obtain ⟨k, rfl⟩ : ∃ j, k = j + 1 := ⟨k - 1, by omega⟩
        refine keysL_rule tkey _ (fun x hx h3 l3 => ?_) fun h' l' => ⟨sortable_tkey _, ?_⟩
        · have := key_ok T.toTerm0 (hp x (once_mem.mp hx)) (k := k) (h := h3) (by omega)
          exact this
        · refine ⟨_, rfl, ?_, (l1.trans l2).trans (l'.trans (Le.push _ _)), ?_⟩
          · exact (l1.trans (l2.trans l')).len
          · rw [at_push, sortBy_key]
            rfl
  rcases its with ⟨ys, rfl, e⟩ | ⟨n, rfl, e⟩
  · cases e
    sizeOf_list_dec
    obtain ⟨a, b, c, d⟩ := key ⟨xs, .no⟩ rfl rfl
    exact .inl ⟨_, rfl, a, b, c, d, fun h' l' e' => rest h' l' e'⟩
  · sizeOf_list_dec
    obtain ⟨a, b, c, d⟩ := key ⟨xs, .lst n⟩ rfl (decide_eq_true e)
    exact .inr ⟨n, xs, rfl, e, a, b, c, d, fun h' l' e' => rest h' l' e'⟩
end
end Ev
/-! EvInj: texts tell clean terms apart. -/
namespace Ev
open PySem
def nameOk (s : Str) : Bool := s.cps.toList.all fun c => decide (c ≠ 40 ∧ c ≠ 41 ∧ c ≠ 44 ∧ c ≠ 32)
mutual
/-- a term of names without brackets and commas; unknowns and constants do not share names -/
def clean (U : Str → Bool) : Val → Bool
  | .str s => nameOk s && U s
  | .tup xs => match xs with
    | .str f :: as => nameOk f && (!as.isEmpty || !U f) && cleans U as
    | _ => false
  | _ => false
def cleans (U : Str → Bool) : List Val → Bool
  | [] => true
  | x :: xs => clean U x && cleans U xs
end
theorem cps_app (x y : Str) : (x ++ y).cps.toList = x.cps.toList ++ y.cps.toList := by
  show (x.cps ++ y.cps).toList = _
  rw [Array.toList_append]
def cds (t : Val) : List Nat := (txt t).cps.toList
/-- the arguments' texts with commas -/
def J : List Val → List Nat
  | [] => []
  | [a] => cds a
  | a :: b :: r => cds a ++ 44 :: 32 :: J (b :: r)
theorem join_cps : ∀ as : List Val, as ≠ [] → (Str.join (Str.ofString ", ") (txts as)).cps.toList = J as
  | [], h => absurd rfl h
  | [a], _ => by rw [txts, txts]; rfl
  | a :: b :: r, _ => by
    have ih := join_cps (b :: r) (by simp)
    simp only [txts] at ih ⊢
    show (txt a ++ Str.ofString ", " ++ Str.join (Str.ofString ", ") (txt b :: txts r)).cps.toList = _
    rw [cps_app, cps_app, ih, J]
    have e : (Str.ofString ", ").cps.toList = [44, 32] := by decide +kernel
    rw [e]
    simp [cds]
theorem cds_str (s : Str) : cds (.str s) = s.cps.toList := by unfold cds; rw [txt]
theorem cds_con (f : Str) : cds (.tup [.str f]) = f.cps.toList := by unfold cds; rw [txt]; rfl
theorem cds_app (f : Str) (a : Val) (as : List Val) : cds (.tup (.str f :: a :: as)) = f.cps.toList ++ 40 :: (J (a :: as) ++ [41]) := by
  unfold cds
  rw [txt]
  have hne : (a :: as).isEmpty = false := rfl
  rw [hne]
  simp only [Bool.false_eq_true, if_false]
  rw [cps_app, cps_app, cps_app, join_cps _ (by simp)]
  have e1 : (Str.ofString "(").cps.toList = [40] := by decide +kernel
  have e2 : (Str.ofString ")").cps.toList = [41] := by decide +kernel
  rw [e1, e2]
  simp
/-- a name ends where a sign stands -/
def Stp (r : List Nat) : Prop := ∀ c t, r = c :: t → c = 40 ∨ c = 41 ∨ c = 44 ∨ c = 32
theorem name_split : ∀ (x y r s : List Nat), (∀ c ∈ x, c ≠ 40 ∧ c ≠ 41 ∧ c ≠ 44 ∧ c ≠ 32) → (∀ c ∈ y, c ≠ 40 ∧ c ≠ 41 ∧ c ≠ 44 ∧ c ≠ 32) → Stp r → Stp s → x ++ r = y ++ s → x = y ∧ r = s
  | [], [], r, s, _, _, _, _, e => ⟨rfl, e⟩
  | [], c :: y, r, s, _, hy, hr, _, e => by
    have := hy c List.mem_cons_self
    have := hr c (y ++ s) e
    omega
  | c :: x, [], r, s, hx, _, _, hs, e => by
    have := hx c List.mem_cons_self
    have := hs c (x ++ r) e.symm
    omega
  | c :: x, d :: y, r, s, hx, hy, hr, hs, e => by
    rw [List.cons_append, List.cons_append] at e
    obtain ⟨e1, e2⟩ := List.cons.inj e
    obtain ⟨e3, e4⟩ := name_split x y r s (fun c h => hx c (List.mem_cons_of_mem _ h)) (fun c h => hy c (List.mem_cons_of_mem _ h)) hr hs e2
    exact ⟨by rw [e1, e3], e4⟩
theorem nameOk_mem {s : Str} (h : nameOk s = true) : ∀ c ∈ s.cps.toList, c ≠ 40 ∧ c ≠ 41 ∧ c ≠ 44 ∧ c ≠ 32 := fun c hc => of_decide_eq_true (List.all_eq_true.mp h c hc)
theorem str_ext {x y : Str} (h : x.cps.toList = y.cps.toList) : x = y := PySem.W.str_of_cps h
theorem clean_cases {U : Str → Bool} {t : Val} (h : clean U t = true) : (∃ s, t = .str s ∧ nameOk s = true ∧ U s = true) ∨ (∃ f, t = .tup [.str f] ∧ nameOk f = true ∧ U f = false) ∨ ∃ f a as, t = .tup (.str f :: a :: as) ∧ nameOk f = true ∧ cleans U (a :: as) = true := by
  cases t with
  | str s => rw [clean, Bool.and_eq_true] at h; exact .inl ⟨s, rfl, h⟩
  | tup xs => cases xs with
    | nil => simp [clean] at h
    | cons x as => cases x with
      | str f =>
        rw [clean, Bool.and_eq_true, Bool.and_eq_true] at h
        cases as with
        | nil => exact .inr (.inl ⟨f, rfl, h.1.1, by simpa using h.1.2⟩)
        | cons a as => exact .inr (.inr ⟨f, a, as, rfl, h.1.1, h.2⟩)
      | _ => simp [clean] at h
  | _ => simp [clean] at h
/-- texts of clean terms, with what follows -/
theorem cds_inj {U : Str → Bool} : ∀ (d : Nat) {a b : Val} {r s : List Nat}, a.dep ≤ d → clean U a = true → clean U b = true → (∀ c t, r = c :: t → c = 41 ∨ c = 44 ∨ c = 32) → (∀ c t, s = c :: t → c = 41 ∨ c = 44 ∨ c = 32) → cds a ++ r = cds b ++ s → a = b ∧ r = s := by
  intro d
  induction d with
  | zero =>
    intro a b r s hd ha hb hr hs e
    have sr : Stp r := fun c t z => .inr (hr c t z)
    have ss : Stp s := fun c t z => .inr (hs c t z)
    rcases clean_cases ha with ⟨x, rfl, na, ua⟩ | ⟨x, rfl, na, ua⟩ | ⟨f, a1, as, rfl, na, ca⟩
    · rcases clean_cases hb with ⟨y, rfl, nb, ub⟩ | ⟨y, rfl, nb, ub⟩ | ⟨g, b1, bs, rfl, nb, cb⟩
      · rw [cds_str, cds_str] at e
        obtain ⟨e1, e2⟩ := name_split _ _ _ _ (nameOk_mem na) (nameOk_mem nb) sr ss e
        exact ⟨by rw [str_ext e1], e2⟩
      · rw [cds_str, cds_con] at e
        obtain ⟨e1, e2⟩ := name_split _ _ _ _ (nameOk_mem na) (nameOk_mem nb) sr ss e
        rw [str_ext e1, ub] at ua
        cases ua
      · rw [cds_str, cds_app, List.append_assoc] at e
        obtain ⟨e1, e2⟩ := name_split _ _ _ _ (nameOk_mem na) (nameOk_mem nb) sr (fun c t z => by rw [List.cons_append] at z; exact .inl (List.cons.inj z).1.symm) e
        have := hr _ _ (e2.trans (List.cons_append ..))
        omega
    · rw [Val.dep] at hd; omega
    · rw [Val.dep] at hd; omega
  | succ d ih =>
    intro a b r s hd ha hb hr hs e
    have sr : Stp r := fun c t z => .inr (hr c t z)
    have ss : Stp s := fun c t z => .inr (hs c t z)
    have args : ∀ (as bs : List Val) {r s : List Nat}, Val.deps as ≤ d → as ≠ [] → bs ≠ [] → cleans U as = true → cleans U bs = true → J as ++ 41 :: r = J bs ++ 41 :: s → as = bs ∧ r = s := by
      intro as
      induction as with
      | nil => intro bs r s _ h; exact absurd rfl h
      | cons a as iha =>
        intro bs r s hd _ hb ca cb e
        rw [Val.deps] at hd
        rw [cleans, Bool.and_eq_true] at ca
        cases bs with
        | nil => exact absurd rfl hb
        | cons b bs =>
          rw [cleans, Bool.and_eq_true] at cb
          have h41 : ∀ (u : List Nat) c t, 41 :: u = c :: t → c = 41 ∨ c = 44 ∨ c = 32 := fun u c t z => .inl (List.cons.inj z).1.symm
          have h44 : ∀ (u : List Nat) c t, 44 :: u = c :: t → c = 41 ∨ c = 44 ∨ c = 32 := fun u c t z => .inr (.inl (List.cons.inj z).1.symm)
          cases as with
          | nil => cases bs with
            | nil =>
              rw [J, J] at e
              obtain ⟨e1, e2⟩ := ih (by omega) ca.1 cb.1 (h41 _) (h41 _) e
              rw [e1]
              exact ⟨rfl, (List.cons.inj e2).2⟩
            | cons b2 bs =>
              rw [J, J, List.append_assoc] at e
              obtain ⟨e1, e2⟩ := ih (by omega) ca.1 cb.1 (h41 _) (by rw [List.cons_append]; exact h44 _) e
              rw [List.cons_append] at e2
              have := (List.cons.inj e2).1
              omega
          | cons a2 as => cases bs with
            | nil =>
              rw [J, J, List.append_assoc] at e
              obtain ⟨e1, e2⟩ := ih (by omega) ca.1 cb.1 (by rw [List.cons_append]; exact h44 _) (h41 _) e
              rw [List.cons_append] at e2
              have := (List.cons.inj e2).1
              omega
            | cons b2 bs =>
              rw [J, J, List.append_assoc, List.append_assoc] at e
              obtain ⟨e1, e2⟩ := ih (by omega) ca.1 cb.1 (by rw [List.cons_append]; exact h44 _) (by rw [List.cons_append]; exact h44 _) e
              rw [List.cons_append, List.cons_append, List.cons_append, List.cons_append] at e2
              obtain ⟨e3, e4⟩ := iha (b2 :: bs) (by omega) (by simp) (by simp) ca.2 cb.2 (List.cons.inj (List.cons.inj e2).2).2
              rw [e1, e3]
              exact ⟨rfl, e4⟩
    rcases clean_cases ha with ⟨x, rfl, na, ua⟩ | ⟨x, rfl, na, ua⟩ | ⟨f, a1, as, rfl, na, ca⟩
    · rcases clean_cases hb with ⟨y, rfl, nb, ub⟩ | ⟨y, rfl, nb, ub⟩ | ⟨g, b1, bs, rfl, nb, cb⟩
      · rw [cds_str, cds_str] at e
        obtain ⟨e1, e2⟩ := name_split _ _ _ _ (nameOk_mem na) (nameOk_mem nb) sr ss e
        exact ⟨by rw [str_ext e1], e2⟩
      · rw [cds_str, cds_con] at e
        obtain ⟨e1, e2⟩ := name_split _ _ _ _ (nameOk_mem na) (nameOk_mem nb) sr ss e
        rw [str_ext e1, ub] at ua
        cases ua
      · rw [cds_str, cds_app, List.append_assoc] at e
        obtain ⟨e1, e2⟩ := name_split _ _ _ _ (nameOk_mem na) (nameOk_mem nb) sr (fun c t z => by rw [List.cons_append] at z; exact .inl (List.cons.inj z).1.symm) e
        have := hr _ _ (e2.trans (List.cons_append ..))
        omega
    · rcases clean_cases hb with ⟨y, rfl, nb, ub⟩ | ⟨y, rfl, nb, ub⟩ | ⟨g, b1, bs, rfl, nb, cb⟩
      · rw [cds_str, cds_con] at e
        obtain ⟨e1, e2⟩ := name_split _ _ _ _ (nameOk_mem na) (nameOk_mem nb) sr ss e
        rw [str_ext e1, ub] at ua
        cases ua
      · rw [cds_con, cds_con] at e
        obtain ⟨e1, e2⟩ := name_split _ _ _ _ (nameOk_mem na) (nameOk_mem nb) sr ss e
        exact ⟨by rw [str_ext e1], e2⟩
      · rw [cds_con, cds_app, List.append_assoc] at e
        obtain ⟨e1, e2⟩ := name_split _ _ _ _ (nameOk_mem na) (nameOk_mem nb) sr (fun c t z => by rw [List.cons_append] at z; exact .inl (List.cons.inj z).1.symm) e
        have := hr _ _ (e2.trans (List.cons_append ..))
        omega
    · have s40 : ∀ u : List Nat, Stp (40 :: u) := fun u c t z => .inl (List.cons.inj z).1.symm
      rcases clean_cases hb with ⟨y, rfl, nb, ub⟩ | ⟨y, rfl, nb, ub⟩ | ⟨g, b1, bs, rfl, nb, cb⟩
      · rw [cds_str, cds_app, List.append_assoc] at e
        obtain ⟨e1, e2⟩ := name_split _ _ _ _ (nameOk_mem na) (nameOk_mem nb) (by rw [List.cons_append]; exact s40 _) ss e
        have := hs _ _ (e2.symm.trans (List.cons_append ..))
        omega
      · rw [cds_con, cds_app, List.append_assoc] at e
        obtain ⟨e1, e2⟩ := name_split _ _ _ _ (nameOk_mem na) (nameOk_mem nb) (by rw [List.cons_append]; exact s40 _) ss e
        have := hs _ _ (e2.symm.trans (List.cons_append ..))
        omega
      · rw [cds_app, cds_app, List.append_assoc, List.append_assoc] at e
        obtain ⟨e1, e2⟩ := name_split _ _ _ _ (nameOk_mem na) (nameOk_mem nb) (by rw [List.cons_append]; exact s40 _) (by rw [List.cons_append]; exact s40 _) e
        rw [List.cons_append, List.cons_append, List.append_assoc, List.append_assoc] at e2
        rw [Val.dep, Val.deps] at hd
        obtain ⟨e3, e4⟩ := args (a1 :: as) (b1 :: bs) (by omega) (by simp) (by simp) ca cb (List.cons.inj e2).2
        rw [str_ext e1, e3]
        exact ⟨rfl, e4⟩
theorem txt_inj {U : Str → Bool} {a b : Val} (ha : clean U a = true) (hb : clean U b = true) (e : txt a = txt b) : a = b := by
  refine (cds_inj (U := U) a.dep (r := []) (s := []) (Nat.le_refl _) ha hb (fun c t z => nomatch z) (fun c t z => nomatch z) ?_).1
  rw [List.append_nil, List.append_nil]
  unfold cds
  rw [e]
end Ev
/-! EvOrd: the order by size, then by text; putting things in by counting gives the sorted row. -/
namespace Ev
open PySem
def bef (a b : Val) : Bool := if sz a = sz b then decide ((txt a).cps.toList < (txt b).cps.toList) else decide (sz a < sz b)
theorem bef_lex (a b : Val) : bef a b = PyProof.Rows.lexLt PyProof.Rows.itemOrd (PySem.W.keyToks (tkey a).toD) (PySem.W.keyToks (tkey b).toD) := by
  have e : ∀ t : Val, PySem.W.keyToks (tkey t).toD = [.inl 1, .inl (sz t), .inl 1, .inr (txt t).cps.toList, .inl 0] := fun t => by
    simp [tkey, Val.toD, Val.toDs, PySem.W.keyToks, PySem.W.keyToksAll]
  rw [e, e]
  have same : ∀ (x : Int) (r s : List (Int ⊕ List Nat)), PyProof.Rows.lexLt PyProof.Rows.itemOrd (.inl x :: r) (.inl x :: s) = PyProof.Rows.lexLt PyProof.Rows.itemOrd r s := fun x r s => by
    rw [PyProof.Rows.lex_cons]
    have : PyProof.Rows.itemOrd.blt (.inl x) (.inl x) = false := PyProof.Rows.itemOrd.irrefl _
    rw [this]
    simp
  rw [same]
  unfold bef
  by_cases hs : sz a = sz b
  · rw [if_pos hs, hs, same, same, PyProof.Rows.lex_cons]
    have z : PyProof.Rows.lexLt PyProof.Rows.itemOrd [.inl 0] [.inl 0] = false := by rw [same]; rfl
    rw [z, Bool.and_false, Bool.or_false]
    rfl
  · rw [if_neg hs, PyProof.Rows.lex_cons]
    show _ = (decide ((sz a : Int) < (sz b : Int)) || (!decide ((sz b : Int) < (sz a : Int)) && _))
    by_cases hl : sz a < sz b
    · have : (sz a : Int) < (sz b : Int) := by omega
      simp [hl]
    · have : (sz b : Int) < (sz a : Int) := by omega
      have h2 : sz b < sz a := by omega
      simp [hl, h2]
theorem tle_bef (a b : Val) : tle a b = !bef b a := by
  rw [bef_lex]
  rfl
theorem bef_irrefl (a : Val) : bef a a = false := by rw [bef_lex]; exact PyProof.Rows.lex_irrefl (O := PyProof.Rows.itemOrd) _
theorem bef_trans {a b c : Val} (h1 : bef a b = true) (h2 : bef b c = true) : bef a c = true := by
  rw [bef_lex] at *
  exact PyProof.Rows.lex_trans (O := PyProof.Rows.itemOrd) _ _ _ h1 h2
theorem bef_total {a b : Val} (h : txt a ≠ txt b) : bef a b = true ∨ bef b a = true := by
  unfold bef
  by_cases hs : sz a = sz b
  · rw [if_pos hs, if_pos hs.symm, decide_eq_true_eq, decide_eq_true_eq]
    have hne : (txt a).cps.toList ≠ (txt b).cps.toList := fun e => h (str_ext e)
    by_cases h1 : (txt a).cps.toList < (txt b).cps.toList
    · exact .inl h1
    · refine .inr ?_
      have h2 : (txt b).cps.toList ≤ (txt a).cps.toList := List.not_lt.mp h1
      rcases List.le_iff_lt_or_eq.mp h2 with h3 | h3
      · exact h3
      · exact absurd h3.symm hne
  · rw [if_neg hs, if_neg (Ne.symm hs), decide_eq_true_eq, decide_eq_true_eq]
    omega
theorem bef_asymm {a b : Val} (h : bef a b = true) : bef b a = false := by
  cases e : bef b a with
  | false => rfl
  | true => have := bef_trans h e; rw [bef_irrefl] at this; cases this
theorem tle_total : PySem.W.TotalLe tle := PySem.W.sortLe_total (PyProof.Rows.listOrd PyProof.Rows.itemOrd) false fun t => PySem.W.keyToks (tkey t).toD
/-- in by counting -/
def insT (row : List Val) (x : Val) : List Val := row.take (row.filter fun o => bef o x).length ++ x :: row.drop (row.filter fun o => bef o x).length
theorem insT_perm (row : List Val) (x : Val) : (insT row x).Perm (x :: row) := by
  unfold insT
  refine List.perm_middle.trans ?_
  rw [List.take_append_drop]
theorem sorted_split : ∀ {row : List Val} {x : Val}, row.Pairwise (fun a b => bef a b = true) → (∀ y ∈ row, bef y x = true ∨ bef x y = true) →
    (∀ y ∈ row.take (row.filter fun o => bef o x).length, bef y x = true) ∧ ∀ y ∈ row.drop (row.filter fun o => bef o x).length, bef x y = true
  | [], x, _, _ => by simp
  | r :: row, x, h, t => by
    rw [List.pairwise_cons] at h
    obtain ⟨i1, i2⟩ := sorted_split (x := x) h.2 fun y hy => t y (List.mem_cons_of_mem _ hy)
    rcases t r List.mem_cons_self with hr | hr
    · rw [List.filter_cons_of_pos (p := fun o => bef o x) hr, List.length_cons, List.take_succ_cons, List.drop_succ_cons]
      refine ⟨fun y hy => ?_, i2⟩
      rcases List.mem_cons.mp hy with rfl | hy
      · exact hr
      · exact i1 y hy
    · have hn : bef r x = false := bef_asymm hr
      have all : ∀ y ∈ row, bef x y = true := fun y hy => bef_trans hr (h.1 y hy)
      have e : (r :: row).filter (fun o => bef o x) = [] := by
        rw [List.filter_eq_nil_iff]
        intro y hy
        rcases List.mem_cons.mp hy with rfl | hy
        · rw [hn]; simp
        · rw [bef_asymm (all y hy)]; simp
      rw [e]
      refine ⟨fun y hy => by simp at hy, fun y hy => ?_⟩
      rcases List.mem_cons.mp (by simpa using hy) with rfl | hy
      · exact hr
      · exact all y hy
theorem insT_sorted {row : List Val} {x : Val} (h : row.Pairwise (fun a b => bef a b = true)) (t : ∀ y ∈ row, bef y x = true ∨ bef x y = true) : (insT row x).Pairwise (fun a b => bef a b = true) := by
  obtain ⟨h1, h2⟩ := sorted_split h t
  unfold insT
  rw [List.pairwise_append]
  refine ⟨h.take, ?_, fun a ha b hb => ?_⟩
  · rw [List.pairwise_cons]
    exact ⟨fun y hy => h2 y hy, h.drop⟩
  · rcases List.mem_cons.mp hb with rfl | hb
    · exact h1 a ha
    · exact bef_trans (h1 a ha) (h2 b hb)
def lawSorted (xs : List Val) : List Val := (once xs).foldl insT []
theorem foldl_insT : ∀ (xs row : List Val), (∀ a ∈ row ++ xs, ∀ b ∈ row ++ xs, txt a = txt b → a = b) → (row ++ xs).Nodup → row.Pairwise (fun a b => bef a b = true) → (xs.foldl insT row).Pairwise (fun a b => bef a b = true) ∧ (xs.foldl insT row).Perm (row ++ xs)
  | [], row, _, _, h => ⟨h, by simp⟩
  | x :: xs, row, inj, nd, h => by
    have hx : ∀ y ∈ row, y ≠ x := fun y hy e => by
      rw [List.nodup_append] at nd
      exact nd.2.2 y hy x List.mem_cons_self e
    have t : ∀ y ∈ row, bef y x = true ∨ bef x y = true := fun y hy => bef_total fun e => hx y hy (inj y (List.mem_append_left _ hy) x (List.mem_append_right _ List.mem_cons_self) e)
    have p := insT_perm row x
    have p2 : (insT row x ++ xs).Perm (row ++ x :: xs) := (p.append_right xs).trans List.perm_middle.symm
    obtain ⟨i1, i2⟩ := foldl_insT xs (insT row x) (fun a ha b hb => inj a (p2.mem_iff.mp ha) b (p2.mem_iff.mp hb)) (p2.nodup_iff.mpr nd) (insT_sorted h t)
    exact ⟨i1, i2.trans p2⟩
/-- both sort alike -/
theorem sorted_same {xs : List Val} (inj : ∀ a ∈ xs, ∀ b ∈ xs, txt a = txt b → a = b) : lawSorted xs = sortedT xs := by
  obtain ⟨h1, h2⟩ := foldl_insT (once xs) [] (fun a ha b hb => inj a (once_mem.mp (by simpa using ha)) b (once_mem.mp (by simpa using hb))) (by simpa using once_nodup xs) List.Pairwise.nil
  have h3 : (sortedT xs).Perm (once xs) := List.mergeSort_perm _ _
  have h4 : (sortedT xs).Pairwise (fun a b => tle a b = true) := PySem.W.sort_pairwise tle_total _
  rw [List.nil_append] at h2
  refine List.Perm.eq_of_pairwise (le := fun a b => tle a b = true) (fun a b ha hb e1 e2 => ?_) (h1.imp fun {a b} h => ?_) h4 (h2.trans h3.symm)
  · by_cases e : txt a = txt b
    · exact inj a (once_mem.mp (h2.mem_iff.mp ha)) b (once_mem.mp (h3.mem_iff.mp hb)) e
    · rw [tle_bef] at e1 e2
      rcases bef_total e with h | h
      · rw [h] at e2; cases e2
      · rw [h] at e1; cases e1
  · rw [tle_bef, bef_asymm h]; rfl
theorem sortedT_mem {xs : List Val} {y : Val} : y ∈ sortedT xs ↔ y ∈ xs := by
  have h3 : (sortedT xs).Perm (once xs) := List.mergeSort_perm _ _
  rw [h3.mem_iff, once_mem]
theorem sortedT_len (xs : List Val) : (sortedT xs).length ≤ xs.length := by
  have h3 : (sortedT xs).Perm (once xs) := List.mergeSort_perm _ _
  rw [h3.length_eq]
  exact once_len xs
/-- the same members, the same row -/
theorem sortedT_congr {xs ys : List Val} (inj : ∀ a ∈ xs, ∀ b ∈ xs, txt a = txt b → a = b) (h : ∀ y, y ∈ xs ↔ y ∈ ys) : sortedT xs = sortedT ys := by
  have h1 : (sortedT xs).Perm (once xs) := List.mergeSort_perm _ _
  have h2 : (sortedT ys).Perm (once ys) := List.mergeSort_perm _ _
  have p : (once xs).Perm (once ys) := (List.perm_ext_iff_of_nodup (once_nodup xs) (once_nodup ys)).mpr fun y => by rw [once_mem, once_mem, h]
  refine List.Perm.eq_of_pairwise (le := fun a b => tle a b = true) (fun a b ha hb e1 e2 => ?_) (PySem.W.sort_pairwise tle_total _) (PySem.W.sort_pairwise tle_total _) (h1.trans (p.trans h2.symm))
  by_cases e : txt a = txt b
  · exact inj a (sortedT_mem.mp ha) b ((h b).mpr (sortedT_mem.mp hb)) e
  · rw [tle_bef] at e1 e2
    rcases bef_total e with h | h
    · rw [h] at e2; cases e2
    · rw [h] at e1; cases e1
end Ev
/-! EvLaw: the laws' twins _law_text, _law_size, _law_before. -/
namespace Ev
open PySem
/-- _law_text(term): term, part -/
def B__law_text : Ss := .cons (.ifs (.val (.isi (.var 0) .str)) (.cons (.ret (.var 0)) .nil) (.nil)) (.cons (.ifs (.cmp .eq (.blt .len (.var 0)) (.con (.int 1))) (.cons (.ret (.ix (.var 0) (.con (.int 0)))) .nil) (.nil)) (.cons (.ret (.bin .add (.bin .add (.bin .add (.ix (.var 0) (.con (.int 0))) (.con (.str "("))) (.mth .join (.con (.str ", ")) (.cons (.lc (.call "_law_text" (.cons (.var 1) .nil)) (.nm 1) (.seq (.sl (.var 0) (.yes (.con (.int 1))) .no)) .tt [1]) .nil))) (.con (.str ")")))) .nil))
/-- _law_size(term): term, part -/
def B__law_size : Ss := .cons (.ifs (.val (.isi (.var 0) .str)) (.cons (.ret (.con (.int 1))) .nil) (.nil)) (.cons (.ret (.bin .add (.con (.int 1)) (.blt .sum (.lc (.call "_law_size" (.cons (.var 1) .nil)) (.nm 1) (.seq (.sl (.var 0) (.yes (.con (.int 1))) .no)) .tt [1])))) .nil)
/-- _law_before(one, two): one, two -/
def B__law_before : Ss := .cons (.ifs (.cmp .ne (.call "_law_size" (.cons (.var 0) .nil)) (.call "_law_size" (.cons (.var 1) .nil))) (.cons (.ret (.cmp .lt (.call "_law_size" (.cons (.var 0) .nil)) (.call "_law_size" (.cons (.var 1) .nil)))) .nil) (.nil)) (.cons (.ret (.cmp .lt (.call "_law_text" (.cons (.var 0) .nil)) (.call "_law_text" (.cons (.var 1) .nil)))) .nil)
/-- the program has these defs -/
structure LawT (P : Prog) : Prop where
  law_text : P.fn (Str.ofString "_law_text") = some ⟨1, 2, B__law_text⟩
  law_size : P.fn (Str.ofString "_law_size") = some ⟨1, 2, B__law_size⟩
  law_before : P.fn (Str.ofString "_law_before") = some ⟨2, 2, B__law_before⟩
section
variable {P : Prog} (G : LawT P)
include G
theorem ltext_ok : ∀ (d : Nat) {t : Val}, t.dep ≤ d → tm t = true → wt t ≤ sizeMax → ∀ {k : Nat} {h : Hpe}, d + 2 ≤ k → WP (call P k (Str.ofString "_law_text") [t] h) fun v h' => v = .str (txt t) ∧ Le h h' := by
  intro d
  induction d with
  | zero =>
    intro t hd ht hw k h hk
    obtain ⟨k, rfl⟩ : ∃ j, k = j + 1 := ⟨k - 1, by omega⟩
    refine call_of (σ := [some t, none]) G.law_text rfl rfl ?_
    unfold B__law_text
    rcases tm_cases ht with ⟨s, rfl⟩ | ⟨f, as, rfl, ha⟩
    · sizeOf_list_dec
      exact ⟨by rw [txt], .rfl⟩
    · rw [Val.dep] at hd; omega
  | succ d ih =>
    intro t hd ht hw k h hk
    obtain ⟨k, rfl⟩ : ∃ j, k = j + 1 := ⟨k - 1, by omega⟩
    refine call_of (σ := [some t, none]) G.law_text rfl rfl ?_
    unfold B__law_text
    rcases tm_cases ht with ⟨s, rfl⟩ | ⟨f, as, rfl, ha⟩
    · sizeOf_list_dec
      exact ⟨by rw [txt], .rfl⟩
    · have hl := txt_len _ ht
      sizeOf_list_dec
      cases as with
      | nil =>
        sizeOf_list_dec
        refine ix_tup0 ⟨?_, .rfl⟩
        simp [txt]
      | cons a as =>
        refine ⟨fun h => absurd h (by simp; omega), fun _ => ?_⟩
        rw [txt] at hl
        have hne : (a :: as).isEmpty = false := rfl
        rw [hne] at hl
        simp only [Bool.false_eq_true, if_false, len_app] at hl
        rw [wt, wts] at hl
        sizeOf_list_dec
        refine ix_tup0 ?_
        rw [Val.dep, Val.deps] at hd
        rw [wt, wts] at hw
        sizeOf_list_dec
        refine op_cats (by omega) ?_
        sizeOf_list_dec
        refine ⟨rfl, ?_⟩
        sizeOf_list_dec
        refine wp_map (a :: as) id (fun x => .str (txt x)) ?_
        sizeOf_list_dec
        refine ⟨1, rfl, ?_⟩
        sizeOf_list_dec
        have hws := wts_len (a :: as)
        refine .inl ⟨_, rfl, by rw [cut_tail, List.map_id], by omega, rfl, fun x hx h2 l => ⟨_, rfl, ?_⟩, fun h' l q => ?_⟩
        · sizeOf_list_dec
          have h1 := deps_mem hx
          have h2 := wts_mem hx
          exact ih (by show x.dep ≤ d; omega) (tms_mem ha x hx) (by omega) (by omega)
        · have htl := txts_len (a :: as) ha
          sizeOf_list_dec
          refine mt_join (lstAt_lst q) (strsOf_map txt _) ?_ ?_
          · rw [← txts_map]
            have e2 : (Str.ofString ", ").length = 2 := by decide +kernel
            have e3 : (txts (a :: as)).length = (a :: as).length := by rw [txts_map, List.length_map]
            rw [e2, e3]
            omega
          · rw [← txts_map]
            refine op_cats (by rw [len_app]; omega) ?_
            sizeOf_list_dec
            refine op_cats (by rw [len_app, len_app]; omega) ⟨?_, l⟩
            simp only [txt, hne, Bool.false_eq_true, if_false]
theorem lsize_ok : ∀ (d : Nat) {t : Val}, t.dep ≤ d → tm t = true → wt t ≤ sizeMax → ∀ {k : Nat} {h : Hpe}, d + 2 ≤ k → WP (call P k (Str.ofString "_law_size") [t] h) fun v h' => v = .int (sz t) ∧ Le h h' := by
  intro d
  induction d with
  | zero =>
    intro t hd ht hw k h hk
    obtain ⟨k, rfl⟩ : ∃ j, k = j + 1 := ⟨k - 1, by omega⟩
    refine call_of (σ := [some t, none]) G.law_size rfl rfl ?_
    unfold B__law_size
    rcases tm_cases ht with ⟨s, rfl⟩ | ⟨f, as, rfl, ha⟩
    · sizeOf_list_dec
      exact ⟨by simp [sz], .rfl⟩
    · rw [Val.dep] at hd; omega
  | succ d ih =>
    intro t hd ht hw k h hk
    obtain ⟨k, rfl⟩ : ∃ j, k = j + 1 := ⟨k - 1, by omega⟩
    refine call_of (σ := [some t, none]) G.law_size rfl rfl ?_
    unfold B__law_size
    rcases tm_cases ht with ⟨s, rfl⟩ | ⟨f, as, rfl, ha⟩
    · sizeOf_list_dec
      exact ⟨by simp [sz], .rfl⟩
    · sizeOf_list_dec
      rw [Val.dep, Val.deps] at hd
      rw [wt, wts] at hw
      refine wp_map as id (fun x => .int (sz x)) ?_
      sizeOf_list_dec
      refine ⟨1, rfl, ?_⟩
      sizeOf_list_dec
      have hws := wts_len as
      refine .inl ⟨_, rfl, by rw [cut_tail, List.map_id], by omega, rfl, fun x hx h2 l => ⟨_, rfl, ?_⟩, fun h' l q => ?_⟩
      · sizeOf_list_dec
        have h1 := deps_mem hx
        have h2 := wts_mem hx
        exact ih (by show x.dep ≤ d; omega) (tms_mem ha x hx) (by omega) (by omega)
      · refine bi_sum (lstAt_lst q) (intsOf_map (fun x => (sz x : Int)) _) ?_
        sizeOf_list_dec
        refine ⟨?_, l⟩
        rw [sz, sum_cast, ← szs_sum]
        congr 1
theorem lbefore_ok {a b : Val} {D : Nat} (ha : Part D sizeMax a) (hb : Part D sizeMax b) {k : Nat} {h : Hpe} (hk : D + 3 ≤ k) : WP (call P k (Str.ofString "_law_before") [a, b] h) fun v h' => v = .bl (bef a b) ∧ Le h h' := by
  obtain ⟨k, rfl⟩ : ∃ j, k = j + 1 := ⟨k - 1, by omega⟩
  refine call_of (σ := [some a, some b]) G.law_before rfl rfl ?_
  unfold B__law_before
  sizeOf_list_dec
  refine (lsize_ok G D ha.dep ha.tm ha.wt (by omega)).mono ?_
  rintro _ h1 ⟨rfl, l1⟩
  sizeOf_list_dec
  refine (lsize_ok G D hb.dep hb.tm hb.wt (by omega)).mono ?_
  rintro _ h2 ⟨rfl, l2⟩
  sizeOf_list_dec
  refine ⟨fun hc => ?_, fun hc => ?_⟩
  · have hc : sz a ≠ sz b := by
      intro e
      rw [e] at hc
      simp at hc
    sizeOf_list_dec
    refine (lsize_ok G D ha.dep ha.tm ha.wt (by omega)).mono ?_
    rintro _ h3 ⟨rfl, l3⟩
    sizeOf_list_dec
    refine (lsize_ok G D hb.dep hb.tm hb.wt (by omega)).mono ?_
    rintro _ h4 ⟨rfl, l4⟩
    sizeOf_list_dec
    refine ⟨?_, ((l1.trans l2).trans l3).trans l4⟩
    unfold bef
    rw [if_neg hc]
    congr 1
    exact decide_eq_decide.mpr (by omega)
  · have hc : sz a = sz b := by
      have := of_decide_eq_true (by simpa using hc : decide ((sz a : Int) = (sz b : Int)) = true)
      omega
    sizeOf_list_dec
    refine (ltext_ok G D ha.dep ha.tm ha.wt (by omega)).mono ?_
    rintro _ h3 ⟨rfl, l3⟩
    sizeOf_list_dec
    refine (ltext_ok G D hb.dep hb.tm hb.wt (by omega)).mono ?_
    rintro _ h4 ⟨rfl, l4⟩
    sizeOf_list_dec
    refine ⟨?_, ((l1.trans l2).trans l3).trans l4⟩
    unfold bef
    rw [if_pos hc]
end
end Ev
/-! EvMore: small things that more laws need. -/
namespace Ev
open PySem
theorem Sm.self {h : Hpe} : ∀ (d : Nat) {t : Val}, t.flat = true → t.dep ≤ d → wt t ≤ sizeMax → Sm h d t t := by
  intro d
  induction d with
  | zero =>
    intro t hf hd hw
    cases t with
    | non => exact .non
    | bl b => exact .bl b
    | int i => exact .int i
    | str s => exact .str s
    | ref n => simp [Val.flat] at hf
    | tup xs => rw [Val.dep] at hd; omega
  | succ d ih =>
    intro t hf hd hw
    cases t with
    | non => exact .non
    | bl b => exact .bl b
    | int i => exact .int i
    | str s => exact .str s
    | ref n => simp [Val.flat] at hf
    | tup xs =>
      rw [Val.dep] at hd
      rw [wt] at hw
      rw [Val.flat] at hf
      have hl := wts_len xs
      refine .tup rfl (by omega) fun i x y h1 h2 => ?_
      rw [h1] at h2
      cases h2
      have hm := List.mem_of_getElem? h1
      have fl : ∀ {xs : List Val}, Val.flats xs = true → ∀ x ∈ xs, x.flat = true := by
        intro xs
        induction xs with
        | nil => intro _ x hx; simp at hx
        | cons y ys ih =>
          intro h x hx
          rw [Val.flats, Bool.and_eq_true] at h
          rcases List.mem_cons.mp hx with rfl | hx
          · exact h.1
          · exact ih h.2 x hx
      have h3 := deps_mem hm
      have h4 := wts_mem hm
      exact ih (fl hf x hm) (by omega) (by omega)
/-- two lists of the same terms -/
theorem Sm.lists {h : Hpe} {m n D : Nat} {xs : List Val} (hm : h[m]? = some (.lst xs)) (hn : h[n]? = some (.lst xs)) (hz : xs.length ≤ sizeMax) (hp : ∀ x ∈ xs, Part D sizeMax x) : Sm h (D + 1) (.ref m) (.ref n) :=
  .lst hm hn rfl hz fun i x y h1 h2 => by
    rw [h1] at h2
    cases h2
    have := hp x (List.mem_of_getElem? h1)
    exact Sm.self D (tm_flat _ this.tm) this.dep this.wt
/-- a list comprehension, turn by turn -/
theorem wp_lcI {R : Rc} {σ : En} {h : Hpe} {Q : Val → Hpe → Prop} {elt : E} {tg : Tg} {it : I} {own : List Nat} (J : Hpe → Nat → List Val → Hpe → Prop)
    (w : WP (evi R it σ h) fun s h1 => J h1 0 [] (h1 ++ [.lst []]) ∧ (∀ i acc h, J h1 i acc h → s.stays h = true) ∧
      (∀ i x acc h2, s.items[i]? = some x → J h1 i acc h2 → ∃ σ2, store tg x (wipeE σ own) = some σ2 ∧ WP (ev R elt σ2 h2) fun v h3 => h3[h1.length]? = some (.lst acc) ∧ acc.length < sizeMax ∧ J h1 (i + 1) (acc ++ [v]) (h3.set h1.length (.lst (acc ++ [v])))) ∧
      ∀ acc h', J h1 s.items.length acc h' → Q (.ref h1.length) h') : WP (ev R (.lc elt tg it .tt own) σ h) Q := by
  simp only [ev]
  refine WP.bind (w.mono fun s h1 ⟨h0, hs, hstep, hend⟩ => ?_)
  refine WP.bind (lcL_rule (D := h1.length) (J h1) s.items 0 h0 hs (fun i x acc h2 hx hI => ?_) fun acc h' hI => ?_)
  · rw [Nat.zero_add] at hI ⊢
    obtain ⟨σ2, e1, w2⟩ := hstep i x acc h2 hx hI
    simp only [lcStep, e1]
    refine WP.bind (wpt_tt ?_)
    simp only [if_true]
    exact WP.bind (w2.mono fun v h3 q => WP.ok q)
  · rw [Nat.zero_add] at hI
    exact WP.ok (hend acc h' hI)
mutual
theorem clean_tm {U : Str → Bool} : ∀ t : Val, clean U t = true → tm t = true
  | .str _, _ => by simp [tm]
  | .tup [], h => by simp [clean] at h
  | .tup (.str f :: as), h => by
    rw [clean, Bool.and_eq_true] at h
    rw [tm]
    exact cleans_tms as h.2
  | .tup (.non :: _), h | .tup (.bl _ :: _), h | .tup (.int _ :: _), h | .tup (.tup _ :: _), h | .tup (.ref _ :: _), h => by simp [clean] at h
  | .non, h | .bl _, h | .int _, h | .ref _, h => by simp [clean] at h
theorem cleans_tms {U : Str → Bool} : ∀ t : List Val, cleans U t = true → tms t = true
  | [], _ => rfl
  | x :: xs, h => by
    rw [cleans, Bool.and_eq_true] at h
    rw [tms, clean_tm x h.1, cleans_tms xs h.2]
    rfl
end
theorem dicAt_dic {h : Hpe} {n : Nat} {kvs : List (Val × Val)} (e : h[n]? = some (.dic kvs)) : dicAt h n = some kvs := by simp only [dicAt, e]
theorem mt_get1 {h : Hpe} {Q : Val → Hpe → Prop} {n : Nat} {kvs : List (Val × Val)} {k : Str} (e : dicAt h n = some kvs) (q : Q ((lookD kvs (.str k)).getD .non) h) : WP (method .get (.ref n) [.str k] h) Q := by
  simp only [method, e]
  exact WP.ok q
/-- a list or a tuple that holds just these -/
def Held (h : Hpe) (v : Val) (xs : List Val) : Prop := v = .tup xs ∨ ∃ n, v = .ref n ∧ h[n]? = some (.lst xs)
theorem Held.le {h h' : Hpe} {v : Val} {xs : List Val} (l : Le h h') (e : Held h v xs) : Held h' v xs := by
  rcases e with e | ⟨n, e, k⟩
  · exact .inl e
  · exact .inr ⟨n, e, l _ _ k⟩
theorem Held.seq {h : Hpe} {v : Val} {xs : List Val} {A : List Val → Prop} {B : Nat → List Val → Prop} (e : Held h v xs) (q1 : v = .tup xs → A xs) (q2 : ∀ n, v = .ref n → h[n]? = some (.lst xs) → B n xs) :
    (∃ ys, v = .tup ys ∧ A ys) ∨ ∃ n ys, v = .ref n ∧ lstAt h n = some ys ∧ B n ys := by
  rcases e with rfl | ⟨n, rfl, k⟩
  · exact .inl ⟨_, rfl, q1 rfl⟩
  · exact .inr ⟨n, _, rfl, lstAt_lst k, q2 n rfl k⟩
/-- walking a list or a tuple: it stays if it still holds these -/
theorem wpi_held {R : Rc} {σ : En} {h : Hpe} {QI : Src → Hpe → Prop} {e : E} (w : WP (ev R e σ h) fun x h1 => ∃ xs, Held h1 x xs ∧ ∀ a : At, (∀ h', Held h' x xs → Src.stays ⟨xs, a⟩ h' = true) → QI ⟨xs, a⟩ h1) : WP (evi R (.seq e) σ h) QI := by
  refine wpi_seq (w.mono fun x h1 ⟨xs, e, q⟩ => ?_)
  refine e.seq (fun _ => q _ fun _ _ => rfl) fun n hn k => q _ fun h' e => ?_
  rcases e with e | ⟨m, e, k2⟩
  · rw [hn] at e; cases e
  · rw [hn] at e; cases e
    exact decide_eq_true (lstAt_lst k2)
theorem dictOf_map {α : Type} (kf : α → Str) (vf : α → Val) : ∀ {xs : List α}, (xs.map kf).Nodup → dictOf kf vf xs = xs.map fun x => (Val.str (kf x), vf x) := by
  intro xs
  have step : ∀ i, i ≤ xs.length → (xs.map kf).Nodup → dictOf kf vf (xs.take i) = (xs.take i).map fun x => (Val.str (kf x), vf x) := by
    intro i
    induction i with
    | zero => intro _ _; rfl
    | succ i ih =>
      intro hi hn
      have hlt : i < xs.length := by omega
      have hx : xs[i]? = some xs[i] := List.getElem?_eq_getElem hlt
      rw [dictOf_take kf vf xs i hx, ih (by omega) hn]
      rw [putD_new kf vf (ys := xs.take i) (x := xs[i])]
      · rw [List.take_add_one, hx]
        rfl
      · intro y hy e
        obtain ⟨j, hj, ej⟩ := List.mem_iff_getElem.mp hy
        rw [List.getElem_take] at ej
        rw [List.length_take] at hj
        have := List.pairwise_iff_getElem.mp hn j i (by rw [List.length_map]; omega) (by rw [List.length_map]; omega) (by omega)
        simp only [List.getElem_map] at this
        exact this (by rw [ej]; exact e)
  intro hn
  have := step xs.length (Nat.le_refl _) hn
  rwa [List.take_length] at this
end Ev
/-! K01Sen: ground sentences as plain data; their basics and facts. -/
namespace Ev
open PySem
/-- children(sentence): sentence -/
def B_children : Ss := .cons (.ifs (.cmp .eq (.ix (.var 0) (.con (.int 0))) (.con (.str "not"))) (.cons (.ret (.tup (.cons (.ix (.var 0) (.con (.int 1))) .nil))) .nil) (.nil)) (.cons (.ifs (.cmp .inn (.ix (.var 0) (.con (.int 0))) (.glb "PAIRS")) (.cons (.ret (.tup (.cons (.ix (.var 0) (.con (.int 1))) (.cons (.ix (.var 0) (.con (.int 2))) .nil)))) .nil) (.nil)) (.cons (.ifs (.cmp .inn (.ix (.var 0) (.con (.int 0))) (.glb "BINDERS")) (.cons (.ret (.tup (.cons (.ix (.var 0) (.con (.int 2))) .nil))) .nil) (.nil)) (.cons (.ret (.tup (.nil))) .nil)))
/-- basics_in(sentence): sentence, found, part -/
def B_basics_in : Ss := .cons (.ifs (.cmp .inn (.ix (.var 0) (.con (.int 0))) (.tup (.cons (.con (.str "holds")) (.cons (.con (.str "same")) .nil)))) (.cons (.ret (.lst (.cons (.var 0) .nil))) .nil) (.nil)) (.cons (.set 1 (.lst (.nil))) (.cons (.fors (.nm 2) (.seq (.call "children" (.cons (.var 0) .nil))) (.cons (.expr (.mth .extend (.var 1) (.cons (.call "basics_in" (.cons (.var 2) .nil)) .nil))) .nil)) (.cons (.ret (.var 1)) .nil)))
/-- make_fact(basic): basic -/
def B_make_fact : Ss := .cons (.ifs (.and (.cmp .eq (.ix (.var 0) (.con (.int 0))) (.con (.str "same"))) (.one (.cmp .lt (.call "term_key" (.cons (.ix (.var 0) (.con (.int 2))) .nil)) (.call "term_key" (.cons (.ix (.var 0) (.con (.int 1))) .nil))))) (.cons (.ret (.tup (.cons (.con (.str "same")) (.cons (.ix (.var 0) (.con (.int 2))) (.cons (.ix (.var 0) (.con (.int 1))) .nil))))) .nil) (.nil)) (.cons (.ret (.var 0)) .nil)
/-- fact_text(fact): fact -/
def B_fact_text : Ss := .cons (.ifs (.cmp .eq (.ix (.var 0) (.con (.int 0))) (.con (.str "holds"))) (.cons (.ret (.call "term_text" (.cons (.ix (.var 0) (.con (.int 1))) .nil))) .nil) (.nil)) (.cons (.ret (.bin .add (.bin .add (.call "term_text" (.cons (.ix (.var 0) (.con (.int 1))) .nil)) (.con (.str " = "))) (.call "term_text" (.cons (.ix (.var 0) (.con (.int 2))) .nil)))) .nil)
/-- is_plain_sameness(basic): basic -/
def B_is_plain_sameness : Ss := .cons (.ret (.andv (.cmp .eq (.ix (.var 0) (.con (.int 0))) (.con (.str "same"))) (.one (.cmp .eq (.ix (.var 0) (.con (.int 1))) (.ix (.var 0) (.con (.int 2))))))) .nil
/-- _law_basics(sentence): sentence, row, part -/
def B__law_basics : Ss := .cons (.ifs (.cmp .inn (.ix (.var 0) (.con (.int 0))) (.tup (.cons (.con (.str "holds")) (.cons (.con (.str "same")) .nil)))) (.cons (.ret (.lst (.cons (.var 0) .nil))) .nil) (.nil)) (.cons (.set 1 (.lst (.nil))) (.cons (.fors (.nm 2) (.seq (.sl (.var 0) (.yes (.con (.int 1))) .no)) (.cons (.set 1 (.bin .add (.var 1) (.call "_law_basics" (.cons (.var 2) .nil)))) .nil)) (.cons (.ret (.var 1)) .nil)))
/-- _law_fact(basic): basic -/
def B__law_fact : Ss := .cons (.ifs (.and (.cmp .eq (.ix (.var 0) (.con (.int 0))) (.con (.str "same"))) (.one (.val (.call "_law_before" (.cons (.ix (.var 0) (.con (.int 2))) (.cons (.ix (.var 0) (.con (.int 1))) .nil)))))) (.cons (.ret (.tup (.cons (.con (.str "same")) (.cons (.ix (.var 0) (.con (.int 2))) (.cons (.ix (.var 0) (.con (.int 1))) .nil))))) .nil) (.nil)) (.cons (.ret (.var 0)) .nil)
/-- the program has these defs -/
structure SentP (P : Prog) : Prop where
  children : P.fn (Str.ofString "children") = some ⟨1, 1, B_children⟩
  basics_in : P.fn (Str.ofString "basics_in") = some ⟨1, 3, B_basics_in⟩
  make_fact : P.fn (Str.ofString "make_fact") = some ⟨1, 1, B_make_fact⟩
  fact_text : P.fn (Str.ofString "fact_text") = some ⟨1, 1, B_fact_text⟩
  is_plain_sameness : P.fn (Str.ofString "is_plain_sameness") = some ⟨1, 1, B_is_plain_sameness⟩
  law_basics : P.fn (Str.ofString "_law_basics") = some ⟨1, 3, B__law_basics⟩
  law_fact : P.fn (Str.ofString "_law_fact") = some ⟨1, 1, B__law_fact⟩
inductive Wd where
  | and | or | imp | iff
  deriving DecidableEq
def Wd.str : Wd → Str
  | .and => Str.ofString "and"
  | .or => Str.ofString "or"
  | .imp => Str.ofString "implies"
  | .iff => Str.ofString "iff"
/-- ground sentences -/
inductive Sen where
  | tt | ff | hold (a : Val) | same (a b : Val) | not (s : Sen) | bin (w : Wd) (s t : Sen)
def Sen.val : Sen → Val
  | .tt => .tup [.str (Str.ofString "true")]
  | .ff => .tup [.str (Str.ofString "false")]
  | .hold a => .tup [.str (Str.ofString "holds"), a]
  | .same a b => .tup [.str (Str.ofString "same"), a, b]
  | .not s => .tup [.str (Str.ofString "not"), s.val]
  | .bin w s t => .tup [.str w.str, s.val, t.val]
/-- how deep the words go -/
def Sen.ht : Sen → Nat
  | .not s => s.ht + 1
  | .bin _ s t => max s.ht t.ht + 1
  | _ => 0
def Sen.cnt : Sen → Nat
  | .not s => s.cnt
  | .bin _ s t => s.cnt + t.cnt
  | _ => 1
def Sen.basics : Sen → List Sen
  | .tt => []
  | .ff => []
  | .hold a => [.hold a]
  | .same a b => [.same a b]
  | .not s => s.basics
  | .bin _ s t => s.basics ++ t.basics
theorem basics_len : ∀ s : Sen, s.basics.length ≤ s.cnt
  | .tt | .ff | .hold _ | .same _ _ => by simp [Sen.basics, Sen.cnt]
  | .not s => basics_len s
  | .bin w s t => by
    have h1 := basics_len s
    have h2 := basics_len t
    rw [Sen.basics, Sen.cnt, List.length_append]
    omega
def Sen.kids : Sen → List Sen
  | .not s => [s]
  | .bin _ s t => [s, t]
  | _ => []
def Sen.atom : Sen → Bool
  | .hold _ => true
  | .same _ _ => true
  | _ => false
theorem kids_basics {s : Sen} (h : s.atom = false) : s.basics = (s.kids.map Sen.basics).flatten := by
  cases s <;> simp [Sen.atom, Sen.basics, Sen.kids] at *
theorem kids_ht {s x : Sen} (h : x ∈ s.kids) : x.ht < s.ht := by
  cases s <;> simp [Sen.kids] at h
  · subst h; rw [Sen.ht]; omega
  · rw [Sen.ht]; rcases h with rfl | rfl <;> omega
theorem kids_cnt {s x : Sen} (h : x ∈ s.kids) : x.cnt ≤ s.cnt := by
  cases s <;> simp [Sen.kids] at h
  · subst h; rw [Sen.cnt]; exact Nat.le_refl _
  · rw [Sen.cnt]; rcases h with rfl | rfl <;> omega
theorem kids_part {s x : Sen} {i : Nat} (h : s.kids[i]? = some x) : ((s.kids.take i).map Sen.basics).flatten.length + x.basics.length ≤ s.cnt := by
  cases s with
  | not t =>
    simp only [Sen.kids] at h ⊢
    have h1 := basics_len t
    cases i with
    | zero => cases h; simp [Sen.cnt]; omega
    | succ i => simp at h
  | bin w a b =>
    simp only [Sen.kids] at h ⊢
    have h1 := basics_len a
    have h2 := basics_len b
    cases i with
    | zero => cases h; simp [Sen.cnt]; omega
    | succ i => cases i with
      | zero => cases h; simp [Sen.cnt]; omega
      | succ i => simp at h
  | _ => simp [Sen.kids] at h
theorem take_flat {α β : Type} (f : α → List β) (xs : List α) (i : Nat) {x : α} (h : xs[i]? = some x) : ((xs.take (i + 1)).map f).flatten = ((xs.take i).map f).flatten ++ f x := by
  rw [List.take_add_one, h, List.map_append, List.flatten_append]
  simp
theorem val_head {s : Sen} (h : s.atom = false) : ∃ w r, s.val = .tup (.str w :: r) ∧ w ∉ [Str.ofString "holds", Str.ofString "same"] ∧ r = s.kids.map Sen.val := by
  cases s with
  | tt => exact ⟨Str.ofString "true", [], by rw [Sen.val], by decide +kernel, rfl⟩
  | ff => exact ⟨Str.ofString "false", [], by rw [Sen.val], by decide +kernel, rfl⟩
  | not t => exact ⟨Str.ofString "not", [t.val], by rw [Sen.val], by decide +kernel, rfl⟩
  | bin w a b => exact ⟨w.str, [a.val, b.val], by rw [Sen.val], by cases w <;> decide +kernel, rfl⟩
  | _ => simp [Sen.atom] at h
section
variable {P : Prog} (S : SentP P) (hp : P.con (Str.ofString "PAIRS") = some (.tup ([Str.ofString "and", Str.ofString "or", Str.ofString "implies", Str.ofString "iff"].map Val.str))) (hb : P.con (Str.ofString "BINDERS") = some (.tup ([Str.ofString "all", Str.ofString "some"].map Val.str)))
include S hp hb
theorem children_ok {s : Sen} {k : Nat} {h : Hpe} (hk : 1 ≤ k) : WP (call P k (Str.ofString "children") [s.val] h) fun v h' => v = .tup (s.kids.map Sen.val) ∧ h' = h := by
  obtain ⟨k, rfl⟩ : ∃ j, k = j + 1 := ⟨k - 1, by omega⟩
  refine call_of (σ := [some s.val]) S.children rfl rfl ?_
  unfold B_children
  cases s with
  | tt => unfold Sen.val; array_mem_dec; exact ⟨rfl, rfl⟩
  | ff => unfold Sen.val; array_mem_dec; exact ⟨rfl, rfl⟩
  | hold a => unfold Sen.val; array_mem_dec; exact ⟨rfl, rfl⟩
  | same a b => unfold Sen.val; array_mem_dec; exact ⟨rfl, rfl⟩
  | not s => rw [Sen.val]; array_mem_dec; exact ⟨rfl, rfl⟩
  | bin w s t => rw [Sen.val]; cases w <;> (unfold Wd.str; array_mem_dec; exact ⟨rfl, rfl⟩)
theorem basics_in_ok : ∀ (d : Nat) {s : Sen}, s.ht ≤ d → s.cnt ≤ sizeMax → ∀ {k : Nat} {h : Hpe}, d + 2 ≤ k → WP (call P k (Str.ofString "basics_in") [s.val] h) fun v h' => ∃ n, v = .ref n ∧ h.length ≤ n ∧ Le h h' ∧ h'[n]? = some (.lst (s.basics.map Sen.val)) := by
  intro d
  induction d using Nat.strongRecOn with
  | _ d ih =>
  intro s hd hc k h hk
  obtain ⟨k, rfl⟩ : ∃ j, k = j + 1 := ⟨k - 1, by omega⟩
  refine call_of (σ := [some s.val, none, none]) S.basics_in rfl rfl ?_
  unfold B_basics_in
  cases ha : s.atom with
  | true =>
    cases s with
    | hold a => unfold Sen.val; array_mem_dec; exact ⟨_, rfl, Nat.le_refl _, Le.push _ _, at_push _ _⟩
    | same a b => unfold Sen.val; array_mem_dec; exact ⟨_, rfl, Nat.le_refl _, Le.push _ _, at_push _ _⟩
    | _ => simp [Sen.atom] at ha
  | false =>
    obtain ⟨w, r, ev, hw, _⟩ := val_head ha
    array_mem_dec
    rw [ev]
    array_mem_dec
    refine ⟨fun h => absurd h (by simpa using hw), fun _ => ?_⟩
    array_mem_dec
    rw [← ev]
    refine (children_ok S hp hb (by omega)).mono ?_
    rintro _ _ ⟨rfl, rfl⟩
    refine .inl ⟨_, rfl, ?_⟩
    refine forL_rule (fun i σ h2 => i ≤ s.kids.length ∧ ∃ c2, σ = [some s.val, some (.ref h.length), c2] ∧ Le h h2 ∧ h2[h.length]? = some (.lst ((((s.kids.take i).map Sen.basics).flatten).map Sen.val))) (s.kids.map Sen.val) 0
      ⟨Nat.zero_le _, none, rfl, Le.push _ _, at_push _ _⟩ (fun _ _ _ _ => rfl) ?_ ?_
    · rintro i x σ h2 hx ⟨hi, c2, rfl, l, hr⟩
      rw [Nat.zero_add] at hr ⊢
      rw [List.getElem?_map] at hx
      obtain ⟨y, hy, rfl⟩ := Option.map_eq_some_iff.mp hx
      have hym := List.mem_of_getElem? hy
      have hlt := (List.getElem?_eq_some_iff.mp hy).1
      have h1 := kids_ht hym
      have h3 := kids_cnt hym
      have h4 := kids_part hy
      refine ⟨_, rfl, ?_⟩
      array_mem_dec
      refine ⟨rc_lst (by decide) (by decide) hr, ?_⟩
      array_mem_dec
      refine (ih y.ht (by omega) (Nat.le_refl _) (by omega) (by omega)).mono ?_
      rintro _ h5 ⟨n, rfl, hn, l5, e5⟩
      array_mem_dec
      refine mt_ext (l5 _ _ hr) e5 (by rw [List.length_map, List.length_map]; omega) ?_
      array_mem_dec
      refine ⟨by omega, _, rfl, (l.trans l5).set (Nat.le_refl _) _, ?_⟩
      rw [at_set (l5 _ _ hr), take_flat _ _ _ hy, List.map_append]
    · rintro σ h2 ⟨hi, c2, rfl, l, hr⟩
      array_mem_dec
      refine ⟨_, rfl, Nat.le_refl _, l, ?_⟩
      rw [hr, List.length_map, Nat.zero_add, List.take_length, kids_basics ha]
omit hp hb in
theorem lbasics_ok : ∀ (d : Nat) {s : Sen}, s.ht ≤ d → s.cnt ≤ sizeMax → ∀ {k : Nat} {h : Hpe}, d + 2 ≤ k → WP (call P k (Str.ofString "_law_basics") [s.val] h) fun v h' => ∃ n, v = .ref n ∧ h.length ≤ n ∧ Le h h' ∧ h'[n]? = some (.lst (s.basics.map Sen.val)) := by
  intro d
  induction d using Nat.strongRecOn with
  | _ d ih =>
  intro s hd hc k h hk
  obtain ⟨k, rfl⟩ : ∃ j, k = j + 1 := ⟨k - 1, by omega⟩
  refine call_of (σ := [some s.val, none, none]) S.law_basics rfl rfl ?_
  unfold B__law_basics
  cases ha : s.atom with
  | true =>
    cases s with
    | hold a => unfold Sen.val; array_mem_dec; exact ⟨_, rfl, Nat.le_refl _, Le.push _ _, at_push _ _⟩
    | same a b => unfold Sen.val; array_mem_dec; exact ⟨_, rfl, Nat.le_refl _, Le.push _ _, at_push _ _⟩
    | _ => simp [Sen.atom] at ha
  | false =>
    obtain ⟨w, r, ev, hw, er⟩ := val_head ha
    array_mem_dec
    rw [ev]
    array_mem_dec
    refine ⟨fun h => absurd h (by simpa using hw), fun _ => ?_⟩
    array_mem_dec
    refine ⟨1, rfl, ?_⟩
    array_mem_dec
    refine .inl ⟨_, rfl, ?_⟩
    rw [cut_tail, er]
    refine forL_rule (fun i σ h2 => i ≤ s.kids.length ∧ ∃ m c2, σ = [some (.tup (.str w :: s.kids.map Sen.val)), some (.ref m), c2] ∧ h.length ≤ m ∧ Le h h2 ∧ h2[m]? = some (.lst ((((s.kids.take i).map Sen.basics).flatten).map Sen.val))) (s.kids.map Sen.val) 0
      ⟨Nat.zero_le _, h.length, none, rfl, Nat.le_refl _, Le.push _ _, at_push _ _⟩ (fun _ _ _ _ => rfl) ?_ ?_
    · rintro i x σ h2 hx ⟨hi, m, c2, rfl, hm, l, hr⟩
      rw [Nat.zero_add] at hr ⊢
      rw [List.getElem?_map] at hx
      obtain ⟨y, hy, rfl⟩ := Option.map_eq_some_iff.mp hx
      have hym := List.mem_of_getElem? hy
      have hlt := (List.getElem?_eq_some_iff.mp hy).1
      have h1 := kids_ht hym
      have h3 := kids_cnt hym
      have h4 := kids_part hy
      refine ⟨_, rfl, ?_⟩
      array_mem_dec
      refine (ih y.ht (by omega) (Nat.le_refl _) (by omega) (by omega)).mono ?_
      rintro _ h5 ⟨n, rfl, hn, l5, e5⟩
      array_mem_dec
      refine op_catl (l5 _ _ hr) e5 (by rw [List.length_map, List.length_map]; omega) ?_
      array_mem_dec
      refine ⟨by omega, _, _, rfl, (l.trans l5).len, (l.trans l5).trans (Le.push _ _), ?_⟩
      rw [at_push, take_flat _ _ _ hy, List.map_append]
    · rintro σ h2 ⟨hi, m, c2, rfl, hm, l, hr⟩
      array_mem_dec
      refine ⟨_, rfl, hm, l, ?_⟩
      rw [hr, List.length_map, Nat.zero_add, List.take_length, kids_basics ha]
end
/-! ### facts -/
/-- the lesser side first -/
def Sen.fact : Sen → Sen
  | .same a b => if bef b a then .same b a else .same a b
  | s => s
def Sen.plain : Sen → Bool
  | .same a b => decide (a = b)
  | _ => false
/-- a basic of clean terms -/
def Sen.Ok (D : Nat) : Sen → Prop
  | .hold a => Part D sizeMax a ∧ 2 * Ev.wt a ≤ 1000000
  | .same a b => Part D sizeMax a ∧ Part D sizeMax b ∧ Ev.wt a + Ev.wt b ≤ 1000000
  | _ => False
section
variable {P : Prog} (S : SentP P) (T : Term0 P) (G : LawT P)
theorem dataLt_tkey (a b : Val) : PySem.W.dataLt (tkey a).toD (tkey b).toD = bef a b := by rw [bef_lex]; rfl
include S T in
theorem make_fact_ok {s : Sen} {D : Nat} (hs : s.Ok D) (hD : D ≤ 90) {k : Nat} {h : Hpe} (hk : D + 4 ≤ k) : WP (call P k (Str.ofString "make_fact") [s.val] h) fun v h' => v = s.fact.val ∧ Le h h' := by
  obtain ⟨k, rfl⟩ : ∃ j, k = j + 1 := ⟨k - 1, by omega⟩
  refine call_of (σ := [some s.val]) S.make_fact rfl rfl ?_
  unfold B_make_fact
  cases s with
  | hold a => unfold Sen.val; array_mem_dec; exact ⟨rfl, .rfl⟩
  | same a b =>
    rw [Sen.val]
    array_mem_dec
    refine (key_ok T hs.2.1 (by omega)).mono ?_
    rintro _ h1 ⟨rfl, l1⟩
    array_mem_dec
    refine (key_ok T hs.1 (by omega)).mono ?_
    rintro _ h2 ⟨rfl, l2⟩
    have hlt : WP (cmpop .lt (tkey b) (tkey a) h2) fun r h3 => r = bef b a ∧ h3 = h2 := by
      have : cmpop .lt (tkey b) (tkey a) h2 = .ok (bef b a) h2 := by
        rw [← dataLt_tkey]
        rfl
      rw [this]
      exact WP.ok ⟨rfl, rfl⟩
    refine WP.mono hlt ?_
    rintro _ _ ⟨rfl, rfl⟩
    rw [Sen.fact]
    refine ⟨fun hc => ?_, fun hc => ?_⟩
    · rw [if_pos hc]
      array_mem_dec
      exact ⟨by rw [Sen.val], l1.trans l2⟩
    · rw [if_neg (by rw [hc]; simp)]
      array_mem_dec
      exact ⟨by rw [Sen.val], l1.trans l2⟩
  | _ => exact hs.elim
include S G in
theorem lfact_ok {s : Sen} {D : Nat} (hs : s.Ok D) (hD : D ≤ 90) {k : Nat} {h : Hpe} (hk : D + 4 ≤ k) : WP (call P k (Str.ofString "_law_fact") [s.val] h) fun v h' => v = s.fact.val ∧ Le h h' := by
  obtain ⟨k, rfl⟩ : ∃ j, k = j + 1 := ⟨k - 1, by omega⟩
  refine call_of (σ := [some s.val]) S.law_fact rfl rfl ?_
  unfold B__law_fact
  cases s with
  | hold a => unfold Sen.val; array_mem_dec; exact ⟨rfl, .rfl⟩
  | same a b =>
    rw [Sen.val]
    array_mem_dec
    refine (lbefore_ok G hs.2.1 hs.1 (by omega)).mono ?_
    rintro _ h1 ⟨rfl, l1⟩
    array_mem_dec
    rw [Sen.fact]
    refine ⟨fun hc => ?_, fun hc => ?_⟩
    · rw [if_pos hc]
      array_mem_dec
      exact ⟨by rw [Sen.val], l1⟩
    · rw [if_neg (by rw [hc]; simp)]
      array_mem_dec
      exact ⟨by rw [Sen.val], l1⟩
  | _ => exact hs.elim
/-- a fact's text -/
def Sen.ftxt : Sen → Str
  | .hold a => txt a
  | .same a b => txt a ++ Str.ofString " = " ++ txt b
  | _ => Str.ofString ""
theorem eq3 : (Str.ofString " = ").length = 3 := by decide +kernel
include S T in
theorem ftxt_ok {s : Sen} {D : Nat} (hs : s.Ok D) {k : Nat} {h : Hpe} (hk : D + 3 ≤ k) : WP (call P k (Str.ofString "fact_text") [s.val] h) fun v h' => v = .str s.ftxt ∧ Le h h' := by
  obtain ⟨k, rfl⟩ : ∃ j, k = j + 1 := ⟨k - 1, by omega⟩
  refine call_of (σ := [some s.val]) S.fact_text rfl rfl ?_
  unfold B_fact_text
  have hM : sizeMax = 16777216 := rfl
  cases s with
  | hold a =>
    unfold Sen.val
    array_mem_dec
    exact text_ok T D hs.1.dep hs.1.tm hs.1.wt (by omega)
  | same a b =>
    rw [Sen.val]
    have ha := txt_len a hs.1.tm
    have hb := txt_len b hs.2.1.tm
    have hw := hs.2.2
    have e3 := eq3
    array_mem_dec
    refine (text_ok T D hs.1.dep hs.1.tm hs.1.wt (by omega)).mono ?_
    rintro _ h1 ⟨rfl, l1⟩
    array_mem_dec
    refine op_cats (by omega) ?_
    array_mem_dec
    refine (text_ok T D hs.2.1.dep hs.2.1.tm hs.2.1.wt (by omega)).mono ?_
    rintro _ h2 ⟨rfl, l2⟩
    exact op_cats (by rw [len_app]; omega) ⟨by rw [Sen.ftxt], l1.trans l2⟩
  | _ => exact hs.elim
include S in
theorem plain_ok {s : Sen} {D : Nat} (hs : s.Ok D) (hD : D ≤ 90) {k : Nat} {h : Hpe} (hk : 1 ≤ k) : WP (call P k (Str.ofString "is_plain_sameness") [s.val] h) fun v h' => v = .bl s.plain ∧ h' = h := by
  obtain ⟨k, rfl⟩ : ∃ j, k = j + 1 := ⟨k - 1, by omega⟩
  refine call_of (σ := [some s.val]) S.is_plain_sameness rfl rfl ?_
  unfold B_is_plain_sameness
  cases s with
  | hold a => unfold Sen.val; array_mem_dec; exact ⟨rfl, rfl⟩
  | same a b =>
    rw [Sen.val]
    array_mem_dec
    have : cmpop .eq a b h = .ok (decide (a = b)) h := by
      simp only [cmpop]
      rw [if_pos (canEq_tm hs.1.tm hs.2.1.tm (by have := hs.1.dep; omega)), eqv_flat a b hs.1.tm hs.2.1.tm]
    refine WP.of_eq this ⟨by rw [Sen.plain], rfl⟩
  | _ => exact hs.elim
end
end Ev
/-! K01Fact: texts tell facts apart. -/
namespace Ev
open PySem
/-- a fact's text, by its value -/
def ftv : Val → Str
  | .tup [.str _, a] => txt a
  | .tup [.str _, a, b] => txt a ++ Str.ofString " = " ++ txt b
  | _ => Str.ofString ""
theorem ftv_val {s : Sen} (h : s.atom = true) : ftv s.val = s.ftxt := by
  cases s <;> first | (simp [Sen.atom] at h; done) | rfl
/-- basics of clean terms -/
def Sen.Cl (U : Str → Bool) : Sen → Prop
  | .hold a => clean U a = true
  | .same a b => clean U a = true ∧ clean U b = true
  | _ => False
theorem cps3 : (Str.ofString " = ").cps.toList = [32, 61, 32] := by decide +kernel
theorem ftxt_inj {U : Str → Bool} {s t : Sen} (hs : s.Cl U) (ht : t.Cl U) (e : s.ftxt = t.ftxt) : s = t := by
  have e' : s.ftxt.cps.toList = t.ftxt.cps.toList := by rw [e]
  have n0 : ∀ (c : Nat) (t : List Nat), ([] : List Nat) = c :: t → c = 41 ∨ c = 44 ∨ c = 32 := fun c t z => nomatch z
  have n32 : ∀ (u : List Nat) (c : Nat) (t : List Nat), 32 :: u = c :: t → c = 41 ∨ c = 44 ∨ c = 32 := fun u c t z => .inr (.inr (List.cons.inj z).1.symm)
  cases s with
  | hold a =>
    cases t with
    | hold b => rw [txt_inj hs ht e]
    | same b c =>
      rw [Sen.ftxt, Sen.ftxt, cps_app, cps_app, cps3, List.append_assoc] at e'
      obtain ⟨_, z⟩ := cds_inj (U := U) a.dep (r := []) (s := 32 :: ([61, 32] ++ (txt c).cps.toList)) (Nat.le_refl _) hs ht.1 n0 (n32 _) (by rw [List.append_nil]; exact e')
      cases z
    | _ => exact ht.elim
  | same a a2 =>
    cases t with
    | hold b =>
      rw [Sen.ftxt, Sen.ftxt, cps_app, cps_app, cps3, List.append_assoc] at e'
      obtain ⟨_, z⟩ := cds_inj (U := U) a.dep (r := 32 :: ([61, 32] ++ (txt a2).cps.toList)) (s := []) (Nat.le_refl _) hs.1 ht (n32 _) n0 (by rw [List.append_nil]; exact e')
      cases z
    | same b c =>
      rw [Sen.ftxt, Sen.ftxt, cps_app, cps_app, cps_app, cps_app, cps3, List.append_assoc, List.append_assoc] at e'
      obtain ⟨e1, z⟩ := cds_inj (U := U) a.dep (r := 32 :: ([61, 32] ++ (txt a2).cps.toList)) (s := 32 :: ([61, 32] ++ (txt c).cps.toList)) (Nat.le_refl _) hs.1 ht.1 (n32 _) (n32 _) (by simpa [cds] using e')
      have z2 : (txt a2).cps.toList = (txt c).cps.toList := by simpa using z
      rw [e1, txt_inj hs.2 ht.2 (str_ext z2)]
    | _ => exact ht.elim
  | _ => exact hs.elim
end Ev
/-! K01Ans: facts of sentences, answers, what they settle. -/
namespace Ev
open PySem
/-- facts_in(sentence): sentence, table, basic, fact, text -/
def B_facts_in : Ss := .cons (.set 1 (.dct0)) (.cons (.fors (.nm 2) (.seq (.call "basics_in" (.cons (.var 0) .nil))) (.cons (.ifs (.not (.val (.call "is_plain_sameness" (.cons (.var 2) .nil)))) (.cons (.set 3 (.call "make_fact" (.cons (.var 2) .nil))) (.cons (.expr (.setd (.var 1) (.call "fact_text" (.cons (.var 3) .nil)) (.var 3))) .nil)) (.nil)) .nil)) (.cons (.ret (.lock 1 (.lc (.ix (.var 1) (.var 4)) (.nm 4) (.dky (.var 1)) .tt [4]))) .nil))
/-- _law_facts(sentence): sentence, row, basic, fact -/
def B__law_facts : Ss := .cons (.set 1 (.lst (.nil))) (.cons (.fors (.nm 2) (.seq (.call "_law_basics" (.cons (.var 0) .nil))) (.cons (.set 3 (.call "_law_fact" (.cons (.var 2) .nil))) (.cons (.ifs (.and (.cmp .nin (.var 3) (.var 1)) (.one (.not (.and (.cmp .eq (.ix (.var 2) (.con (.int 0))) (.con (.str "same"))) (.one (.cmp .eq (.ix (.var 2) (.con (.int 1))) (.ix (.var 2) (.con (.int 2))))))))) (.cons (.expr (.mth .append (.var 1) (.cons (.var 3) .nil))) .nil) (.nil)) .nil))) (.cons (.ret (.var 1)) .nil))
/-- answer_table(answers): answers, fact, answer -/
def B_answer_table : Ss := .cons (.ret (.dc (.call "fact_text" (.cons (.var 1) .nil)) (.var 2) (.tp [1, 2]) (.seq (.var 0)) .tt [1, 2])) .nil
/-- pair_value(word, first, second): word, first, second, decisive -/
def B_pair_value : Ss := .cons (.ifs (.cmp .eq (.var 0) (.con (.str "iff"))) (.cons (.ret (.ife (.or (.cmp .isn (.var 1) (.con .non)) (.one (.cmp .isn (.var 2) (.con .non)))) (.con .non) (.cmp .eq (.var 1) (.var 2)))) .nil) (.nil)) (.cons (.ifs (.and (.cmp .eq (.var 0) (.con (.str "implies"))) (.one (.cmp .isnn (.var 1) (.con .non)))) (.cons (.set 1 (.notv (.var 1))) .nil) (.nil)) (.cons (.set 3 (.cmp .ne (.var 0) (.con (.str "and")))) (.cons (.ifs (.or (.cmp .eq (.var 1) (.var 3)) (.one (.cmp .eq (.var 2) (.var 3)))) (.cons (.ret (.var 3)) .nil) (.nil)) (.cons (.ret (.ife (.or (.cmp .isn (.var 1) (.con .non)) (.one (.cmp .isn (.var 2) (.con .non)))) (.con .non) (.notv (.var 3)))) .nil))))
/-- value_by(table, sentence): table, sentence, word, first -/
def B_value_by : Ss := .cons (.set 2 (.ix (.var 1) (.con (.int 0)))) (.cons (.ifs (.cmp .inn (.var 2) (.tup (.cons (.con (.str "true")) (.cons (.con (.str "false")) .nil)))) (.cons (.ret (.cmp .eq (.var 2) (.con (.str "true")))) .nil) (.nil)) (.cons (.ifs (.cmp .inn (.var 2) (.tup (.cons (.con (.str "holds")) (.cons (.con (.str "same")) .nil)))) (.cons (.ret (.ife (.val (.call "is_plain_sameness" (.cons (.var 1) .nil))) (.con (.bl true)) (.mth .get (.var 0) (.cons (.call "fact_text" (.cons (.call "make_fact" (.cons (.var 1) .nil)) .nil)) .nil)))) .nil) (.nil)) (.cons (.set 3 (.call "value_by" (.cons (.var 0) (.cons (.ix (.var 1) (.con (.int 1))) .nil)))) (.cons (.ifs (.cmp .eq (.var 2) (.con (.str "not"))) (.cons (.ret (.ife (.cmp .isn (.var 3) (.con .non)) (.con .non) (.notv (.var 3)))) .nil) (.nil)) (.cons (.ret (.call "pair_value" (.cons (.var 2) (.cons (.var 3) (.cons (.call "value_by" (.cons (.var 0) (.cons (.ix (.var 1) (.con (.int 2))) .nil))) .nil))))) .nil)))))
/-- truth_by(answers, sentence): answers, sentence -/
def B_truth_by : Ss := .cons (.ret (.call "value_by" (.cons (.call "answer_table" (.cons (.var 0) .nil)) (.cons (.var 1) .nil)))) .nil
/-- _law_joined(word, one, two): word, one, two, loud -/
def B__law_joined : Ss := .cons (.ifs (.cmp .eq (.var 0) (.con (.str "iff"))) (.cons (.ifs (.or (.cmp .isn (.var 1) (.con .non)) (.one (.cmp .isn (.var 2) (.con .non)))) (.cons (.ret (.con .non)) .nil) (.nil)) (.cons (.ret (.cmp .eq (.var 1) (.var 2))) .nil)) (.nil)) (.cons (.ifs (.cmp .eq (.var 0) (.con (.str "implies"))) (.cons (.set 1 (.ife (.cmp .isn (.var 1) (.con .non)) (.con .non) (.notv (.var 1)))) .nil) (.nil)) (.cons (.set 3 (.cmp .ne (.var 0) (.con (.str "and")))) (.cons (.ifs (.or (.and (.cmp .isnn (.var 1) (.con .non)) (.one (.cmp .eq (.var 1) (.var 3)))) (.one (.and (.cmp .isnn (.var 2) (.con .non)) (.one (.cmp .eq (.var 2) (.var 3)))))) (.cons (.ret (.var 3)) .nil) (.nil)) (.cons (.ifs (.or (.cmp .isn (.var 1) (.con .non)) (.one (.cmp .isn (.var 2) (.con .non)))) (.cons (.ret (.con .non)) .nil) (.nil)) (.cons (.ret (.notv (.var 3))) .nil)))))
/-- _law_settled(answers, sentence): answers, sentence, word, fact, other, answer, one -/
def B__law_settled : Ss := .cons (.set 2 (.ix (.var 1) (.con (.int 0)))) (.cons (.ifs (.cmp .inn (.var 2) (.tup (.cons (.con (.str "true")) (.cons (.con (.str "false")) .nil)))) (.cons (.ret (.cmp .eq (.var 2) (.con (.str "true")))) .nil) (.nil)) (.cons (.ifs (.cmp .inn (.var 2) (.tup (.cons (.con (.str "holds")) (.cons (.con (.str "same")) .nil)))) (.cons (.ifs (.and (.cmp .eq (.var 2) (.con (.str "same"))) (.one (.cmp .eq (.ix (.var 1) (.con (.int 1))) (.ix (.var 1) (.con (.int 2)))))) (.cons (.ret (.con (.bl true))) .nil) (.nil)) (.cons (.set 3 (.call "_law_fact" (.cons (.var 1) .nil))) (.cons (.fors (.tp [4, 5]) (.seq (.var 0)) (.cons (.ifs (.cmp .eq (.var 4) (.var 3)) (.cons (.ret (.var 5)) .nil) (.nil)) .nil)) (.cons (.ret (.con .non)) .nil)))) (.nil)) (.cons (.set 6 (.call "_law_settled" (.cons (.var 0) (.cons (.ix (.var 1) (.con (.int 1))) .nil)))) (.cons (.ifs (.cmp .eq (.var 2) (.con (.str "not"))) (.cons (.ret (.ife (.cmp .isn (.var 6) (.con .non)) (.con .non) (.notv (.var 6)))) .nil) (.nil)) (.cons (.ret (.call "_law_joined" (.cons (.var 2) (.cons (.var 6) (.cons (.call "_law_settled" (.cons (.var 0) (.cons (.ix (.var 1) (.con (.int 2))) .nil))) .nil))))) .nil)))))
/-- _law_told(answers, sentence): answers, sentence -/
def B__law_told : Ss := .cons (.ret (.call "_law_same" (.cons (.call "truth_by" (.cons (.var 0) (.cons (.var 1) .nil))) (.cons (.call "_law_settled" (.cons (.var 0) (.cons (.var 1) .nil))) .nil)))) .nil
/-- _law_parts(sentence): sentence, row, part -/
def B__law_parts : Ss := .cons (.set 1 (.lst (.cons (.var 0) .nil))) (.cons (.ifs (.cmp .inn (.ix (.var 0) (.con (.int 0))) (.tup (.cons (.con (.str "not")) (.cons (.con (.str "and")) (.cons (.con (.str "or")) (.cons (.con (.str "implies")) (.cons (.con (.str "iff")) .nil))))))) (.cons (.fors (.nm 2) (.seq (.sl (.var 0) (.yes (.con (.int 1))) .no)) (.cons (.set 1 (.bin .add (.var 1) (.call "_law_parts" (.cons (.var 2) .nil)))) .nil)) .nil) (.nil)) (.cons (.ret (.var 1)) .nil))
/-- _law_formed(sentence): sentence, basic, due, told -/
def B__law_formed : Ss := .cons (.fors (.nm 1) (.seq (.call "_law_basics" (.cons (.var 0) .nil))) (.cons (.ifs (.cmp .eq (.ix (.var 1) (.con (.int 0))) (.con (.str "holds"))) (.cons (.ifs (.not (.val (.call "_law_same" (.cons (.call "make_fact" (.cons (.var 1) .nil)) (.cons (.var 1) .nil))))) (.cons (.ret (.con (.bl false))) .nil) (.nil)) .nil) (.cons (.ifs (.cmp .ne (.ix (.var 1) (.con (.int 1))) (.ix (.var 1) (.con (.int 2)))) (.cons (.set 2 (.call "_law_fact" (.cons (.var 1) .nil))) (.cons (.ifs (.not (.val (.call "_law_same" (.cons (.call "make_fact" (.cons (.var 1) .nil)) (.cons (.var 2) .nil))))) (.cons (.ret (.con (.bl false))) .nil) (.nil)) (.cons (.ifs (.not (.val (.call "_law_same" (.cons (.call "make_fact" (.cons (.tup (.cons (.con (.str "same")) (.cons (.ix (.var 1) (.con (.int 2))) (.cons (.ix (.var 1) (.con (.int 1))) .nil)))) .nil)) (.cons (.var 2) .nil))))) (.cons (.ret (.con (.bl false))) .nil) (.nil)) .nil))) (.nil)) .nil)) .nil)) (.cons (.set 2 (.call "_law_facts" (.cons (.var 0) .nil))) (.cons (.set 3 (.call "facts_in" (.cons (.var 0) .nil))) (.cons (.ifs (.not (.val (.call "_law_same" (.cons (.var 3) (.cons (.var 2) .nil))))) (.cons (.ret (.con (.bl false))) .nil) (.nil)) (.cons (.expr (.mth .append (.var 3) (.cons (.tup (.cons (.con (.str "holds")) (.cons (.tup (.cons (.con (.str "Z")) .nil)) .nil))) .nil))) (.cons (.ret (.call "_law_same" (.cons (.call "facts_in" (.cons (.var 0) .nil)) (.cons (.var 2) .nil)))) .nil)))))
/-- the program has these defs -/
structure FactP (P : Prog) : Prop where
  facts_in : P.fn (Str.ofString "facts_in") = some ⟨1, 5, B_facts_in⟩
  law_facts : P.fn (Str.ofString "_law_facts") = some ⟨1, 4, B__law_facts⟩
  answer_table : P.fn (Str.ofString "answer_table") = some ⟨1, 3, B_answer_table⟩
  pair_value : P.fn (Str.ofString "pair_value") = some ⟨3, 4, B_pair_value⟩
  value_by : P.fn (Str.ofString "value_by") = some ⟨2, 4, B_value_by⟩
  truth_by : P.fn (Str.ofString "truth_by") = some ⟨2, 2, B_truth_by⟩
  law_joined : P.fn (Str.ofString "_law_joined") = some ⟨3, 4, B__law_joined⟩
  law_settled : P.fn (Str.ofString "_law_settled") = some ⟨2, 7, B__law_settled⟩
  law_told : P.fn (Str.ofString "_law_told") = some ⟨2, 2, B__law_told⟩
  law_parts : P.fn (Str.ofString "_law_parts") = some ⟨1, 3, B__law_parts⟩
  law_formed : P.fn (Str.ofString "_law_formed") = some ⟨1, 4, B__law_formed⟩
/-- the facts of a sentence, as values -/
def factsV (bs : List Sen) : List Val := once (((bs.filter fun b => !b.plain).map Sen.fact).map Sen.val)
theorem factsV_take (bs : List Sen) (i : Nat) {b : Sen} (h : bs[i]? = some b) : factsV (bs.take (i + 1)) = if b.plain then factsV (bs.take i) else addO (factsV (bs.take i)) b.fact.val := by
  unfold factsV once
  rw [List.take_add_one, h]
  simp only [Option.toList]
  rw [List.filter_append, List.map_append, List.map_append, List.foldl_append]
  cases hp : b.plain with
  | true => simp [hp]
  | false => simp [hp]
theorem factsV_mem {bs : List Sen} {v : Val} (h : v ∈ factsV bs) : ∃ b ∈ bs, b.plain = false ∧ v = b.fact.val := by
  unfold factsV at h
  rw [once_mem] at h
  obtain ⟨f, h1, rfl⟩ := List.mem_map.mp h
  obtain ⟨b, h2, rfl⟩ := List.mem_map.mp h1
  obtain ⟨h3, h4⟩ := List.mem_filter.mp h2
  exact ⟨b, h3, by simpa using h4, rfl⟩
theorem fact_ok {s : Sen} {D : Nat} (h : s.Ok D) : s.fact.Ok D := by
  cases s with
  | hold a => exact h
  | same a b =>
    rw [Sen.fact]
    split
    · exact ⟨h.2.1, h.1, by have := h.2.2; omega⟩
    · exact h
  | _ => exact h.elim
theorem fact_cl {s : Sen} {U : Str → Bool} (h : s.Cl U) : s.fact.Cl U := by
  cases s with
  | hold a => exact h
  | same a b =>
    rw [Sen.fact]
    split
    · exact ⟨h.2, h.1⟩
    · exact h
  | _ => exact h.elim
theorem cl_atom {s : Sen} {U : Str → Bool} (h : s.Cl U) : s.atom = true := by
  cases s <;> first | rfl | exact h.elim
/-- a basic's value is flat data -/
theorem val_tm {s : Sen} {D : Nat} (h : s.Ok D) : tm s.val = true ∧ s.val.dep ≤ D + 1 := by
  cases s with
  | hold a => 
    have := h.1.dep
    exact ⟨by simp [Sen.val, tm, tms, h.1.tm], by simp only [Sen.val, Val.dep, Val.deps]; omega⟩
  | same a b =>
    have h1 := h.1.dep
    have h2 := h.2.1.dep
    exact ⟨by simp [Sen.val, tm, tms, h.1.tm, h.2.1.tm], by simp only [Sen.val, Val.dep, Val.deps]; omega⟩
  | _ => exact h.elim
theorem factsV_len (bs : List Sen) : (factsV bs).length ≤ bs.length := by
  unfold factsV
  refine Nat.le_trans (once_len _) ?_
  rw [List.length_map, List.length_map]
  exact List.length_filter_le _ _
section
variable {P : Prog} (S : SentP P) (T : Term0 P) (G : LawT P) (F : FactP P)
include S G F in
theorem lfacts_ok {s : Sen} {D d : Nat} {U : Str → Bool} (hd : s.ht ≤ d) (hc : s.cnt ≤ sizeMax) (hs : ∀ b ∈ s.basics, b.Ok D ∧ b.Cl U) (hD : D ≤ 90) {k : Nat} {h : Hpe} (hk : D + d + 6 ≤ k) :
    WP (call P k (Str.ofString "_law_facts") [s.val] h) fun v h' => ∃ n, v = .ref n ∧ h.length ≤ n ∧ Le h h' ∧ h'[n]? = some (.lst (factsV s.basics)) := by
  obtain ⟨k, rfl⟩ : ∃ j, k = j + 1 := ⟨k - 1, by omega⟩
  have hbl := basics_len s
  refine call_of (σ := [some s.val, none, none, none]) F.law_facts rfl rfl ?_
  unfold B__law_facts
  array_mem_dec
  refine (lbasics_ok S d hd hc (by omega)).mono ?_
  rintro _ h1 ⟨m, rfl, hm, l1, e1⟩
  rw [List.length_append, List.length_singleton] at hm
  refine .inr ⟨m, _, rfl, lstAt_lst e1, ?_⟩
  refine forL_rule (fun i σ h2 => i ≤ s.basics.length ∧ ∃ c2 c3, σ = [some s.val, some (.ref h.length), c2, c3] ∧ Le h h2 ∧ h2[h.length]? = some (.lst (factsV (s.basics.take i))) ∧ h2[m]? = some (.lst (s.basics.map Sen.val))) (s.basics.map Sen.val) 0
    ⟨Nat.zero_le _, none, none, rfl, (Le.push _ _).trans l1, l1 _ _ (at_push _ _), e1⟩ (fun i σ h2 ⟨_, _, _, _, _, _, e⟩ => decide_eq_true (lstAt_lst e)) ?_ ?_
  · rintro i x σ h2 hx ⟨hi, c2, c3, rfl, l, hr, em⟩
    rw [Nat.zero_add] at hr hi ⊢
    rw [List.getElem?_map] at hx
    obtain ⟨b, hb, rfl⟩ := Option.map_eq_some_iff.mp hx
    have hbm := List.mem_of_getElem? hb
    have hlt := (List.getElem?_eq_some_iff.mp hb).1
    obtain ⟨bo, bc⟩ := hs b hbm
    have hft := factsV_take s.basics i hb
    have hfl := factsV_len (s.basics.take i)
    rw [List.length_take] at hfl
    have all : ∀ y ∈ factsV (s.basics.take i), tm y = true := fun y hy => by
      obtain ⟨c, h1, _, rfl⟩ := factsV_mem hy
      exact (val_tm (fact_ok (hs c (List.mem_of_mem_take h1)).1)).1
    have vf := val_tm (fact_ok bo)
    refine ⟨_, rfl, ?_⟩
    array_mem_dec
    refine (lfact_ok S G bo hD (by omega)).mono ?_
    rintro _ h3 ⟨rfl, l3⟩
    have hr3 := l3 _ _ hr
    have em3 := l3 _ _ em
    array_mem_dec
    refine inside_lst hr3 (fun y hy => canEq_tm vf.1 (all y hy) (by omega)) ?_
    rw [any_mem vf.1 all]
    have test : ∀ {σ : En} {h : Hpe}, σ[2]? = some (some b.val) → WP (evt (Rk P k) (.one (.not (.and (.cmp .eq (.ix (.var 2) (.con (.int 0))) (.con (.str (Str.ofString "same")))) (.one (.cmp .eq (.ix (.var 2) (.con (.int 1))) (.ix (.var 2) (.con (.int 2)))))))) σ h) fun r h' => r = !b.plain ∧ h' = h := by
      intro σ h e
      refine wpt_one (wpt_not (wpt_and (wpt_cmp (wp_ix (wp_var e ?_)))))
      cases b with
      | hold a => rw [Sen.val]; array_mem_dec; exact ⟨rfl, rfl⟩
      | same a c =>
        rw [Sen.val] at e ⊢
        array_mem_dec
        refine wp_var e ?_
        array_mem_dec
        refine wp_var e ?_
        array_mem_dec
        refine WP.of_eq (a := decide (a = c)) (h := h) ?_ ⟨by rw [Sen.plain], rfl⟩
        simp only [cmpop]
        rw [if_pos (canEq_tm bo.1.tm bo.2.1.tm (by have := bo.1.dep; omega)), eqv_flat a c bo.1.tm bo.2.1.tm]
      | _ => exact bo.elim
    refine ⟨fun hn => ?_, fun hn => ?_⟩
    · have hn : b.fact.val ∉ factsV (s.basics.take i) := by simpa using hn
      refine (test rfl).mono ?_
      rintro _ _ ⟨rfl, rfl⟩
      refine ⟨fun hp => ?_, fun hp => ?_⟩
      · have hp : b.plain = false := by simpa using hp
        rw [hp] at hft
        array_mem_dec
        refine ⟨rc_lst (by decide) (by decide) hr3, ?_⟩
        array_mem_dec
        refine mt_app hr3 (by omega) ?_
        array_mem_dec
        refine ⟨by omega, _, _, rfl, (l.trans l3).set (Nat.le_refl _) _, ?_, at_set_ne (by omega) em3⟩
        rw [at_set hr3, hft]
        simp [addO, hn]
      · have hp : b.plain = true := by simpa using hp
        rw [hp] at hft
        array_mem_dec
        exact ⟨by omega, _, _, rfl, l.trans l3, by rw [hr3, hft]; rfl, em3⟩
    · have hn : b.fact.val ∈ factsV (s.basics.take i) := by simpa using hn
      have : factsV (s.basics.take (i + 1)) = factsV (s.basics.take i) := by
        rw [hft]
        split
        · rfl
        · simp [addO, hn]
      array_mem_dec
      exact ⟨by omega, _, _, rfl, l.trans l3, by rw [hr3, this], em3⟩
  · rintro σ h2 ⟨hi, c2, c3, rfl, l, hr, em⟩
    array_mem_dec
    refine ⟨_, rfl, Nat.le_refl _, l, ?_⟩
    rw [hr, List.length_map, Nat.zero_add, List.take_length]
theorem setDef_once {h : Hpe} {n : Nat} {acc : List Val} {f : Val} {Q : Val → Hpe → Prop} (e : h[n]? = some (.dic (acc.map fun y => (Val.str (ftv y), y)))) (z : acc.length < sizeMax) (inj : ∀ y ∈ acc, ftv y = ftv f → y = f)
    (q : ∀ v, Q v (h.set n (.dic ((addO acc f).map fun y => (Val.str (ftv y), y))))) : WP (setDef n (.str (ftv f)) f h) Q := by
  unfold setDef
  simp only [e]
  rw [if_pos (by rw [List.length_map]; exact z)]
  by_cases hf : f ∈ acc
  · rw [lookD_map ftv hf inj]
    have : (addO acc f) = acc := by simp [addO, hf]
    rw [this] at q
    have hs : h.set n (.dic (acc.map fun y => (Val.str (ftv y), y))) = h := by
      have hlt := (List.getElem?_eq_some_iff.mp e)
      obtain ⟨h1, h2⟩ := hlt
      rw [← h2]
      exact List.set_getElem_self h1
    rw [hs] at q
    exact WP.ok (q _)
  · have hl : lookD (acc.map fun y => (Val.str (ftv y), y)) (.str (ftv f)) = none := by
      unfold lookD
      rw [List.find?_eq_none.mpr]
      · rfl
      · intro p hp
        obtain ⟨y, hy, rfl⟩ := List.mem_map.mp hp
        simp only [decide_eq_true_eq]
        intro z
        exact hf (by rw [← inj y hy (Val.str.inj z)]; exact hy)
    rw [hl]
    have h2 := putD_new (kf := ftv) (vf := id) (ys := acc) (x := f) fun y hy z => hf (by rw [← inj y hy z]; exact hy)
    have h3 : putD (acc.map fun y => (Val.str (ftv y), y)) (.str (ftv f)) f = (addO acc f).map fun y => (Val.str (ftv y), y) := by
      simp only [addO, if_neg hf]
      exact h2
    rw [h3]
    exact WP.ok (q _)
omit P in
theorem wp_setd {R : Rc} {σ : En} {h : Hpe} {Q : Val → Hpe → Prop} {d k v : E} (w : WP (ev R d σ h) fun x h1 => ∃ n, x = .ref n ∧ (dicAt h1 n).isSome = true ∧ WP (ev R k σ h1) fun y h2 => WP (ev R v σ h2) fun z h3 => WP (setDef n y z h3) Q) : WP (ev R (.setd d k v) σ h) Q := by
  simp only [ev]
  refine WP.bind (w.mono fun x h1 ⟨n, e, hs, w⟩ => ?_)
  subst e
  simp only [hs, if_true]
  exact WP.bind (w.mono fun y h2 w => WP.bind w)
include S T F in
theorem facts_in_ok (hp : P.con (Str.ofString "PAIRS") = some (.tup ([Str.ofString "and", Str.ofString "or", Str.ofString "implies", Str.ofString "iff"].map Val.str))) (hb : P.con (Str.ofString "BINDERS") = some (.tup ([Str.ofString "all", Str.ofString "some"].map Val.str)))
    {s : Sen} {D d : Nat} {U : Str → Bool} (hd : s.ht ≤ d) (hc : s.cnt < sizeMax) (hs : ∀ b ∈ s.basics, b.Ok D ∧ b.Cl U) (hD : D ≤ 90) {k : Nat} {h : Hpe} (hk : D + d + 6 ≤ k) :
    WP (call P k (Str.ofString "facts_in") [s.val] h) fun v h' => ∃ n, v = .ref n ∧ h.length ≤ n ∧ Le h h' ∧ h'[n]? = some (.lst (factsV s.basics)) := by
  obtain ⟨k, rfl⟩ : ∃ j, k = j + 1 := ⟨k - 1, by omega⟩
  have hbl := basics_len s
  have inj : ∀ (b c : Sen), b ∈ s.basics → c ∈ s.basics → ftv b.fact.val = ftv c.fact.val → b.fact.val = c.fact.val := fun b c h1 h2 e => by
    have c1 := fact_cl (hs b h1).2
    have c2 := fact_cl (hs c h2).2
    rw [ftv_val (cl_atom c1), ftv_val (cl_atom c2)] at e
    rw [ftxt_inj c1 c2 e]
  refine call_of (σ := [some s.val, none, none, none, none]) F.facts_in rfl rfl ?_
  unfold B_facts_in
  array_mem_dec
  refine (basics_in_ok S hp hb d hd (by omega) (by omega)).mono ?_
  rintro _ h1 ⟨m, rfl, hm, l1, e1⟩
  rw [List.length_append, List.length_singleton] at hm
  refine .inr ⟨m, _, rfl, lstAt_lst e1, ?_⟩
  refine forL_rule (fun i σ h2 => i ≤ s.basics.length ∧ ∃ c2 c3, σ = [some s.val, some (.ref h.length), c2, c3, none] ∧ Le h h2 ∧ h2[h.length]? = some (.dic ((factsV (s.basics.take i)).map fun f => (Val.str (ftv f), f))) ∧ h2[m]? = some (.lst (s.basics.map Sen.val))) (s.basics.map Sen.val) 0
    ⟨Nat.zero_le _, none, none, rfl, (Le.push _ _).trans l1, l1 _ _ (at_push _ _), e1⟩ (fun i σ h2 ⟨_, _, _, _, _, _, e⟩ => decide_eq_true (lstAt_lst e)) ?_ ?_
  · rintro i x σ h2 hx ⟨hi, c2, c3, rfl, l, hr, em⟩
    rw [Nat.zero_add] at hr hi ⊢
    rw [List.getElem?_map] at hx
    obtain ⟨b, hbb, rfl⟩ := Option.map_eq_some_iff.mp hx
    have hbm := List.mem_of_getElem? hbb
    have hlt := (List.getElem?_eq_some_iff.mp hbb).1
    obtain ⟨bo, bc⟩ := hs b hbm
    have hft := factsV_take s.basics i hbb
    have hfl := factsV_len (s.basics.take i)
    rw [List.length_take] at hfl
    refine ⟨_, rfl, ?_⟩
    array_mem_dec
    refine (plain_ok S bo hD (by omega)).mono ?_
    rintro _ _ ⟨rfl, rfl⟩
    array_mem_dec
    refine ⟨fun hp => ?_, fun hp => ?_⟩
    · have hp : b.plain = false := by simpa using hp
      rw [hp] at hft
      array_mem_dec
      refine (make_fact_ok S T bo hD (by omega)).mono ?_
      rintro _ h3 ⟨rfl, l3⟩
      have hr3 := l3 _ _ hr
      have em3 := l3 _ _ em
      array_mem_dec
      refine wp_setd ?_
      array_mem_dec
      refine ⟨_, rfl, by simp only [dicAt, hr3]; rfl, ?_⟩
      array_mem_dec
      refine (ftxt_ok S T (fact_ok bo) (by omega)).mono ?_
      rintro _ h4 ⟨rfl, l4⟩
      rw [← ftv_val (cl_atom (fact_cl bc))]
      array_mem_dec
      refine setDef_once (l4 _ _ hr3) (by omega) (fun y hy e => ?_) fun v => ?_
      · obtain ⟨c, h5, _, rfl⟩ := factsV_mem hy
        exact inj c b (List.mem_of_mem_take h5) hbm e
      · array_mem_dec
        refine ⟨by omega, _, _, rfl, ((l.trans l3).trans l4).set (Nat.le_refl _) _, ?_, at_set_ne (by omega) (l4 _ _ em3)⟩
        rw [at_set (l4 _ _ hr3), hft]
        rfl
    · have hp : b.plain = true := by simpa using hp
      rw [hp] at hft
      array_mem_dec
      exact ⟨by omega, _, _, rfl, l, by rw [hr, hft]; rfl, em⟩
  · rintro σ h2 ⟨hi, c2, c3, rfl, l, hr, em⟩
    rw [List.length_map, Nat.zero_add, List.take_length] at hr
    have hfl := factsV_len s.basics
    have ef : (h2.set h.length (.fdc ((factsV s.basics).map fun f => (Val.str (ftv f), f))))[h.length]? = some (.fdc ((factsV s.basics).map fun f => (Val.str (ftv f), f))) := at_set hr
    have hlt := (List.getElem?_eq_some_iff.mp hr).1
    array_mem_dec
    refine wp_lock rfl hr ?_
    refine wp_map (factsV s.basics) (fun y => .str (ftv y)) id ?_
    array_mem_dec
    refine ⟨_, _, rfl, ef, by rw [List.map_map]; rfl, by omega, decide_eq_true ef, fun x hx h3 l3 => ⟨_, rfl, ?_⟩, fun h3 l3 q => ?_⟩
    · array_mem_dec
      refine ix_dic (kvs := (factsV s.basics).map fun f => (Val.str (ftv f), f)) (by simp only [dicAt, l3 _ _ ef]) (lookD_map ftv hx fun y hy e => ?_) ?_
      · obtain ⟨c, h5, _, rfl⟩ := factsV_mem hy
        obtain ⟨c', h6, _, rfl⟩ := factsV_mem hx
        exact inj c c' h5 h6 e
      · exact ⟨rfl, .rfl⟩
    · rw [List.length_set] at q ⊢
      rw [List.map_id] at q
      have l2 : Le h2 (h3.set h.length (.dic ((factsV s.basics).map fun f => (Val.str (ftv f), f)))) := by
        intro m' o e
        by_cases hm' : m' = h.length
        · subst hm'
          rw [hr] at e
          cases e
          exact at_set (l3 _ _ ef)
        · exact at_set_ne (Ne.symm hm') (l3 _ _ (at_set_ne (Ne.symm hm') e))
      refine ⟨⟨_, l3 _ _ ef⟩, _, rfl, by omega, l.trans l2, at_set_ne (by omega) q⟩
end
end Ev
/-! K01Val: values of sentences by answers. -/
namespace Ev
open PySem
/-- true, false, not known -/
def ov : Option Bool → Val
  | none => .non
  | some b => .bl b
def join (w : Wd) (a b : Option Bool) : Option Bool := match w with
  | .iff => match a, b with
    | some x, some y => some (x == y)
    | _, _ => none
  | .and => if a = some false ∨ b = some false then some false else if a = none ∨ b = none then none else some true
  | .or => if a = some true ∨ b = some true then some true else if a = none ∨ b = none then none else some false
  | .imp => if a = some false ∨ b = some true then some true else if a = none ∨ b = none then none else some false
theorem op_cmp {o : Cop} {a b : Val} {h h' : Hpe} {r : Bool} {QB : Bool → Hpe → Prop} (e : cmpop o a b h = .ok r h') (q : QB r h') : WP (cmpop o a b h) QB := WP.of_eq e q
section
variable {P : Prog} (F : FactP P)
include F
theorem pair_ok {w : Wd} {a b : Option Bool} {k : Nat} {h : Hpe} (hk : 1 ≤ k) : WP (call P k (Str.ofString "pair_value") [.str w.str, ov a, ov b] h) fun v h' => v = ov (join w a b) ∧ h' = h := by
  obtain ⟨k, rfl⟩ : ∃ j, k = j + 1 := ⟨k - 1, by omega⟩
  refine call_of (σ := [some (.str w.str), some (ov a), some (ov b), none]) F.pair_value rfl rfl ?_
  unfold B_pair_value
  rcases a with _ | _ | _ <;> rcases b with _ | _ | _ <;> cases w <;>
    (unfold ov Wd.str
     repeat (first | array_get_dec | ((with_reducible refine op_cmp (r := ?_) (h' := ?_) ?_ ?_); rotate_left 2; exact rfl) | (refine ⟨fun h => absurd h ?_, fun _ => ?_⟩; focus (first | decide | decide +kernel | (simp <;> fail))) | (refine ⟨fun _ => ?_, fun h => absurd h ?_⟩; rotate_left 1; focus (first | decide | decide +kernel | (simp <;> fail))))
     exact ⟨by first | rfl | decide +kernel, rfl⟩)
theorem joined_ok {w : Wd} {a b : Option Bool} {k : Nat} {h : Hpe} (hk : 1 ≤ k) : WP (call P k (Str.ofString "_law_joined") [.str w.str, ov a, ov b] h) fun v h' => v = ov (join w a b) ∧ h' = h := by
  obtain ⟨k, rfl⟩ : ∃ j, k = j + 1 := ⟨k - 1, by omega⟩
  refine call_of (σ := [some (.str w.str), some (ov a), some (ov b), none]) F.law_joined rfl rfl ?_
  unfold B__law_joined
  rcases a with _ | _ | _ <;> rcases b with _ | _ | _ <;> cases w <;>
    (unfold ov Wd.str
     repeat (first | array_get_dec | ((with_reducible refine op_cmp (r := ?_) (h' := ?_) ?_ ?_); rotate_left 2; exact rfl) | (refine ⟨fun h => absurd h ?_, fun _ => ?_⟩; focus (first | decide | decide +kernel | (simp <;> fail))) | (refine ⟨fun _ => ?_, fun h => absurd h ?_⟩; rotate_left 1; focus (first | decide | decide +kernel | (simp <;> fail))))
     exact ⟨by first | rfl | decide +kernel, rfl⟩)
end
/-! ### what answers settle -/
def Sen.settle (look : Val → Option Bool) : Sen → Option Bool
  | .tt => some true
  | .ff => some false
  | .hold a => look (Sen.hold a).fact.val
  | .same a b => if a = b then some true else look (Sen.same a b).fact.val
  | .not s => (s.settle look).map (!·)
  | .bin w s t => join w (s.settle look) (t.settle look)
/-- answers: facts with their values -/
abbrev Ans := List (Val × Bool)
def Ans.look (as : Ans) (v : Val) : Option Bool := (as.find? fun p => decide (p.1 = v)).map (·.2)
def Ans.vals (as : Ans) : List Val := as.map fun p => .tup [p.1, .bl p.2]
section
variable {P : Prog}
end
end Ev
/-! K01Set: answers as tables and as rows; what they settle. -/
namespace Ev
open PySem
structure Ans.Ok (D : Nat) (U : Str → Bool) (as : Ans) : Prop where
  nodup : (as.map (·.1)).Nodup
  all : ∀ p ∈ as, ∃ s : Sen, s.Ok D ∧ s.Cl U ∧ p.1 = s.val
  len : as.length ≤ 1000
theorem Ans.Ok.inj {D : Nat} {U : Str → Bool} {as : Ans} (A : as.Ok D U) {p : Val × Bool} (hp : p ∈ as) {s : Sen} (hs : s.Cl U) (e : ftv p.1 = ftv s.val) : p.1 = s.val := by
  obtain ⟨t, _, h2, h3⟩ := A.all p hp
  rw [h3, ftv_val (cl_atom h2), ftv_val (cl_atom hs)] at e
  rw [h3, ftxt_inj h2 hs e]
/-- the table of answers -/
def Ans.tab (as : Ans) : List (Val × Val) := as.map fun p => (Val.str (ftv p.1), Val.bl p.2)
theorem Ans.Ok.keys {D : Nat} {U : Str → Bool} {as : Ans} (A : as.Ok D U) : (as.map fun p => ftv p.1).Nodup := by
  have h1 := A.nodup
  rw [List.nodup_iff_pairwise_ne, List.pairwise_iff_getElem] at h1 ⊢
  intro i j hi hj hij e
  rw [List.length_map] at hi hj
  have := h1 i j (by rw [List.length_map]; exact hi) (by rw [List.length_map]; exact hj) hij
  simp only [List.getElem_map] at this e
  obtain ⟨t, _, h2, h3⟩ := A.all as[j] (List.getElem_mem hj)
  rw [h3] at e
  have z := A.inj (List.getElem_mem hi) h2 e
  exact this (by rw [z, h3])
theorem look_tab {as : Ans} {f : Val} (inj : ∀ p ∈ as, ftv p.1 = ftv f → p.1 = f) : lookD as.tab (.str (ftv f)) = (as.look f).map Val.bl := by
  induction as with
  | nil => rfl
  | cons p as ih =>
    have ih := ih fun q hq => inj q (List.mem_cons_of_mem _ hq)
    unfold Ans.tab lookD Ans.look at *
    rw [List.map_cons, List.find?_cons, List.find?_cons]
    by_cases e : p.1 = f
    · simp [e]
    · have : ¬ ftv p.1 = ftv f := fun z => e (inj p List.mem_cons_self z)
      simp only [Val.str.injEq, this, e, decide_false]
      exact ih
theorem look_hit {as : Ans} {f : Val} {i : Nat} {p : Val × Bool} (h : as[i]? = some p) (hp : p.1 = f) (hn : ∀ q ∈ as.take i, q.1 ≠ f) : as.look f = some p.2 := by
  induction as generalizing i with
  | nil => simp at h
  | cons q as ih =>
    cases i with
    | zero =>
      cases h
      simp [Ans.look, List.find?_cons, hp]
    | succ i =>
      have h1 : q.1 ≠ f := hn q (by simp)
      have := ih (i := i) (by simpa using h) fun r hr => hn r (by simp [hr])
      simpa [Ans.look, List.find?_cons, h1] using this
theorem look_none {as : Ans} {f : Val} (hn : ∀ q ∈ as, q.1 ≠ f) : as.look f = none := by
  unfold Ans.look
  rw [List.find?_eq_none.mpr]
  · rfl
  · intro p hp
    simpa using hn p hp
theorem look_mem {as : Ans} (hn : (as.map (·.1)).Nodup) {f : Val} {b : Bool} : as.look f = some b ↔ (f, b) ∈ as := by
  induction as with
  | nil => simp [Ans.look]
  | cons q as ih =>
    rw [List.map_cons, List.nodup_cons] at hn
    have ih := ih hn.2
    obtain ⟨g, c⟩ := q
    by_cases e : g = f
    · subst e
      simp only [Ans.look, List.find?_cons, decide_true, Option.map, List.mem_cons, Prod.mk.injEq, true_and]
      constructor
      · intro h; cases h; exact .inl rfl
      · rintro (h | h)
        · rw [h]
        · exact absurd (List.mem_map.mpr ⟨_, h, rfl⟩) hn.1
    · have : (f, b) ∈ (g, c) :: as ↔ (f, b) ∈ as := by
        simp only [List.mem_cons, Prod.mk.injEq]
        constructor
        · rintro (⟨h, _⟩ | h)
          · exact absurd h.symm e
          · exact h
        · exact .inr
      rw [this, ← ih]
      simp only [Ans.look, List.find?_cons, e, decide_false]
def Sen.All (D : Nat) (U : Str → Bool) (s : Sen) : Prop := ∀ b ∈ s.basics, b.Ok D ∧ b.Cl U
theorem Sen.All.not {D : Nat} {U : Str → Bool} {s : Sen} (h : (Sen.not s).All D U) : s.All D U := h
theorem Sen.All.l {D : Nat} {U : Str → Bool} {w : Wd} {s t : Sen} (h : (Sen.bin w s t).All D U) : s.All D U := fun b hb => h b (by rw [Sen.basics]; exact List.mem_append_left _ hb)
theorem Sen.All.r {D : Nat} {U : Str → Bool} {w : Wd} {s t : Sen} (h : (Sen.bin w s t).All D U) : t.All D U := fun b hb => h b (by rw [Sen.basics]; exact List.mem_append_right _ hb)
theorem Wd.no1 (w : Wd) : decide (w.str ∈ [Str.ofString "true", Str.ofString "false"]) = false := by cases w <;> decide +kernel
theorem Wd.no2 (w : Wd) : decide (w.str ∈ [Str.ofString "holds", Str.ofString "same"]) = false := by cases w <;> decide +kernel
theorem Wd.no3 (w : Wd) : decide (w.str = Str.ofString "not") = false := by cases w <;> decide +kernel
theorem ov_map (o : Option Bool) : (o.map Val.bl).getD .non = ov o := by cases o <;> rfl
section
variable {P : Prog} (S : SentP P) (T : Term0 P) (G : LawT P) (F : FactP P)
include S T F in
theorem table_ok {as : Ans} {D : Nat} {U : Str → Bool} (A : as.Ok D U) {v : Val} {k : Nat} {h : Hpe} (hv : Held h v as.vals) (hk : D + 5 ≤ k) :
    WP (call P k (Str.ofString "answer_table") [v] h) fun r h' => ∃ n, r = .ref n ∧ h.length ≤ n ∧ Le h h' ∧ h'[n]? = some (.dic as.tab) := by
  obtain ⟨k, rfl⟩ : ∃ j, k = j + 1 := ⟨k - 1, by omega⟩
  have hM : sizeMax = 16777216 := rfl
  have hl := A.len
  refine call_of (σ := [some v, none, none]) F.answer_table rfl rfl ?_
  unfold B_answer_table
  array_mem_dec
  refine wp_dcm as (fun p => .tup [p.1, .bl p.2]) (fun p => ftv p.1) (fun p => .bl p.2) ?_
  refine wpi_held ?_
  array_mem_dec
  refine ⟨as.vals, hv, fun a hs => ?_⟩
  refine ⟨rfl, by omega, hs _ hv, fun p hp h2 l2 => ⟨[some v, some p.1, some (.bl p.2)], rfl, ?_⟩, fun h' l' e => ⟨_, rfl, Nat.le_refl _, l', ?_⟩⟩
  · obtain ⟨s, h1, h2, h3⟩ := A.all p hp
    rw [h3]
    array_mem_dec
    refine (ftxt_ok S T h1 (by omega)).mono ?_
    rintro _ h4 ⟨rfl, l4⟩
    refine ⟨by rw [ftv_val (cl_atom h2)], l4, ?_⟩
    array_mem_dec
    exact ⟨rfl, .rfl⟩
  · rw [e, dictOf_map _ _ A.keys]
    rfl
include S T F in
theorem value_by_ok {as : Ans} {D : Nat} {U : Str → Bool} (A : as.Ok D U) (hD : D ≤ 90) {n : Nat} : ∀ (s : Sen), s.All D U → ∀ {k : Nat} {h : Hpe}, h[n]? = some (.dic as.tab) → D + s.ht + 6 ≤ k →
    WP (call P k (Str.ofString "value_by") [.ref n, s.val] h) fun v h' => v = ov (s.settle as.look) ∧ Le h h' := by
  intro s
  induction s with
  | tt =>
    intro ha k h e hk
    obtain ⟨k, rfl⟩ : ∃ j, k = j + 1 := ⟨k - 1, by omega⟩
    refine call_of (σ := [some (.ref n), some Sen.tt.val, none, none]) F.value_by rfl rfl ?_
    unfold B_value_by Sen.val
    array_mem_dec
    exact ⟨by simp [Sen.settle, ov], .rfl⟩
  | ff =>
    intro ha k h e hk
    obtain ⟨k, rfl⟩ : ∃ j, k = j + 1 := ⟨k - 1, by omega⟩
    refine call_of (σ := [some (.ref n), some Sen.ff.val, none, none]) F.value_by rfl rfl ?_
    unfold B_value_by Sen.val
    array_mem_dec
    refine ⟨?_, .rfl⟩
    rw [show (decide (Str.ofString "false" = Str.ofString "true")) = false by decide +kernel]
    simp [Sen.settle, ov]
  | hold a =>
    intro ha k h e hk
    obtain ⟨k, rfl⟩ : ∃ j, k = j + 1 := ⟨k - 1, by omega⟩
    obtain ⟨bo, bc⟩ := ha (.hold a) (by simp [Sen.basics])
    refine call_of (σ := [some (.ref n), some (Sen.hold a).val, none, none]) F.value_by rfl rfl ?_
    unfold B_value_by
    have ev : (Sen.hold a).val = .tup [.str (Str.ofString "holds"), a] := rfl
    generalize hz : (Sen.hold a).val = z
    rw [hz] at ev
    rw [ev]
    array_mem_dec
    rw [← ev, ← hz]
    refine (plain_ok S bo hD (by omega)).mono ?_
    rintro _ _ ⟨rfl, rfl⟩
    array_mem_dec
    refine ⟨fun h => absurd h (by simp [Sen.plain]), fun _ => ?_⟩
    array_mem_dec
    refine ⟨rc_get (dicAt_dic e), ?_⟩
    array_mem_dec
    refine (make_fact_ok S T bo hD (by omega)).mono ?_
    rintro _ h3 ⟨rfl, l3⟩
    array_mem_dec
    refine (ftxt_ok S T (fact_ok bo) (by omega)).mono ?_
    rintro _ h4 ⟨rfl, l4⟩
    array_mem_dec
    refine mt_get1 (dicAt_dic (l4 _ _ (l3 _ _ e))) ?_
    rw [← ftv_val (cl_atom (fact_cl bc)), look_tab fun p hp z => A.inj hp (fact_cl bc) z, ov_map]
    exact ⟨by rw [Sen.settle], l3.trans l4⟩
  | same a b =>
    intro ha k h e hk
    obtain ⟨k, rfl⟩ : ∃ j, k = j + 1 := ⟨k - 1, by omega⟩
    obtain ⟨bo, bc⟩ := ha (.same a b) (by simp [Sen.basics])
    refine call_of (σ := [some (.ref n), some (Sen.same a b).val, none, none]) F.value_by rfl rfl ?_
    unfold B_value_by
    have ev : (Sen.same a b).val = .tup [.str (Str.ofString "same"), a, b] := rfl
    generalize hz : (Sen.same a b).val = z
    rw [hz] at ev
    rw [ev]
    array_mem_dec
    rw [← ev, ← hz]
    refine (plain_ok S bo hD (by omega)).mono ?_
    rintro _ _ ⟨rfl, rfl⟩
    array_mem_dec
    refine ⟨fun hp => ?_, fun hp => ?_⟩
    · array_mem_dec
      refine ⟨?_, .rfl⟩
      have hp : a = b := by simpa [Sen.plain] using hp
      simp [Sen.settle, hp, ov]
    · have hp : ¬ a = b := by simpa [Sen.plain] using hp
      array_mem_dec
      refine ⟨rc_get (dicAt_dic e), ?_⟩
      array_mem_dec
      refine (make_fact_ok S T bo hD (by omega)).mono ?_
      rintro _ h3 ⟨rfl, l3⟩
      array_mem_dec
      refine (ftxt_ok S T (fact_ok bo) (by omega)).mono ?_
      rintro _ h4 ⟨rfl, l4⟩
      array_mem_dec
      refine mt_get1 (dicAt_dic (l4 _ _ (l3 _ _ e))) ?_
      rw [← ftv_val (cl_atom (fact_cl bc)), look_tab fun p hp z => A.inj hp (fact_cl bc) z, ov_map]
      exact ⟨by rw [Sen.settle, if_neg hp], l3.trans l4⟩
  | not s ih =>
    intro ha k h e hk
    obtain ⟨k, rfl⟩ : ∃ j, k = j + 1 := ⟨k - 1, by omega⟩
    rw [Sen.ht] at hk
    refine call_of (σ := [some (.ref n), some (Sen.not s).val, none, none]) F.value_by rfl rfl ?_
    unfold B_value_by
    rw [Sen.val]
    array_mem_dec
    refine (ih ha.not e (by omega)).mono ?_
    rintro _ h1 ⟨rfl, l1⟩
    array_mem_dec
    rw [Sen.settle]
    rcases s.settle as.look with _ | b
    · unfold ov
      array_mem_dec
      exact ⟨rfl, l1⟩
    · unfold ov
      array_mem_dec
      exact ⟨rfl, l1⟩
  | bin w s t ih1 ih2 =>
    intro ha k h e hk
    obtain ⟨k, rfl⟩ : ∃ j, k = j + 1 := ⟨k - 1, by omega⟩
    rw [Sen.ht] at hk
    refine call_of (σ := [some (.ref n), some (Sen.bin w s t).val, none, none]) F.value_by rfl rfl ?_
    unfold B_value_by
    rw [Sen.val]
    array_mem_dec
    rw [w.no1]
    array_mem_dec
    rw [w.no2]
    array_mem_dec
    refine (ih1 ha.l e (by omega)).mono ?_
    rintro _ h1 ⟨rfl, l1⟩
    array_mem_dec
    rw [w.no3]
    array_mem_dec
    refine (ih2 ha.r (l1 _ _ e) (by omega)).mono ?_
    rintro _ h2 ⟨rfl, l2⟩
    array_mem_dec
    refine (pair_ok F (by omega)).mono ?_
    rintro _ _ ⟨rfl, rfl⟩
    exact ⟨by rw [Sen.settle], l1.trans l2⟩
include S T F in
theorem truth_by_ok {as : Ans} {D : Nat} {U : Str → Bool} (A : as.Ok D U) (hD : D ≤ 90) {s : Sen} (ha : s.All D U) {k : Nat} {h : Hpe} {v : Val} (hv : Held h v as.vals) (hk : D + s.ht + 7 ≤ k) :
    WP (call P k (Str.ofString "truth_by") [v, s.val] h) fun r h' => r = ov (s.settle as.look) ∧ Le h h' := by
  obtain ⟨k, rfl⟩ : ∃ j, k = j + 1 := ⟨k - 1, by omega⟩
  refine call_of (σ := [some v, some s.val]) F.truth_by rfl rfl ?_
  unfold B_truth_by
  array_mem_dec
  refine (table_ok S T F A hv (by omega)).mono ?_
  rintro _ h1 ⟨n, rfl, hn, l1, e1⟩
  array_mem_dec
  refine (value_by_ok S T F A hD s ha e1 (by omega)).mono ?_
  rintro _ h2 ⟨rfl, l2⟩
  exact ⟨rfl, l1.trans l2⟩
end
end Ev
/-! K01Told: the law's own walk of answers; parts; facts formed. -/
namespace Ev
open PySem
theorem vals_get {as : Ans} {i : Nat} {x : Val} (h : as.vals[i]? = some x) : ∃ p, as[i]? = some p ∧ x = .tup [p.1, .bl p.2] := by
  unfold Ans.vals at h
  rw [List.getElem?_map] at h
  obtain ⟨p, h1, rfl⟩ := Option.map_eq_some_iff.mp h
  exact ⟨p, h1, rfl⟩
theorem take_ne {as : Ans} {i : Nat} {p : Val × Bool} {f : Val} (h : as[i]? = some p) (hp : p.1 ≠ f) (hn : ∀ q ∈ as.take i, q.1 ≠ f) : ∀ q ∈ as.take (i + 1), q.1 ≠ f := by
  intro q hq
  rw [List.take_add_one, h] at hq
  rcases List.mem_append.mp hq with hq | hq
  · exact hn q hq
  · rw [Option.toList, List.mem_singleton] at hq
    rw [hq]; exact hp
section
variable {P : Prog} (L : LibP P) (S : SentP P) (T : Term0 P) (G : LawT P) (F : FactP P)
include S G F in
theorem settled_ok {as : Ans} {D : Nat} {U : Str → Bool} (A : as.Ok D U) (hD : D ≤ 90) {v : Val} : ∀ (s : Sen), s.All D U → ∀ {k : Nat} {h : Hpe}, Held h v as.vals → D + s.ht + 6 ≤ k →
    WP (call P k (Str.ofString "_law_settled") [v, s.val] h) fun r h' => r = ov (s.settle as.look) ∧ Le h h' := by
  intro s
  have hvl : as.vals.length = as.length := List.length_map _
  induction s with
  | tt =>
    intro ha k h e hk
    obtain ⟨k, rfl⟩ : ∃ j, k = j + 1 := ⟨k - 1, by omega⟩
    refine call_of (σ := [some v, some Sen.tt.val, none, none, none, none, none]) F.law_settled rfl rfl ?_
    unfold B__law_settled Sen.val
    array_mem_dec
    exact ⟨by simp [Sen.settle, ov], .rfl⟩
  | ff =>
    intro ha k h e hk
    obtain ⟨k, rfl⟩ : ∃ j, k = j + 1 := ⟨k - 1, by omega⟩
    refine call_of (σ := [some v, some Sen.ff.val, none, none, none, none, none]) F.law_settled rfl rfl ?_
    unfold B__law_settled Sen.val
    array_mem_dec
    refine ⟨?_, .rfl⟩
    rw [show (decide (Str.ofString "false" = Str.ofString "true")) = false by decide +kernel]
    simp [Sen.settle, ov]
  | hold a =>
    intro ha k h e hk
    obtain ⟨k, rfl⟩ : ∃ j, k = j + 1 := ⟨k - 1, by omega⟩
    obtain ⟨bo, bc⟩ := ha (.hold a) (by simp [Sen.basics])
    have vf := val_tm (fact_ok bo)
    refine call_of (σ := [some v, some (Sen.hold a).val, none, none, none, none, none]) F.law_settled rfl rfl ?_
    unfold B__law_settled
    have ev : (Sen.hold a).val = .tup [.str (Str.ofString "holds"), a] := rfl
    generalize hz : (Sen.hold a).val = z
    rw [hz] at ev
    rw [ev]
    array_mem_dec
    rw [← ev, ← hz]
    refine (lfact_ok S G bo hD (by omega)).mono ?_
    rintro _ h1 ⟨rfl, l1⟩
    have e1 := e.le l1
    array_mem_dec
    refine e1.seq (fun hv => ?_) (fun n hv kv => ?_) <;> (
      refine forL_rule (fun i σ h2 => i ≤ as.length ∧ ∃ c4 c5, σ = [some v, some (Sen.hold a).val, some (.str (Str.ofString "holds")), some (Sen.hold a).fact.val, c4, c5, none] ∧ Le h h2 ∧ Held h2 v as.vals ∧ ∀ q ∈ as.take i, q.1 ≠ (Sen.hold a).fact.val) as.vals 0
        ⟨Nat.zero_le _, none, none, rfl, l1, e1, by simp⟩ (fun i σ h2 ⟨_, _, _, _, _, hd, _⟩ => by
          first
            | rfl
            | (rcases hd with hd | ⟨m, hd, k2⟩
               · rw [hv] at hd; cases hd
               · rw [hv] at hd; cases hd; exact decide_eq_true (lstAt_lst k2))) ?_ ?_
      · rintro i x σ h2 hx ⟨hi, c4, c5, rfl, l2, hd, hn⟩
        obtain ⟨p, hp, rfl⟩ := vals_get hx
        have hlt := (List.getElem?_eq_some_iff.mp hp).1
        obtain ⟨t, to, _, et⟩ := A.all p (List.mem_of_getElem? hp)
        have vt := val_tm to
        rw [Nat.zero_add] at *
        refine ⟨[some v, some (Sen.hold a).val, some (.str (Str.ofString "holds")), some (Sen.hold a).fact.val, some p.1, some (.bl p.2), none], rfl, ?_⟩
        array_mem_dec
        refine op_cmp (r := decide (p.1 = (Sen.hold a).fact.val)) (h' := h2) ?_ ?_
        · simp only [cmpop]
          rw [et, if_pos (canEq_tm vt.1 vf.1 (by omega)), eqv_flat _ _ vt.1 vf.1]
        · refine ⟨fun hc => ?_, fun hc => ?_⟩
          · array_mem_dec
            rw [Sen.settle, look_hit hp (of_decide_eq_true hc) hn]
            exact ⟨rfl, l2⟩
          · array_mem_dec
            exact ⟨by omega, _, _, rfl, l2, hd, take_ne hp (of_decide_eq_false hc) hn⟩
      · rintro σ h2 ⟨hi, c4, c5, rfl, l2, hd, hn⟩
        rw [Nat.zero_add, hvl, List.take_length] at hn
        array_mem_dec
        rw [Sen.settle, look_none hn]
        exact ⟨rfl, l2⟩)
  | same a b =>
    intro ha k h e hk
    obtain ⟨k, rfl⟩ : ∃ j, k = j + 1 := ⟨k - 1, by omega⟩
    obtain ⟨bo, bc⟩ := ha (.same a b) (by simp [Sen.basics])
    have vf := val_tm (fact_ok bo)
    refine call_of (σ := [some v, some (Sen.same a b).val, none, none, none, none, none]) F.law_settled rfl rfl ?_
    unfold B__law_settled
    have ev : (Sen.same a b).val = .tup [.str (Str.ofString "same"), a, b] := rfl
    generalize hz : (Sen.same a b).val = z
    rw [hz] at ev
    rw [ev]
    array_mem_dec
    refine op_cmp (r := decide (a = b)) (h' := h) ?_ ?_
    · simp only [cmpop]
      rw [if_pos (canEq_tm bo.1.tm bo.2.1.tm (by have := bo.1.dep; omega)), eqv_flat a b bo.1.tm bo.2.1.tm]
    refine ⟨fun hp => ?_, fun hp => ?_⟩
    · array_mem_dec
      exact ⟨by simp [Sen.settle, of_decide_eq_true hp, ov], .rfl⟩
    have hp := of_decide_eq_false hp
    array_mem_dec
    rw [← ev, ← hz]
    refine (lfact_ok S G bo hD (by omega)).mono ?_
    rintro _ h1 ⟨rfl, l1⟩
    have e1 := e.le l1
    array_mem_dec
    refine e1.seq (fun hv => ?_) (fun n hv kv => ?_) <;> (
      refine forL_rule (fun i σ h2 => i ≤ as.length ∧ ∃ c4 c5, σ = [some v, some (Sen.same a b).val, some (.str (Str.ofString "same")), some (Sen.same a b).fact.val, c4, c5, none] ∧ Le h h2 ∧ Held h2 v as.vals ∧ ∀ q ∈ as.take i, q.1 ≠ (Sen.same a b).fact.val) as.vals 0
        ⟨Nat.zero_le _, none, none, rfl, l1, e1, by simp⟩ (fun i σ h2 ⟨_, _, _, _, _, hd, _⟩ => by
          first
            | rfl
            | (rcases hd with hd | ⟨m, hd, k2⟩
               · rw [hv] at hd; cases hd
               · rw [hv] at hd; cases hd; exact decide_eq_true (lstAt_lst k2))) ?_ ?_
      · rintro i x σ h2 hx ⟨hi, c4, c5, rfl, l2, hd, hn⟩
        obtain ⟨p, hp2, rfl⟩ := vals_get hx
        have hlt := (List.getElem?_eq_some_iff.mp hp2).1
        obtain ⟨t, to, _, et⟩ := A.all p (List.mem_of_getElem? hp2)
        have vt := val_tm to
        rw [Nat.zero_add] at *
        refine ⟨[some v, some (Sen.same a b).val, some (.str (Str.ofString "same")), some (Sen.same a b).fact.val, some p.1, some (.bl p.2), none], rfl, ?_⟩
        array_mem_dec
        refine op_cmp (r := decide (p.1 = (Sen.same a b).fact.val)) (h' := h2) ?_ ?_
        · simp only [cmpop]
          rw [et, if_pos (canEq_tm vt.1 vf.1 (by omega)), eqv_flat _ _ vt.1 vf.1]
        · refine ⟨fun hc => ?_, fun hc => ?_⟩
          · array_mem_dec
            rw [Sen.settle, if_neg hp, look_hit hp2 (of_decide_eq_true hc) hn]
            exact ⟨rfl, l2⟩
          · array_mem_dec
            exact ⟨by omega, _, _, rfl, l2, hd, take_ne hp2 (of_decide_eq_false hc) hn⟩
      · rintro σ h2 ⟨hi, c4, c5, rfl, l2, hd, hn⟩
        rw [Nat.zero_add, hvl, List.take_length] at hn
        array_mem_dec
        rw [Sen.settle, if_neg hp, look_none hn]
        exact ⟨rfl, l2⟩)
  | not s ih =>
    intro ha k h e hk
    obtain ⟨k, rfl⟩ : ∃ j, k = j + 1 := ⟨k - 1, by omega⟩
    rw [Sen.ht] at hk
    refine call_of (σ := [some v, some (Sen.not s).val, none, none, none, none, none]) F.law_settled rfl rfl ?_
    unfold B__law_settled
    rw [Sen.val]
    array_mem_dec
    refine (ih ha.not e (by omega)).mono ?_
    rintro _ h1 ⟨rfl, l1⟩
    array_mem_dec
    rw [Sen.settle]
    rcases s.settle as.look with _ | b
    · unfold ov
      array_mem_dec
      exact ⟨rfl, l1⟩
    · unfold ov
      array_mem_dec
      exact ⟨rfl, l1⟩
  | bin w s t ih1 ih2 =>
    intro ha k h e hk
    obtain ⟨k, rfl⟩ : ∃ j, k = j + 1 := ⟨k - 1, by omega⟩
    rw [Sen.ht] at hk
    refine call_of (σ := [some v, some (Sen.bin w s t).val, none, none, none, none, none]) F.law_settled rfl rfl ?_
    unfold B__law_settled
    rw [Sen.val]
    array_mem_dec
    rw [w.no1]
    array_mem_dec
    rw [w.no2]
    array_mem_dec
    refine (ih1 ha.l e (by omega)).mono ?_
    rintro _ h1 ⟨rfl, l1⟩
    array_mem_dec
    rw [w.no3]
    array_mem_dec
    refine (ih2 ha.r (e.le l1) (by omega)).mono ?_
    rintro _ h2 ⟨rfl, l2⟩
    array_mem_dec
    refine (joined_ok F (by omega)).mono ?_
    rintro _ _ ⟨rfl, rfl⟩
    exact ⟨by rw [Sen.settle], l1.trans l2⟩
theorem Sm.ov {h : Hpe} (o : Option Bool) : Sm h 0 (ov o) (ov o) := by
  cases o with
  | none => exact .non
  | some b => exact .bl b
include L S T G F in
theorem told_ok {as : Ans} {D : Nat} {U : Str → Bool} (A : as.Ok D U) (hD : D ≤ 90) {s : Sen} (ha : s.All D U) {k : Nat} {h : Hpe} {v : Val} (hv : Held h v as.vals) (hk : D + s.ht + 8 ≤ k) :
    WP (call P k (Str.ofString "_law_told") [v, s.val] h) fun r h' => r = .bl true ∧ Le h h' := by
  obtain ⟨k, rfl⟩ : ∃ j, k = j + 1 := ⟨k - 1, by omega⟩
  refine call_of (σ := [some v, some s.val]) F.law_told rfl rfl ?_
  unfold B__law_told
  array_mem_dec
  refine (truth_by_ok S T F A hD ha hv (by omega)).mono ?_
  rintro _ h1 ⟨rfl, l1⟩
  array_mem_dec
  refine (settled_ok S G F A hD s ha (hv.le l1) (by omega)).mono ?_
  rintro _ h2 ⟨rfl, l2⟩
  array_mem_dec
  refine (same_ok L 0 (Sm.ov _) (by omega)).mono ?_
  rintro _ h3 ⟨rfl, l3⟩
  exact ⟨rfl, l1.trans (l2.trans l3)⟩
end
/-! ### parts -/
def Sen.parts : Sen → List Sen
  | .not s => .not s :: s.parts
  | .bin w s t => .bin w s t :: (s.parts ++ t.parts)
  | s => [s]
theorem parts_kids (s : Sen) : s.parts = s :: (s.kids.map Sen.parts).flatten := by
  cases s <;> simp [Sen.parts, Sen.kids]
theorem parts_len : ∀ s : Sen, s.parts.length + 1 ≤ 2 ^ (s.ht + 1)
  | .tt | .ff | .hold _ | .same _ _ => by simp [Sen.parts, Sen.ht]
  | .not s => by
    have := parts_len s
    rw [Sen.parts, Sen.ht, List.length_cons, Nat.pow_succ]
    omega
  | .bin w s t => by
    have h1 := parts_len s
    have h2 := parts_len t
    have h3 : 2 ^ (s.ht + 1) ≤ 2 ^ (max s.ht t.ht + 1) := Nat.pow_le_pow_right (by decide) (by omega)
    have h4 : 2 ^ (t.ht + 1) ≤ 2 ^ (max s.ht t.ht + 1) := Nat.pow_le_pow_right (by decide) (by omega)
    rw [Sen.parts, Sen.ht, List.length_cons, List.length_append, Nat.pow_succ]
    omega
theorem parts_ht {s p : Sen} (h : p ∈ s.parts) : p.ht ≤ s.ht := by
  induction s with
  | not s ih =>
    rw [Sen.parts] at h
    rcases List.mem_cons.mp h with rfl | h
    · exact Nat.le_refl _
    · have := ih h; rw [Sen.ht]; omega
  | bin w s t ih1 ih2 =>
    rw [Sen.parts] at h
    rcases List.mem_cons.mp h with rfl | h
    · exact Nat.le_refl _
    · rw [Sen.ht]
      rcases List.mem_append.mp h with h | h
      · have := ih1 h; omega
      · have := ih2 h; omega
  | _ => simp [Sen.parts] at h; rw [h]; exact Nat.le_refl _
theorem parts_basics {s p : Sen} (h : p ∈ s.parts) : ∀ b ∈ p.basics, b ∈ s.basics := by
  induction s with
  | not s ih =>
    rw [Sen.parts] at h
    rcases List.mem_cons.mp h with rfl | h
    · exact fun b hb => hb
    · exact ih h
  | bin w s t ih1 ih2 =>
    rw [Sen.parts] at h
    rcases List.mem_cons.mp h with rfl | h
    · exact fun b hb => hb
    · intro b hb
      rw [Sen.basics]
      rcases List.mem_append.mp h with h | h
      · exact List.mem_append_left _ (ih1 h b hb)
      · exact List.mem_append_right _ (ih2 h b hb)
  | _ => simp [Sen.parts] at h; rw [h]; exact fun b hb => hb
theorem kids_parts {s x : Sen} {i : Nat} (h : s.kids[i]? = some x) : 1 + ((s.kids.take i).map Sen.parts).flatten.length + x.parts.length ≤ s.parts.length := by
  cases s with
  | not t =>
    simp only [Sen.kids] at h ⊢
    cases i with
    | zero => cases h; simp [Sen.parts]; omega
    | succ i => simp at h
  | bin w a b =>
    simp only [Sen.kids] at h ⊢
    cases i with
    | zero => cases h; simp [Sen.parts]; omega
    | succ i => cases i with
      | zero => cases h; simp [Sen.parts]; omega
      | succ i => simp at h
  | _ => simp [Sen.kids] at h
def wordy : Sen → Bool
  | .not _ => true
  | .bin .. => true
  | _ => false
theorem val_word (s : Sen) : ∃ w r, s.val = .tup (.str w :: r) ∧ decide (w ∈ [Str.ofString "not", Str.ofString "and", Str.ofString "or", Str.ofString "implies", Str.ofString "iff"]) = wordy s ∧ (wordy s = true → r = s.kids.map Sen.val) ∧ (wordy s = false → s.kids = []) := by
  cases s with
  | tt => exact ⟨Str.ofString "true", [], by rw [Sen.val], by decide +kernel, by simp [wordy], by simp [Sen.kids]⟩
  | ff => exact ⟨Str.ofString "false", [], by rw [Sen.val], by decide +kernel, by simp [wordy], by simp [Sen.kids]⟩
  | hold a => exact ⟨Str.ofString "holds", [a], by rw [Sen.val], (by decide +kernel : decide (Str.ofString "holds" ∈ [Str.ofString "not", Str.ofString "and", Str.ofString "or", Str.ofString "implies", Str.ofString "iff"]) = false), by simp [wordy], by simp [Sen.kids]⟩
  | same a b => exact ⟨Str.ofString "same", [a, b], by rw [Sen.val], (by decide +kernel : decide (Str.ofString "same" ∈ [Str.ofString "not", Str.ofString "and", Str.ofString "or", Str.ofString "implies", Str.ofString "iff"]) = false), by simp [wordy], by simp [Sen.kids]⟩
  | not t => exact ⟨Str.ofString "not", [t.val], by rw [Sen.val], (by decide +kernel : decide (Str.ofString "not" ∈ [Str.ofString "not", Str.ofString "and", Str.ofString "or", Str.ofString "implies", Str.ofString "iff"]) = true), fun _ => rfl, by simp [wordy]⟩
  | bin w a b => exact ⟨w.str, [a.val, b.val], by rw [Sen.val], (by cases w <;> decide +kernel : decide (w.str ∈ [Str.ofString "not", Str.ofString "and", Str.ofString "or", Str.ofString "implies", Str.ofString "iff"]) = true), fun _ => rfl, by simp [wordy]⟩
section
variable {P : Prog} (F : FactP P)
include F
theorem parts_ok : ∀ (d : Nat) {s : Sen}, s.ht ≤ d → s.parts.length ≤ sizeMax → ∀ {k : Nat} {h : Hpe}, d + 2 ≤ k → WP (call P k (Str.ofString "_law_parts") [s.val] h) fun v h' => ∃ n, v = .ref n ∧ h.length ≤ n ∧ Le h h' ∧ h'[n]? = some (.lst (s.parts.map Sen.val)) := by
  intro d
  induction d using Nat.strongRecOn with
  | _ d ih =>
  intro s hd hc k h hk
  obtain ⟨k, rfl⟩ : ∃ j, k = j + 1 := ⟨k - 1, by omega⟩
  refine call_of (σ := [some s.val, none, none]) F.law_parts rfl rfl ?_
  unfold B__law_parts
  obtain ⟨w, r, ev, hw, er, ek⟩ := val_word s
  array_mem_dec
  rw [ev]
  array_mem_dec
  refine in_words (ys := [Str.ofString "not", Str.ofString "and", Str.ofString "or", Str.ofString "implies", Str.ofString "iff"]) ?_
  rw [hw]
  refine ⟨fun hc2 => ?_, fun hc2 => ?_⟩
  · have er := er hc2
    subst er
    array_mem_dec
    refine ⟨1, rfl, ?_⟩
    array_mem_dec
    refine .inl ⟨_, rfl, ?_⟩
    rw [cut_tail]
    refine forL_rule (fun i σ h2 => i ≤ s.kids.length ∧ ∃ m c2, σ = [some (.tup (.str w :: s.kids.map Sen.val)), some (.ref m), c2] ∧ h.length ≤ m ∧ Le h h2 ∧ h2[m]? = some (.lst ((s :: ((s.kids.take i).map Sen.parts).flatten).map Sen.val))) (s.kids.map Sen.val) 0
      ⟨Nat.zero_le _, h.length, none, rfl, Nat.le_refl _, Le.push _ _, by rw [at_push]; simp [ev]⟩ (fun _ _ _ _ => rfl) ?_ ?_
    · rintro i x σ h2 hx ⟨hi, m, c2, rfl, hm, l, hr⟩
      rw [Nat.zero_add] at hr ⊢
      rw [List.getElem?_map] at hx
      obtain ⟨y, hy, rfl⟩ := Option.map_eq_some_iff.mp hx
      have hym := List.mem_of_getElem? hy
      have hlt := (List.getElem?_eq_some_iff.mp hy).1
      have h1 := kids_ht hym
      have h4 := kids_parts hy
      refine ⟨_, rfl, ?_⟩
      array_mem_dec
      refine (ih y.ht (by omega) (Nat.le_refl _) (by omega) (by omega)).mono ?_
      rintro _ h5 ⟨n, rfl, hn, l5, e5⟩
      array_mem_dec
      refine op_catl (l5 _ _ hr) e5 (by rw [List.length_map, List.length_map, List.length_cons]; omega) ?_
      array_mem_dec
      refine ⟨by omega, _, _, rfl, (l.trans l5).len, (l.trans l5).trans (Le.push _ _), ?_⟩
      rw [at_push, take_flat _ _ _ hy, ← List.map_append, List.cons_append]
    · rintro σ h2 ⟨hi, m, c2, rfl, hm, l, hr⟩
      array_mem_dec
      refine ⟨_, rfl, hm, l, ?_⟩
      rw [hr, List.length_map, Nat.zero_add, List.take_length, ← parts_kids]
  · array_mem_dec
    refine ⟨_, rfl, Nat.le_refl _, Le.push _ _, ?_⟩
    rw [at_push, parts_kids, ek hc2, ← ev]
    rfl
end
end Ev
/-! K01Form: facts formed as told. -/
namespace Ev
open PySem
theorem fact_turn {U : Str → Bool} {a b : Val} (ha : clean U a = true) (hb : clean U b = true) (hn : a ≠ b) : (Sen.same b a).fact = (Sen.same a b).fact := by
  have ht : txt a ≠ txt b := fun e => hn (txt_inj ha hb e)
  rw [Sen.fact, Sen.fact]
  rcases bef_total ht with h | h
  · have := bef_asymm h
    rw [h, this]
    rfl
  · have := bef_asymm h
    rw [h, this]
    rfl
theorem holds4 : (Str.ofString "holds").length = 5 ∧ (Str.ofString "same").length = 4 := by decide +kernel
theorem val_part {s : Sen} {D : Nat} (h : s.Ok D) : Part (D + 2) sizeMax s.val := by
  have hM : sizeMax = 16777216 := rfl
  have vt := val_tm h
  obtain ⟨e1, e2⟩ := holds4
  refine ⟨vt.1, Nat.le_succ_of_le vt.2, ?_⟩
  cases s with
  | hold a =>
    have := h.2
    simp only [Sen.val, wt, wts]
    omega
  | same a b =>
    have := h.2.2
    simp only [Sen.val, wt, wts]
    omega
  | _ => exact h.elim
theorem factsV_part {bs : List Sen} {D : Nat} (h : ∀ b ∈ bs, b.Ok D) : ∀ x ∈ factsV bs, Part (D + 2) sizeMax x := by
  intro x hx
  obtain ⟨b, hb, _, rfl⟩ := factsV_mem hx
  exact val_part (fact_ok (h b hb))
section
variable {P : Prog} (L : LibP P) (S : SentP P) (T : Term0 P) (G : LawT P) (F : FactP P) (hp : P.con (Str.ofString "PAIRS") = some (.tup ([Str.ofString "and", Str.ofString "or", Str.ofString "implies", Str.ofString "iff"].map Val.str))) (hb : P.con (Str.ofString "BINDERS") = some (.tup ([Str.ofString "all", Str.ofString "some"].map Val.str)))
include L S T G F hp hb
theorem formed_ok {s : Sen} {D d : Nat} {U : Str → Bool} (hd : s.ht ≤ d) (hc : s.cnt < 1000) (hs : s.All D U) (hD : D ≤ 80) {k : Nat} {h : Hpe} (hk : D + d + 8 ≤ k) :
    WP (call P k (Str.ofString "_law_formed") [s.val] h) fun v h' => v = .bl true ∧ Le h h' := by
  obtain ⟨k, rfl⟩ : ∃ j, k = j + 1 := ⟨k - 1, by omega⟩
  have hM : sizeMax = 16777216 := rfl
  have hbl := basics_len s
  refine call_of (σ := [some s.val, none, none, none]) F.law_formed rfl rfl ?_
  unfold B__law_formed
  array_mem_dec
  refine (lbasics_ok S d hd (by omega) (by omega)).mono ?_
  rintro _ h1 ⟨m, rfl, hm, l1, e1⟩
  refine .inr ⟨m, _, rfl, lstAt_lst e1, ?_⟩
  refine forL_rule (fun i σ h2 => i ≤ s.basics.length ∧ ∃ c1 c2, σ = [some s.val, c1, c2, none] ∧ Le h1 h2) (s.basics.map Sen.val) 0
    ⟨Nat.zero_le _, none, none, rfl, .rfl⟩ (fun i σ h2 ⟨_, _, _, _, l⟩ => decide_eq_true (lstAt_lst (l _ _ e1))) ?_ ?_
  · rintro i x σ h2 hx ⟨hi, c1, c2, rfl, l⟩
    rw [List.getElem?_map] at hx
    obtain ⟨b, hbb, rfl⟩ := Option.map_eq_some_iff.mp hx
    have hlt := (List.getElem?_eq_some_iff.mp hbb).1
    obtain ⟨bo, bc⟩ := hs b (List.mem_of_getElem? hbb)
    have pf := val_part (fact_ok bo)
    have sm : ∀ h, Sm h (D + 2) b.fact.val b.fact.val := fun h => Sm.self _ (tm_flat _ pf.tm) pf.dep pf.wt
    rw [Nat.zero_add] at *
    refine ⟨[some s.val, some b.val, c2, none], rfl, ?_⟩
    cases b with
    | hold a =>
      have ev : (Sen.hold a).val = .tup [.str (Str.ofString "holds"), a] := rfl
      generalize hz : (Sen.hold a).val = z
      rw [hz] at ev
      rw [ev]
      array_mem_dec
      rw [← ev, ← hz]
      refine (make_fact_ok S T bo (by omega) (by omega)).mono ?_
      rintro _ h3 ⟨rfl, l3⟩
      array_mem_dec
      refine (same_ok L (D + 2) (by exact sm h3) (by omega)).mono ?_
      rintro _ h4 ⟨rfl, l4⟩
      array_mem_dec
      exact ⟨by omega, _, _, rfl, l.trans (l3.trans l4)⟩
    | same a b =>
      have ev : (Sen.same a b).val = .tup [.str (Str.ofString "same"), a, b] := rfl
      generalize hz : (Sen.same a b).val = z
      rw [hz] at ev
      rw [ev]
      array_mem_dec
      refine op_cmp (r := !decide (a = b)) (h' := h2) ?_ ?_
      · simp only [cmpop]
        rw [if_pos (canEq_tm bo.1.tm bo.2.1.tm (by have := bo.1.dep; omega)), eqv_flat a b bo.1.tm bo.2.1.tm]
      refine ⟨fun hp => ?_, fun hp => ?_⟩
      · have hp : a ≠ b := by simpa using hp
        have ft := fact_turn bc.1 bc.2 hp
        array_mem_dec
        rw [← ev, ← hz]
        refine (lfact_ok S G bo (by omega) (by omega)).mono ?_
        rintro _ h3 ⟨rfl, l3⟩
        array_mem_dec
        refine (make_fact_ok S T bo (by omega) (by omega)).mono ?_
        rintro _ h4 ⟨rfl, l4⟩
        array_mem_dec
        refine (same_ok L (D + 2) (sm h4) (by omega)).mono ?_
        rintro _ h5 ⟨rfl, l5⟩
        array_mem_dec
        rw [hz, ev]
        array_mem_dec
        refine (make_fact_ok S T (s := .same b a) ⟨bo.2.1, bo.1, by have := bo.2.2; omega⟩ (by omega) (by omega)).mono ?_
        rintro _ h6 ⟨rfl, l6⟩
        rw [ft]
        array_mem_dec
        refine (same_ok L (D + 2) (sm h6) (by omega)).mono ?_
        rintro _ h7 ⟨rfl, l7⟩
        array_mem_dec
        exact ⟨by omega, _, _, rfl, l.trans (l3.trans (l4.trans (l5.trans (l6.trans l7))))⟩
      · array_mem_dec
        exact ⟨by omega, _, _, rfl, l⟩
    | _ => exact bo.elim
  · rintro σ h2 ⟨hi, c1, c2, rfl, l⟩
    have hfl := factsV_len s.basics
    have fp := factsV_part fun b hb => (hs b hb).1
    array_mem_dec
    refine (lfacts_ok S G F (U := U) hd (by omega) hs (by omega) (by omega)).mono ?_
    rintro _ h3 ⟨n3, rfl, hn3, l3, e3⟩
    array_mem_dec
    refine (facts_in_ok S T F hp hb (U := U) hd (by omega) hs (by omega) (by omega)).mono ?_
    rintro _ h4 ⟨n4, rfl, hn4, l4, e4⟩
    have e34 := l4 _ _ e3
    have hlt := (List.getElem?_eq_some_iff.mp e3).1
    array_mem_dec
    refine (same_ok L (D + 2 + 1) (Sm.lists e4 e34 (by omega) fp) (by omega)).mono ?_
    rintro _ h5 ⟨rfl, l5⟩
    have e35 := l5 _ _ e34
    have e45 := l5 _ _ e4
    array_mem_dec
    refine ⟨rc_lst (by decide) (by decide) e45, ?_⟩
    array_mem_dec
    refine mt_app e45 (by omega) ?_
    have l6 : Le h (h5.set n4 (.lst (factsV s.basics ++ [.tup [.str (Str.ofString "holds"), .tup [.str (Str.ofString "Z")]]]))) := (l1.trans (l.trans (l3.trans (l4.trans l5)))).set (by have := (l1.trans (l.trans l3)).len; omega) _
    have e36 : (h5.set n4 (.lst (factsV s.basics ++ [.tup [.str (Str.ofString "holds"), .tup [.str (Str.ofString "Z")]]])))[n3]? = some (.lst (factsV s.basics)) := at_set_ne (by omega) e35
    array_mem_dec
    refine (facts_in_ok S T F hp hb (U := U) hd (by omega) hs (by omega) (by omega)).mono ?_
    rintro _ h7 ⟨n7, rfl, hn7, l7, e7⟩
    array_mem_dec
    refine (same_ok L (D + 2 + 1) (Sm.lists e7 (l7 _ _ e36) (by omega) fp) (by omega)).mono ?_
    rintro _ h8 ⟨rfl, l8⟩
    exact ⟨rfl, l6.trans (l7.trans l8)⟩
end
end Ev
/-! K01World: ground sentences in a world. -/
namespace Ev
open PySem
/-- _law_entry(tables, size, name, things): tables, size, name, things, at, thing -/
def B__law_entry : Ss := .cons (.set 4 (.con (.int 0))) (.cons (.fors (.nm 5) (.seq (.var 3)) (.cons (.set 4 (.bin .add (.bin .mul (.var 4) (.var 1)) (.var 5))) .nil)) (.cons (.ret (.ix (.ix (.var 0) (.var 2)) (.var 4))) .nil))
/-- _law_value(tables, size, term, values): tables, size, term, values, part -/
def B__law_value : Ss := .cons (.ifs (.val (.isi (.var 2) .str)) (.cons (.ret (.ix (.var 3) (.var 2))) .nil) (.nil)) (.cons (.ret (.call "_law_entry" (.cons (.var 0) (.cons (.var 1) (.cons (.ix (.var 2) (.con (.int 0))) (.cons (.lc (.call "_law_value" (.cons (.var 0) (.cons (.var 1) (.cons (.var 4) (.cons (.var 3) .nil))))) (.nm 4) (.seq (.sl (.var 2) (.yes (.con (.int 1))) .no)) .tt [4]) .nil)))))) .nil)
/-- _law_true(tables, size, sentence, values): tables, size, sentence, values, word, one, two -/
def B__law_true : Ss := .cons (.set 4 (.ix (.var 2) (.con (.int 0)))) (.cons (.ifs (.or (.cmp .eq (.var 4) (.con (.str "true"))) (.one (.cmp .eq (.var 4) (.con (.str "false"))))) (.cons (.ret (.cmp .eq (.var 4) (.con (.str "true")))) .nil) (.nil)) (.cons (.ifs (.cmp .eq (.var 4) (.con (.str "holds"))) (.cons (.ret (.call "_law_value" (.cons (.var 0) (.cons (.var 1) (.cons (.ix (.var 2) (.con (.int 1))) (.cons (.var 3) .nil)))))) .nil) (.nil)) (.cons (.ifs (.cmp .eq (.var 4) (.con (.str "same"))) (.cons (.ret (.cmp .eq (.call "_law_value" (.cons (.var 0) (.cons (.var 1) (.cons (.ix (.var 2) (.con (.int 1))) (.cons (.var 3) .nil))))) (.call "_law_value" (.cons (.var 0) (.cons (.var 1) (.cons (.ix (.var 2) (.con (.int 2))) (.cons (.var 3) .nil))))))) .nil) (.nil)) (.cons (.ifs (.cmp .eq (.var 4) (.con (.str "not"))) (.cons (.ret (.notv (.call "_law_true" (.cons (.var 0) (.cons (.var 1) (.cons (.ix (.var 2) (.con (.int 1))) (.cons (.var 3) .nil))))))) .nil) (.nil)) (.cons (.ifs (.cmp .inn (.var 4) (.tup (.cons (.con (.str "all")) (.cons (.con (.str "some")) .nil)))) (.cons (.ret (.call "_law_bound" (.cons (.var 0) (.cons (.var 1) (.cons (.var 2) (.cons (.var 3) .nil)))))) .nil) (.nil)) (.cons (.set 5 (.call "_law_true" (.cons (.var 0) (.cons (.var 1) (.cons (.ix (.var 2) (.con (.int 1))) (.cons (.var 3) .nil)))))) (.cons (.ifs (.or (.and (.cmp .eq (.var 4) (.con (.str "and"))) (.one (.not (.val (.var 5))))) (.one (.and (.cmp .eq (.var 4) (.con (.str "or"))) (.one (.val (.var 5)))))) (.cons (.ret (.var 5)) .nil) (.nil)) (.cons (.ifs (.and (.cmp .eq (.var 4) (.con (.str "implies"))) (.one (.not (.val (.var 5))))) (.cons (.ret (.con (.bl true))) .nil) (.nil)) (.cons (.set 6 (.call "_law_true" (.cons (.var 0) (.cons (.var 1) (.cons (.ix (.var 2) (.con (.int 2))) (.cons (.var 3) .nil)))))) (.cons (.ifs (.cmp .eq (.var 4) (.con (.str "iff"))) (.cons (.ret (.cmp .eq (.var 5) (.var 6))) .nil) (.nil)) (.cons (.ret (.var 6)) .nil)))))))))))
/-- the program has these defs -/
structure WorldP (P : Prog) : Prop where
  law_entry : P.fn (Str.ofString "_law_entry") = some ⟨4, 6, B__law_entry⟩
  law_value : P.fn (Str.ofString "_law_value") = some ⟨4, 5, B__law_value⟩
  law_true : P.fn (Str.ofString "_law_true") = some ⟨4, 7, B__law_true⟩
/-- a world: how many things, tables, arities -/
structure Wo where
  z : Nat
  tab : Str → List Val
  fn : Str → Option Nat
  rel : Str → Option Nat
structure Wo.Ok (W : Wo) : Prop where
  pos : 0 < W.z
  le : W.z ≤ 1000
  fns : ∀ f n, W.fn f = some n → (W.tab f).length = W.z ^ n ∧ ∀ v ∈ W.tab f, ∃ i : Nat, v = .int i ∧ i < W.z
  rels : ∀ f n, W.rel f = some n → (W.tab f).length = W.z ^ n ∧ ∀ v ∈ W.tab f, ∃ b, v = .bl b
def Wo.At (W : Wo) (h : Hpe) (t : Nat) : Prop := ∃ kvs, h[t]? = some (.dic kvs) ∧ ∀ f, (W.fn f).isSome = true ∨ (W.rel f).isSome = true → ∃ r, lookD kvs (.str f) = some (.ref r) ∧ h[r]? = some (.lst (W.tab f))
theorem Wo.At.le {W : Wo} {h h' : Hpe} {t : Nat} (e : W.At h t) (l : Le h h') : W.At h' t := by
  obtain ⟨kvs, e1, e2⟩ := e
  refine ⟨kvs, l _ _ e1, fun f hf => ?_⟩
  obtain ⟨r, h1, h2⟩ := e2 f hf
  exact ⟨r, h1, l _ _ h2⟩
mutual
def gnd (g : Str → Option Nat) : Val → Bool
  | .tup (.str f :: as) => decide (g f = some as.length) && gnds g as
  | _ => false
def gnds (g : Str → Option Nat) : List Val → Bool
  | [] => true
  | x :: xs => gnd g x && gnds g xs
end
def atm (g r : Str → Option Nat) : Val → Bool
  | .tup (.str p :: as) => decide (r p = some as.length) && gnds g as
  | _ => false
/-- where a row of things stands in a table -/
def idx (z : Nat) : Nat → List Nat → Nat
  | a, [] => a
  | a, i :: r => idx z (a * z + i) r
mutual
def wv (W : Wo) : Val → Nat
  | .tup (.str f :: as) => match (W.tab f)[idx W.z 0 (wvs W as)]? with
    | some (.int i) => i.toNat
    | _ => 0
  | _ => 0
def wvs (W : Wo) : List Val → List Nat
  | [] => []
  | x :: xs => wv W x :: wvs W xs
end
def wb (W : Wo) : Val → Bool
  | .tup (.str p :: as) => match (W.tab p)[idx W.z 0 (wvs W as)]? with
    | some (.bl b) => b
    | _ => false
  | _ => false
theorem wvs_map (W : Wo) : ∀ xs : List Val, wvs W xs = xs.map (wv W)
  | [] => rfl
  | x :: xs => by rw [wvs, wvs_map W xs]; rfl
theorem gnds_mem {g : Str → Option Nat} : ∀ {xs : List Val}, gnds g xs = true → ∀ x ∈ xs, gnd g x = true
  | [], _, x, hx => by simp at hx
  | y :: ys, h, x, hx => by
    rw [gnds, Bool.and_eq_true] at h
    rcases List.mem_cons.mp hx with rfl | hx
    · exact h.1
    · exact gnds_mem h.2 x hx
theorem gnd_cases {g : Str → Option Nat} {t : Val} (h : gnd g t = true) : ∃ f as, t = .tup (.str f :: as) ∧ g f = some as.length ∧ gnds g as = true := by
  unfold gnd at h
  split at h
  · rw [Bool.and_eq_true] at h
    exact ⟨_, _, rfl, of_decide_eq_true h.1, h.2⟩
  · cases h
theorem atm_cases {g r : Str → Option Nat} {t : Val} (h : atm g r t = true) : ∃ f as, t = .tup (.str f :: as) ∧ r f = some as.length ∧ gnds g as = true := by
  unfold atm at h
  split at h
  · rw [Bool.and_eq_true] at h
    exact ⟨_, _, rfl, of_decide_eq_true h.1, h.2⟩
  · cases h
theorem idx_lt {z : Nat} : ∀ (is : List Nat) (a : Nat), (∀ i ∈ is, i < z) → idx z a is < (a + 1) * z ^ is.length
  | [], a, _ => by simp [idx]
  | i :: r, a, h => by
    have h1 := idx_lt r (a * z + i) fun j hj => h j (List.mem_cons_of_mem _ hj)
    have h2 := h i List.mem_cons_self
    have h3 : (a * z + i + 1) * z ^ r.length ≤ ((a + 1) * z) * z ^ r.length := Nat.mul_le_mul_right _ (by rw [Nat.add_mul]; omega)
    have h4 : ((a + 1) * z) * z ^ r.length = (a + 1) * z ^ (r.length + 1) := by rw [Nat.mul_assoc, Nat.pow_succ, Nat.mul_comm z]
    rw [idx, List.length_cons]
    omega
theorem idx_take {z : Nat} : ∀ (is : List Nat) (a n : Nat) {i : Nat}, is[n]? = some i → idx z a (is.take (n + 1)) = idx z a (is.take n) * z + i
  | [], _, _, _, h => by simp at h
  | j :: r, a, 0, i, h => by cases h; simp [idx]
  | j :: r, a, n + 1, i, h => by
    have := idx_take (z := z) r (a * z + j) n (i := i) (by simpa using h)
    simpa [idx] using this
mutual
theorem wv_lt {W : Wo} (O : W.Ok) : ∀ t : Val, gnd W.fn t = true → wv W t < W.z
  | .tup (.str f :: as), h => by
    rw [gnd, Bool.and_eq_true] at h
    have h1 := of_decide_eq_true h.1
    obtain ⟨hl, hv⟩ := O.fns f _ h1
    have h2 := idx_lt (z := W.z) (wvs W as) 0 (wvs_lt O as h.2)
    rw [wvs_map, List.length_map, Nat.zero_add, Nat.one_mul, ← hl, ← wvs_map] at h2
    obtain ⟨i, e, hi⟩ := hv _ (List.getElem_mem h2)
    rw [wv, List.getElem?_eq_getElem h2, e]
    simpa using hi
  | .tup [], h | .tup (.non :: _), h | .tup (.bl _ :: _), h | .tup (.int _ :: _), h | .tup (.tup _ :: _), h | .tup (.ref _ :: _), h => by simp [gnd] at h
  | .non, h | .bl _, h | .int _, h | .ref _, h | .str _, h => by simp [gnd] at h
theorem wvs_lt {W : Wo} (O : W.Ok) : ∀ ts : List Val, gnds W.fn ts = true → ∀ i ∈ wvs W ts, i < W.z
  | [], _, i, hi => by simp [wvs] at hi
  | x :: xs, h, i, hi => by
    rw [gnds, Bool.and_eq_true] at h
    rw [wvs] at hi
    rcases List.mem_cons.mp hi with rfl | hi
    · exact wv_lt O x h.1
    · exact wvs_lt O xs h.2 i hi
end
theorem wv_at {W : Wo} (O : W.Ok) {f : Str} {as : List Val} (hf : W.fn f = some as.length) (hg : gnds W.fn as = true) : (W.tab f)[idx W.z 0 (wvs W as)]? = some (.int (wv W (.tup (.str f :: as)) : Nat)) := by
  obtain ⟨hl, hv⟩ := O.fns f _ hf
  have h2 := idx_lt (z := W.z) (wvs W as) 0 (wvs_lt O as hg)
  rw [wvs_map, List.length_map, Nat.zero_add, Nat.one_mul, ← hl, ← wvs_map] at h2
  obtain ⟨i, e, hi⟩ := hv _ (List.getElem_mem h2)
  rw [wv, List.getElem?_eq_getElem h2, e]
  simp
theorem wb_at {W : Wo} (O : W.Ok) {f : Str} {as : List Val} (hf : W.rel f = some as.length) (hg : gnds W.fn as = true) : (W.tab f)[idx W.z 0 (wvs W as)]? = some (.bl (wb W (.tup (.str f :: as)))) := by
  obtain ⟨hl, hv⟩ := O.rels f _ hf
  have h2 := idx_lt (z := W.z) (wvs W as) 0 (wvs_lt O as hg)
  rw [wvs_map, List.length_map, Nat.zero_add, Nat.one_mul, ← hl, ← wvs_map] at h2
  obtain ⟨b, e⟩ := hv _ (List.getElem_mem h2)
  rw [wb, List.getElem?_eq_getElem h2, e]
section
variable {P : Prog} (E : WorldP P)
include E
theorem entry_ok {W : Wo} (O : W.Ok) {h : Hpe} {t m : Nat} (e : W.At h t) {f : Str} (hf : (W.fn f).isSome = true ∨ (W.rel f).isSome = true) {is : List Nat} (em : h[m]? = some (.lst (is.map fun i => Val.int (i : Nat)))) {v : Val} (hv : (W.tab f)[idx W.z 0 is]? = some v) {k : Nat} (hk : 1 ≤ k) :
    WP (call P k (Str.ofString "_law_entry") [.ref t, .int W.z, .str f, .ref m] h) fun r h' => r = v ∧ h' = h := by
  obtain ⟨k, rfl⟩ : ∃ j, k = j + 1 := ⟨k - 1, by omega⟩
  have hz := O.le
  refine call_of (σ := [some (.ref t), some (.int W.z), some (.str f), some (.ref m), none, none]) E.law_entry rfl rfl ?_
  unfold B__law_entry
  array_mem_dec
  refine .inr ⟨m, _, rfl, lstAt_lst em, ?_⟩
  refine forL_rule (fun i σ h2 => i ≤ is.length ∧ ∃ c5, σ = [some (.ref t), some (.int W.z), some (.str f), some (.ref m), some (.int (idx W.z 0 (is.take i) : Nat)), c5] ∧ h2 = h) _ 0
    ⟨Nat.zero_le _, none, rfl, rfl⟩ (fun i σ h2 ⟨_, _, _, eh⟩ => by rw [eh]; exact decide_eq_true (lstAt_lst em)) ?_ ?_
  · rintro i x σ h2 hx ⟨hi, c5, rfl, rfl⟩
    rw [List.getElem?_map] at hx
    obtain ⟨j, hj, rfl⟩ := Option.map_eq_some_iff.mp hx
    have hlt := (List.getElem?_eq_some_iff.mp hj).1
    rw [Nat.zero_add] at *
    refine ⟨[some (.ref t), some (.int W.z), some (.str f), some (.ref m), some (.int (idx W.z 0 (is.take i) : Nat)), some (.int (j : Nat))], rfl, ?_⟩
    array_mem_dec
    refine op_muli (.inr (by omega)) ?_
    array_mem_dec
    refine ⟨by omega, some (.int (j : Nat)), ?_, rfl⟩
    rw [idx_take _ _ _ hj]
    simp
  · rintro σ h2 ⟨hi, c5, rfl, rfl⟩
    rw [List.length_map, Nat.zero_add, List.take_length]
    obtain ⟨kvs, e1, e2⟩ := e
    obtain ⟨r, h1, h3⟩ := e2 f hf
    array_mem_dec
    refine ix_dic (dicAt_dic e1) h1 ?_
    array_mem_dec
    have hlt := (List.getElem?_eq_some_iff.mp hv).1
    exact ix_lst (lstAt_lst h3) (place_nat hlt) hv ⟨rfl, rfl⟩
/-- the value of a word with ground arguments -/
theorem value_step {W : Wo} (O : W.Ok) {t c : Nat} {f : Str} {as : List Val} {v : Val} {k : Nat} (hf : (W.fn f).isSome = true ∨ (W.rel f).isSome = true) (hg : gnds W.fn as = true) (hl : as.length ≤ 1000) (hv : (W.tab f)[idx W.z 0 (wvs W as)]? = some v)
    (ih : ∀ x ∈ as, ∀ h, W.At h t → WP (call P k (Str.ofString "_law_value") [.ref t, .int W.z, x, .ref c] h) fun r h' => r = .int (wv W x : Nat) ∧ Le h h') (hk : 1 ≤ k) {h : Hpe} (e : W.At h t) :
    WP (call P (k + 1) (Str.ofString "_law_value") [.ref t, .int W.z, .tup (.str f :: as), .ref c] h) fun r h' => r = v ∧ Le h h' := by
  have hM : sizeMax = 16777216 := rfl
  refine call_of (σ := [some (.ref t), some (.int W.z), some (.tup (.str f :: as)), some (.ref c), none]) E.law_value rfl rfl ?_
  unfold B__law_value
  array_mem_dec
  refine wp_map as id (fun x => .int (wv W x : Nat)) ?_
  array_mem_dec
  refine ⟨1, rfl, ?_⟩
  array_mem_dec
  refine .inl ⟨_, rfl, ?_⟩
  refine ⟨by rw [cut_tail, List.map_id], by omega, rfl, fun x hx h2 l2 => ⟨[some (.ref t), some (.int W.z), some (.tup (.str f :: as)), some (.ref c), some x], rfl, ?_⟩, fun h3 l3 q => ?_⟩
  · array_mem_dec
    exact ih x hx h2 (e.le l2)
  · array_mem_dec
    refine (entry_ok E O (e.le l3) hf (is := wvs W as) ?_ hv hk).mono ?_
    · rw [q, wvs_map, List.map_map]; rfl
    · rintro _ _ ⟨rfl, rfl⟩
      exact ⟨rfl, l3⟩
theorem value_ok {W : Wo} (O : W.Ok) {t c : Nat} : ∀ (d : Nat) {x : Val}, x.dep ≤ d → gnd W.fn x = true → wt x ≤ 1000 → ∀ {k : Nat} {h : Hpe}, W.At h t → d + 1 ≤ k →
    WP (call P k (Str.ofString "_law_value") [.ref t, .int W.z, x, .ref c] h) fun r h' => r = .int (wv W x : Nat) ∧ Le h h' := by
  intro d
  induction d with
  | zero =>
    intro x hd hg
    obtain ⟨f, as, rfl, _⟩ := gnd_cases hg
    rw [Val.dep] at hd
    omega
  | succ d ih =>
    intro x hd hg hw k h e hk
    obtain ⟨f, as, rfl, hf, hgs⟩ := gnd_cases hg
    obtain ⟨k, rfl⟩ : ∃ j, k = j + 1 := ⟨k - 1, by omega⟩
    rw [Val.dep, Val.deps] at hd
    rw [wt, wts] at hw
    have hl := wts_len as
    refine value_step E O (.inl (by rw [hf]; rfl)) hgs (by omega) (wv_at O hf hgs) (fun y hy h2 e2 => ?_) (by omega) e
    have h1 := deps_mem hy
    have h3 := wts_mem hy
    exact ih (by omega) (gnds_mem hgs y hy) (by omega) e2 (by omega)
theorem atom_ok {W : Wo} (O : W.Ok) {t c : Nat} {d : Nat} {x : Val} (hd : x.dep ≤ d) (hg : atm W.fn W.rel x = true) (hw : wt x ≤ 1000) {k : Nat} {h : Hpe} (e : W.At h t) (hk : d + 2 ≤ k) :
    WP (call P k (Str.ofString "_law_value") [.ref t, .int W.z, x, .ref c] h) fun r h' => r = .bl (wb W x) ∧ Le h h' := by
  obtain ⟨f, as, rfl, hf, hgs⟩ := atm_cases hg
  obtain ⟨k, rfl⟩ : ∃ j, k = j + 1 := ⟨k - 1, by omega⟩
  rw [Val.dep, Val.deps] at hd
  rw [wt, wts] at hw
  have hl := wts_len as
  refine value_step E O (.inr (by rw [hf]; rfl)) hgs (by omega) (wb_at O hf hgs) (fun y hy h2 e2 => ?_) (by omega) e
  have h1 := deps_mem hy
  have h3 := wts_mem hy
  exact value_ok E O d (by omega) (gnds_mem hgs y hy) (by omega) e2 (by omega)
end
/-! ### truth -/
def Wd.tru : Wd → Bool → Bool → Bool
  | .and, a, b => a && b
  | .or, a, b => a || b
  | .imp, a, b => !a || b
  | .iff, a, b => a == b
def Sen.tru (W : Wo) : Sen → Bool
  | .tt => true
  | .ff => false
  | .hold a => wb W a
  | .same a b => decide (wv W a = wv W b)
  | .not s => !s.tru W
  | .bin w s t => w.tru (s.tru W) (t.tru W)
/-- basics over the world's words, of terms at most D deep -/
def Sen.Gr (g r : Str → Option Nat) (D : Nat) : Sen → Prop
  | .hold a => atm g r a = true ∧ wt a ≤ 1000 ∧ a.dep ≤ D
  | .same a b => (gnd g a = true ∧ gnd g b = true) ∧ (wt a ≤ 1000 ∧ wt b ≤ 1000) ∧ a.dep ≤ D ∧ b.dep ≤ D
  | _ => True
theorem Wd.no4 (w : Wd) : decide (w.str = Str.ofString "true") = false ∧ decide (w.str = Str.ofString "false") = false ∧ decide (w.str = Str.ofString "holds") = false ∧ decide (w.str = Str.ofString "same") = false ∧ decide (w.str ∈ [Str.ofString "all", Str.ofString "some"]) = false := by cases w <;> decide +kernel
section
variable {P : Prog} (E : WorldP P)
include E
theorem true_ok {W : Wo} (O : W.Ok) {t c : Nat} {D : Nat} : ∀ (s : Sen), (∀ b ∈ s.basics, b.Gr W.fn W.rel D) → ∀ {k : Nat} {h : Hpe}, W.At h t → D + s.ht + 3 ≤ k →
    WP (call P k (Str.ofString "_law_true") [.ref t, .int W.z, s.val, .ref c] h) fun r h' => r = .bl (s.tru W) ∧ Le h h' := by
  intro s
  induction s with
  | tt =>
    intro ha k h e hk
    obtain ⟨k, rfl⟩ : ∃ j, k = j + 1 := ⟨k - 1, by omega⟩
    refine call_of (σ := [some (.ref t), some (.int W.z), some Sen.tt.val, some (.ref c), none, none, none]) E.law_true rfl rfl ?_
    unfold B__law_true Sen.val
    array_mem_dec
    exact ⟨by simp [Sen.tru], .rfl⟩
  | ff =>
    intro ha k h e hk
    obtain ⟨k, rfl⟩ : ∃ j, k = j + 1 := ⟨k - 1, by omega⟩
    refine call_of (σ := [some (.ref t), some (.int W.z), some Sen.ff.val, some (.ref c), none, none, none]) E.law_true rfl rfl ?_
    unfold B__law_true Sen.val
    array_mem_dec
    refine ⟨?_, .rfl⟩
    rw [show (decide (Str.ofString "false" = Str.ofString "true")) = false by decide +kernel]
    rfl
  | hold a =>
    intro ha k h e hk
    obtain ⟨k, rfl⟩ : ∃ j, k = j + 1 := ⟨k - 1, by omega⟩
    obtain ⟨h1, h2, h3⟩ := ha (.hold a) (by simp [Sen.basics])
    refine call_of (σ := [some (.ref t), some (.int W.z), some (Sen.hold a).val, some (.ref c), none, none, none]) E.law_true rfl rfl ?_
    unfold B__law_true
    rw [Sen.val]
    array_mem_dec
    refine (atom_ok E O h3 h1 h2 e (by omega)).mono ?_
    rintro _ h4 ⟨rfl, l4⟩
    exact ⟨by rw [Sen.tru], l4⟩
  | same a b =>
    intro ha k h e hk
    obtain ⟨k, rfl⟩ : ∃ j, k = j + 1 := ⟨k - 1, by omega⟩
    obtain ⟨h1, h2, h3⟩ := ha (.same a b) (by simp [Sen.basics])
    refine call_of (σ := [some (.ref t), some (.int W.z), some (Sen.same a b).val, some (.ref c), none, none, none]) E.law_true rfl rfl ?_
    unfold B__law_true
    rw [Sen.val]
    array_mem_dec
    refine (value_ok E O D h3.1 h1.1 h2.1 e (by omega)).mono ?_
    rintro _ h4 ⟨rfl, l4⟩
    array_mem_dec
    refine (value_ok E O D h3.2 h1.2 h2.2 (e.le l4) (by omega)).mono ?_
    rintro _ h5 ⟨rfl, l5⟩
    array_mem_dec
    refine ⟨?_, l4.trans l5⟩
    rw [Sen.tru]
    congr 1
    exact decide_eq_decide.mpr Int.ofNat_inj
  | not s ih =>
    intro ha k h e hk
    obtain ⟨k, rfl⟩ : ∃ j, k = j + 1 := ⟨k - 1, by omega⟩
    rw [Sen.ht] at hk
    refine call_of (σ := [some (.ref t), some (.int W.z), some (Sen.not s).val, some (.ref c), none, none, none]) E.law_true rfl rfl ?_
    unfold B__law_true
    rw [Sen.val]
    array_mem_dec
    refine (ih ha e (by omega)).mono ?_
    rintro _ h1 ⟨rfl, l1⟩
    array_mem_dec
    exact ⟨by rw [Sen.tru], l1⟩
  | bin w s t2 ih1 ih2 =>
    intro ha k h e hk
    obtain ⟨k, rfl⟩ : ∃ j, k = j + 1 := ⟨k - 1, by omega⟩
    rw [Sen.ht] at hk
    have ha1 : ∀ b ∈ s.basics, b.Gr W.fn W.rel D := fun b hb => ha b (by rw [Sen.basics]; exact List.mem_append_left _ hb)
    have ha2 : ∀ b ∈ t2.basics, b.Gr W.fn W.rel D := fun b hb => ha b (by rw [Sen.basics]; exact List.mem_append_right _ hb)
    obtain ⟨n1, n2, n3, n4, n5⟩ := w.no4
    refine call_of (σ := [some (.ref t), some (.int W.z), some (Sen.bin w s t2).val, some (.ref c), none, none, none]) E.law_true rfl rfl ?_
    unfold B__law_true
    rw [Sen.val]
    array_mem_dec
    rw [n1]
    array_mem_dec
    rw [n2]
    array_mem_dec
    rw [n3]
    array_mem_dec
    rw [n4]
    array_mem_dec
    rw [w.no3]
    array_mem_dec
    rw [n5]
    array_mem_dec
    refine (ih1 ha1 e (by omega)).mono ?_
    rintro _ h1 ⟨rfl, l1⟩
    rw [Sen.tru]
    have two : ∀ {Q : Val → Hpe → Prop}, (∀ h', Le h h' → Q (.bl (t2.tru W)) h') → WP (call P k (Str.ofString "_law_true") [.ref t, .int W.z, t2.val, .ref c] h1) Q := fun q => (ih2 ha2 (e.le l1) (by omega)).mono fun r h' ⟨e, l⟩ => by rw [e]; exact q h' (l1.trans l)
    cases hs : s.tru W <;> cases w <;> (
      unfold Wd.str
      array_mem_dec
      first
        | exact ⟨rfl, l1⟩
        | (refine two fun h2 l2 => ?_
           array_mem_dec
           refine ⟨?_, l2⟩
           cases t2.tru W <;> rfl))
end
end Ev
/-! K01Sem: what is settled is so in the world, and stays with further answers. -/
namespace Ev
open PySem
theorem tru_fact (W : Wo) (s : Sen) : s.fact.tru W = s.tru W := by
  cases s with
  | same a b =>
    rw [Sen.fact]
    split
    · rw [Sen.tru, Sen.tru]
      exact decide_eq_decide.mpr eq_comm
    · rfl
  | _ => rfl
theorem join_up {w : Wd} {a b a' b' : Option Bool} (ha : ∀ x, a = some x → a' = some x) (hb : ∀ x, b = some x → b' = some x) {x : Bool} (h : join w a b = some x) : join w a' b' = some x := by
  rcases a with _ | a
  · rcases b with _ | b
    · cases w <;> simp [join] at h
    · rw [hb b rfl]
      rcases a' with _ | a'
      · exact h
      · cases w <;> cases a' <;> cases b <;> cases x <;> simp [join] at h ⊢
  · rw [ha a rfl]
    rcases b with _ | b
    · rcases b' with _ | b'
      · exact h
      · cases w <;> cases a <;> cases b' <;> cases x <;> simp [join] at h ⊢
    · rw [hb b rfl]
      exact h
theorem join_tru (w : Wd) (a b : Bool) : join w (some a) (some b) = some (w.tru a b) := by
  cases w <;> cases a <;> cases b <;> rfl
theorem settle_up {s : Sen} {f g : Val → Option Bool} (h : ∀ b ∈ s.basics, ∀ x, f b.fact.val = some x → g b.fact.val = some x) : ∀ {x : Bool}, s.settle f = some x → s.settle g = some x := by
  induction s with
  | tt => exact fun e => e
  | ff => exact fun e => e
  | hold a => exact fun e => h (.hold a) (by simp [Sen.basics]) _ e
  | same a b =>
    intro x e
    rw [Sen.settle] at e ⊢
    split
    · rename_i hab
      rw [if_pos hab] at e
      exact e
    · rename_i hab
      rw [if_neg hab] at e
      exact h (.same a b) (by simp [Sen.basics]) _ e
  | not s ih =>
    intro x e
    rw [Sen.settle] at e ⊢
    obtain ⟨y, h1, h2⟩ := Option.map_eq_some_iff.mp e
    rw [ih h h1, Option.map, h2]
  | bin w s t ih1 ih2 =>
    intro x e
    rw [Sen.settle] at e ⊢
    exact join_up (fun y => ih1 (fun b hb => h b (by rw [Sen.basics]; exact List.mem_append_left _ hb))) (fun y => ih2 (fun b hb => h b (by rw [Sen.basics]; exact List.mem_append_right _ hb))) e
/-- answers to all facts as in the world settle it as in the world -/
theorem settle_full {W : Wo} {s : Sen} {f : Val → Option Bool} (h : ∀ b ∈ s.basics, b.plain = false → f b.fact.val = some (b.tru W)) : s.settle f = some (s.tru W) := by
  induction s with
  | tt => rfl
  | ff => rfl
  | hold a => exact h (.hold a) (by simp [Sen.basics]) rfl
  | same a b =>
    rw [Sen.settle]
    split
    · rename_i hab
      rw [Sen.tru, hab]
      simp
    · rename_i hab
      exact h (.same a b) (by simp [Sen.basics]) (by simp [Sen.plain, hab])
  | not s ih =>
    rw [Sen.settle, ih h]
    rfl
  | bin w s t ih1 ih2 =>
    rw [Sen.settle, ih1 (fun b hb => h b (by rw [Sen.basics]; exact List.mem_append_left _ hb)), ih2 (fun b hb => h b (by rw [Sen.basics]; exact List.mem_append_right _ hb)), join_tru]
    rfl
/-- what answers as in the world settle is so in the world -/
theorem settle_so {W : Wo} {s : Sen} {f : Val → Option Bool} (h : ∀ b ∈ s.basics, ∀ x, f b.fact.val = some x → x = b.tru W) {x : Bool} (e : s.settle f = some x) : x = s.tru W := by
  have key : ∀ (s : Sen), (∀ b ∈ s.basics, ∀ x, f b.fact.val = some x → x = b.tru W) → ∀ x, s.settle f = some x → x = s.tru W := by
    intro s
    induction s with
    | tt => intro _ x e; cases e; rfl
    | ff => intro _ x e; cases e; rfl
    | hold a => exact fun h x e => h (.hold a) (by simp [Sen.basics]) _ e
    | same a b =>
      intro h x e
      rw [Sen.settle] at e
      split at e
      · rename_i hab
        cases e
        rw [Sen.tru, hab]
        simp
      · exact h (.same a b) (by simp [Sen.basics]) _ e
    | not s ih =>
      intro h x e
      rw [Sen.settle] at e
      obtain ⟨y, h1, h2⟩ := Option.map_eq_some_iff.mp e
      rw [← h2, ih h y h1]
      rfl
    | bin w s t ih1 ih2 =>
      intro h x e
      rw [Sen.settle] at e
      have e1 := ih1 fun b hb => h b (by rw [Sen.basics]; exact List.mem_append_left _ hb)
      have e2 := ih2 fun b hb => h b (by rw [Sen.basics]; exact List.mem_append_right _ hb)
      have := join_up (a' := some (s.tru W)) (b' := some (t.tru W)) (fun y hy => by rw [e1 y hy]) (fun y hy => by rw [e2 y hy]) e
      rw [join_tru] at this
      cases this
      rfl
  exact key s h x e
end Ev
/-! K01Draw: drawn terms, sentences, worlds. -/
namespace Ev
open PySem
namespace K01
/-- _law_term(state, depth): state, depth, kind -/
def B__law_term : Ss := .cons (.set 2 (.call "_law_take" (.cons (.var 0) (.cons (.con (.int 8)) .nil)))) (.cons (.ifs (.or (.cmp .eq (.var 1) (.con (.int 0))) (.one (.cmp .lt (.var 2) (.con (.int 4))))) (.cons (.ret (.ix (.lst (.cons (.tup (.cons (.con (.str "a")) .nil)) (.cons (.tup (.cons (.con (.str "b")) .nil)) (.cons (.tup (.cons (.con (.str "aa")) .nil)) (.cons (.tup (.cons (.con (.str "c10")) .nil)) .nil))))) (.call "_law_take" (.cons (.var 0) (.cons (.con (.int 4)) .nil))))) .nil) (.nil)) (.cons (.ifs (.cmp .lt (.var 2) (.con (.int 7))) (.cons (.ret (.tup (.cons (.con (.str "f")) (.cons (.call "_law_term" (.cons (.var 0) (.cons (.bin .sub (.var 1) (.con (.int 1))) .nil))) .nil)))) .nil) (.nil)) (.cons (.ret (.tup (.cons (.con (.str "g")) (.cons (.call "_law_term" (.cons (.var 0) (.cons (.bin .sub (.var 1) (.con (.int 1))) .nil))) (.cons (.call "_law_term" (.cons (.var 0) (.cons (.con (.int 0)) .nil))) .nil))))) .nil)))
/-- _law_basic(state): state, kind, one -/
def B__law_basic : Ss := .cons (.set 1 (.call "_law_take" (.cons (.var 0) (.cons (.con (.int 12)) .nil)))) (.cons (.ifs (.cmp .eq (.var 1) (.con (.int 0))) (.cons (.ret (.ix (.lst (.cons (.tup (.cons (.con (.str "true")) .nil)) (.cons (.tup (.cons (.con (.str "false")) .nil)) .nil))) (.call "_law_take" (.cons (.var 0) (.cons (.con (.int 2)) .nil))))) .nil) (.nil)) (.cons (.ifs (.cmp .lt (.var 1) (.con (.int 3))) (.cons (.ret (.tup (.cons (.con (.str "holds")) (.cons (.tup (.cons (.con (.str "Q")) .nil)) .nil)))) .nil) (.nil)) (.cons (.ifs (.cmp .lt (.var 1) (.con (.int 5))) (.cons (.ret (.tup (.cons (.con (.str "holds")) (.cons (.tup (.cons (.con (.str "P")) (.cons (.call "_law_term" (.cons (.var 0) (.cons (.con (.int 2)) .nil))) .nil))) .nil)))) .nil) (.nil)) (.cons (.ifs (.cmp .lt (.var 1) (.con (.int 7))) (.cons (.ret (.tup (.cons (.con (.str "holds")) (.cons (.tup (.cons (.con (.str "R")) (.cons (.call "_law_term" (.cons (.var 0) (.cons (.con (.int 1)) .nil))) (.cons (.call "_law_term" (.cons (.var 0) (.cons (.con (.int 1)) .nil))) .nil)))) .nil)))) .nil) (.nil)) (.cons (.set 2 (.call "_law_term" (.cons (.var 0) (.cons (.con (.int 2)) .nil)))) (.cons (.ifs (.cmp .eq (.var 1) (.con (.int 7))) (.cons (.ret (.tup (.cons (.con (.str "same")) (.cons (.var 2) (.cons (.var 2) .nil))))) .nil) (.nil)) (.cons (.ret (.tup (.cons (.con (.str "same")) (.cons (.var 2) (.cons (.call "_law_term" (.cons (.var 0) (.cons (.con (.int 2)) .nil))) .nil))))) .nil)))))))
/-- _law_drawn(state, depth): state, depth, kind, one, word -/
def B__law_drawn : Ss := .cons (.set 2 (.call "_law_take" (.cons (.var 0) (.cons (.con (.int 12)) .nil)))) (.cons (.ifs (.or (.cmp .eq (.var 1) (.con (.int 0))) (.one (.cmp .eq (.var 2) (.con (.int 0))))) (.cons (.ret (.call "_law_basic" (.cons (.var 0) .nil))) .nil) (.nil)) (.cons (.set 3 (.call "_law_drawn" (.cons (.var 0) (.cons (.bin .sub (.var 1) (.con (.int 1))) .nil)))) (.cons (.ifs (.cmp .lt (.var 2) (.con (.int 4))) (.cons (.ret (.tup (.cons (.con (.str "not")) (.cons (.var 3) .nil)))) .nil) (.nil)) (.cons (.set 4 (.ix (.lst (.cons (.con (.str "and")) (.cons (.con (.str "or")) (.cons (.con (.str "implies")) (.cons (.con (.str "iff")) .nil))))) (.bin .mod (.blt .int (.var 2)) (.con (.int 4))))) (.cons (.ret (.tup (.cons (.var 4) (.cons (.var 3) (.cons (.call "_law_drawn" (.cons (.var 0) (.cons (.bin .sub (.var 1) (.con (.int 1))) .nil))) .nil))))) .nil)))))
/-- _law_world(state): state, size, tables, cells, name, arity, k -/
def B__law_world : Ss := .cons (.set 1 (.bin .add (.con (.int 1)) (.call "_law_take" (.cons (.var 0) (.cons (.con (.int 3)) .nil))))) (.cons (.set 2 (.dct0)) (.cons (.set 3 (.lst (.cons (.con (.int 1)) (.cons (.var 1) (.cons (.bin .mul (.var 1) (.var 1)) .nil))))) (.cons (.fors (.tp [4, 5]) (.seq (.lst (.cons (.tup (.cons (.con (.str "a")) (.cons (.con (.int 0)) .nil))) (.cons (.tup (.cons (.con (.str "b")) (.cons (.con (.int 0)) .nil))) (.cons (.tup (.cons (.con (.str "aa")) (.cons (.con (.int 0)) .nil))) (.cons (.tup (.cons (.con (.str "c10")) (.cons (.con (.int 0)) .nil))) (.cons (.tup (.cons (.con (.str "f")) (.cons (.con (.int 1)) .nil))) (.cons (.tup (.cons (.con (.str "g")) (.cons (.con (.int 2)) .nil))) .nil)))))))) (.cons (.setSub (.var 2) (.var 4) (.lc (.call "_law_take" (.cons (.var 0) (.cons (.var 1) .nil))) (.nm 6) (.rng1 (.ix (.var 3) (.var 5))) .tt [6])) .nil)) (.cons (.fors (.tp [4, 5]) (.seq (.lst (.cons (.tup (.cons (.con (.str "Q")) (.cons (.con (.int 0)) .nil))) (.cons (.tup (.cons (.con (.str "P")) (.cons (.con (.int 1)) .nil))) (.cons (.tup (.cons (.con (.str "R")) (.cons (.con (.int 2)) .nil))) .nil))))) (.cons (.setSub (.var 2) (.var 4) (.lc (.cmp .eq (.call "_law_take" (.cons (.var 0) (.cons (.con (.int 2)) .nil))) (.con (.int 1))) (.nm 6) (.rng1 (.ix (.var 3) (.var 5))) .tt [6])) .nil)) (.cons (.ret (.lst (.cons (.var 1) (.cons (.var 2) .nil)))) .nil)))))
/-- the program has these defs -/
structure DrawP (P : Prog) : Prop where
  law_term : P.fn (Str.ofString "_law_term") = some ⟨2, 3, B__law_term⟩
  law_basic : P.fn (Str.ofString "_law_basic") = some ⟨1, 3, B__law_basic⟩
  law_drawn : P.fn (Str.ofString "_law_drawn") = some ⟨2, 5, B__law_drawn⟩
  law_world : P.fn (Str.ofString "_law_world") = some ⟨1, 7, B__law_world⟩
def U (_ : Str) : Bool := false
def fl : List (Str × Nat) := [(Str.ofString "a", 0), (Str.ofString "b", 0), (Str.ofString "aa", 0), (Str.ofString "c10", 0), (Str.ofString "f", 1), (Str.ofString "g", 2)]
def rl : List (Str × Nat) := [(Str.ofString "Q", 0), (Str.ofString "P", 1), (Str.ofString "R", 2)]
def fnA (s : Str) : Option Nat := fl.lookup s
def relA (s : Str) : Option Nat := rl.lookup s
/-- a drawn term -/
structure Gt (D W : Nat) (t : Val) : Prop where
  cl : clean U t = true
  gr : gnd fnA t = true
  dep : t.dep ≤ D
  wt : wt t ≤ W
theorem Gt.mono {D W D' W' : Nat} {t : Val} (g : Gt D W t) (h1 : D ≤ D') (h2 : W ≤ W') : Gt D' W' t := ⟨g.cl, g.gr, Nat.le_trans g.dep h1, Nat.le_trans g.wt h2⟩
theorem fg : nameOk (Str.ofString "f") = true ∧ nameOk (Str.ofString "g") = true ∧ nameOk (Str.ofString "P") = true ∧ nameOk (Str.ofString "R") = true ∧ nameOk (Str.ofString "Q") = true := by decide +kernel
theorem fgl : (Str.ofString "f").length = 1 ∧ (Str.ofString "g").length = 1 ∧ (Str.ofString "P").length = 1 ∧ (Str.ofString "R").length = 1 ∧ (Str.ofString "Q").length = 1 := by decide +kernel
theorem fga : fnA (Str.ofString "f") = some 1 ∧ fnA (Str.ofString "g") = some 2 ∧ relA (Str.ofString "P") = some 1 ∧ relA (Str.ofString "R") = some 2 ∧ relA (Str.ofString "Q") = some 0 := by decide +kernel
theorem Gt.f {D W : Nat} {a : Val} (ga : Gt D W a) : Gt (D + 1) (W + 5) (.tup [.str (Str.ofString "f"), a]) := by
  have h1 := ga.dep
  have h2 := ga.wt
  have h3 := fgl.1
  refine ⟨by simp [clean, cleans, fg.1, ga.cl], by simp [gnd, gnds, fga.1, ga.gr], ?_, ?_⟩
  · simp only [Val.dep, Val.deps]; omega
  · simp only [Ev.wt, wts]; omega
theorem Gt.g {D W W2 : Nat} {a b : Val} (ga : Gt D W a) (gb : Gt D W2 b) : Gt (D + 1) (W + W2 + 5) (.tup [.str (Str.ofString "g"), a, b]) := by
  have h1 := ga.dep
  have h2 := ga.wt
  have h4 := gb.dep
  have h5 := gb.wt
  have h3 := fgl.2.1
  refine ⟨by simp [clean, cleans, fg.2.1, ga.cl, gb.cl], by simp [gnd, gnds, fga.2.1, ga.gr, gb.gr], ?_, ?_⟩
  · simp only [Val.dep, Val.deps]; omega
  · simp only [Ev.wt, wts]; omega
def leaves : List Val := [.tup [.str (Str.ofString "a")], .tup [.str (Str.ofString "b")], .tup [.str (Str.ofString "aa")], .tup [.str (Str.ofString "c10")]]
theorem leaves_ok : ∀ v ∈ leaves, Gt 1 7 v := by
  have : leaves.all (fun v => clean U v && gnd fnA v && decide (v.dep ≤ 1) && decide (wt v ≤ 7)) = true := by decide +kernel
  intro v hv
  have h := List.all_eq_true.mp this v hv
  rw [Bool.and_eq_true, Bool.and_eq_true, Bool.and_eq_true] at h
  exact ⟨h.1.1.1, h.1.1.2, of_decide_eq_true h.1.2, of_decide_eq_true h.2⟩
def bw (d : Nat) : Nat := 7 + 12 * d
def dr (d : Nat) : Nat := 2 + 3 * d
/-- a drawn sentence's basics -/
def Good (s : Sen) : Prop := ∀ b ∈ s.basics, (b.Ok 4 ∧ b.Cl U) ∧ b.Gr fnA relA 4
theorem Good.all {s : Sen} (h : Good s) : s.All 4 U := fun b hb => (h b hb).1
theorem good_atom {a : Val} (h1 : clean U a = true) (h2 : atm fnA relA a = true) (h3 : a.dep ≤ 4) (h4 : wt a ≤ 1000) : Good (.hold a) := by
  intro b hb
  simp only [Sen.basics, List.mem_singleton] at hb
  subst hb
  have hM : sizeMax = 16777216 := rfl
  exact ⟨⟨⟨⟨clean_tm _ h1, h3, by omega⟩, by omega⟩, h1⟩, h2, h4, h3⟩
theorem good_same {a b : Val} (ga : Gt 3 100 a) (gb : Gt 3 100 b) : Good (.same a b) := by
  intro s hs
  simp only [Sen.basics, List.mem_singleton] at hs
  subst hs
  have hM : sizeMax = 16777216 := rfl
  have := ga.dep
  have := ga.wt
  have := gb.dep
  have := gb.wt
  exact ⟨⟨⟨⟨clean_tm _ ga.cl, by omega, by omega⟩, ⟨clean_tm _ gb.cl, by omega, by omega⟩, by omega⟩, ga.cl, gb.cl⟩, ⟨ga.gr, gb.gr⟩, ⟨by omega, by omega⟩, by omega, by omega⟩
theorem good_none {s : Sen} (h : s.basics = []) : Good s := fun b hb => by rw [h] at hb; simp at hb
theorem good_bin {w : Wd} {s t : Sen} (h1 : Good s) (h2 : Good t) : Good (.bin w s t) := fun b hb => by
  rw [Sen.basics] at hb
  rcases List.mem_append.mp hb with hb | hb
  · exact h1 b hb
  · exact h2 b hb
theorem good_P {a : Val} (ga : Gt 3 100 a) : Good (.hold (.tup [.str (Str.ofString "P"), a])) := by
  have h1 := ga.dep
  have h2 := ga.wt
  have h3 := fgl.2.2.1
  refine good_atom (by simp [clean, cleans, fg.2.2.1, ga.cl]) (by simp [atm, gnds, fga.2.2.1, ga.gr]) ?_ ?_
  · simp only [Val.dep, Val.deps]; omega
  · simp only [Ev.wt, wts]; omega
theorem good_R {a b : Val} (ga : Gt 3 100 a) (gb : Gt 3 100 b) : Good (.hold (.tup [.str (Str.ofString "R"), a, b])) := by
  have h1 := ga.dep
  have h2 := ga.wt
  have h4 := gb.dep
  have h5 := gb.wt
  have h3 := fgl.2.2.2.1
  refine good_atom (by simp [clean, cleans, fg.2.2.2.1, ga.cl, gb.cl]) (by simp [atm, gnds, fga.2.2.2.1, ga.gr, gb.gr]) ?_ ?_
  · simp only [Val.dep, Val.deps]; omega
  · simp only [Ev.wt, wts]; omega
theorem good_Q : Good (.hold (.tup [.str (Str.ofString "Q")])) := good_atom (by decide +kernel) (by decide +kernel) (by decide +kernel) (by decide +kernel)
section
variable {P : Prog} (L : LibP P) (G : DrawP P)
include L G
theorem term_ok {st : Nat} : ∀ (d : Nat) {k n : Nat} {h : Hpe}, StOk st n h → n + dr d < 2 ^ 40 → d + 2 ≤ k → WP (call P k (Str.ofString "_law_term") [.ref st, .int d] h) fun v h' => Gt (d + 1) (bw d) v ∧ LeX st h h' ∧ StOk st (n + dr d) h' := by
  have hbw : ∀ d, bw d = 7 + 12 * d := fun _ => rfl
  have hdr : ∀ d, dr d = 2 + 3 * d := fun _ => rfl
  have leaf : ∀ {d k n : Nat} {h1 h : Hpe} {σ : En}, StOk st n h1 → n < 2 ^ 40 → LeX st h h1 → σ[0]? = some (some (.ref st)) → WP (ev (Rk P (k + 1)) (.ix (.lst (.cons (.tup (.cons (.con (.str (Str.ofString "a"))) .nil)) (.cons (.tup (.cons (.con (.str (Str.ofString "b"))) .nil)) (.cons (.tup (.cons (.con (.str (Str.ofString "aa"))) .nil)) (.cons (.tup (.cons (.con (.str (Str.ofString "c10"))) .nil)) .nil))))) (.call (Str.ofString "_law_take") (.cons (.var 0) (.cons (.con (.int 4)) .nil)))) σ h1) fun v h' => Gt (d + 1) (bw d) v ∧ LeX st h h' ∧ StOk st (n + 1) h' := by
    intro d k n h1 h σ s1 hn l1 h0
    sizeOf_list_dec
    refine wp_var h0 ?_
    sizeOf_list_dec
    have hst := s1.lt
    refine (take_ok L (m := 4) (s1.le (Le.push _ _)) (by omega) (by decide)).mono ?_
    rintro _ h2 ⟨⟨j, rfl, j0, j1⟩, l2, s2⟩
    have hj : j.toNat < leaves.length := by show j.toNat < 4; omega
    refine ix_lst (xs := leaves) (n := j.toNat) (lstAt_lst (l2.2 _ _ (by omega) (at_push _ _))) (by rw [show j = ((j.toNat : Nat) : Int) by omega]; exact place_nat hj) (List.getElem?_eq_getElem hj) ⟨?_, ?_, ?_⟩
    · exact (leaves_ok _ (List.getElem_mem hj)).mono (by omega) (by rw [hbw]; omega)
    · exact l1.trans ((Le.push _ _).x.trans l2)
    · exact s2
  have zero : ∀ {k n : Nat} {h : Hpe}, StOk st n h → n + 2 < 2 ^ 40 → 2 ≤ k → WP (call P k (Str.ofString "_law_term") [.ref st, .int 0] h) fun v h' => Gt 1 (bw 0) v ∧ LeX st h h' ∧ StOk st (n + 2) h' := by
    intro k n h s hn hk
    obtain ⟨k, rfl⟩ : ∃ j, k = j + 1 := ⟨k - 1, by omega⟩
    obtain ⟨k, rfl⟩ : ∃ j, k = j + 1 := ⟨k - 1, by omega⟩
    refine call_of (σ := [some (.ref st), some (.int 0), none]) G.law_term rfl rfl ?_
    unfold B__law_term
    sizeOf_list_dec
    refine (take_ok L (m := 8) s (by omega) (by decide)).mono ?_
    rintro _ h1 ⟨⟨i, rfl, i0, i1⟩, l1, s1⟩
    repeat (first | (refine leaf (d := 0) s1 (by omega) l1 rfl) | array_get_dec | (refine ⟨fun _ => ?_, fun h => absurd h (by simp)⟩))
  intro d
  induction d with
  | zero =>
    intro k n h s hn hk
    exact zero s hn hk
  | succ d ih =>
    intro k n h s hn hk
    obtain ⟨k, rfl⟩ : ∃ j, k = j + 1 := ⟨k - 1, by omega⟩
    obtain ⟨k, rfl⟩ : ∃ j, k = j + 1 := ⟨k - 1, by omega⟩
    rw [hdr] at *
    have ed : (((d + 1 : Nat) : Int) - 1) = (d : Int) := by omega
    refine call_of (σ := [some (.ref st), some (.int ((d + 1 : Nat) : Int)), none]) G.law_term rfl rfl ?_
    unfold B__law_term
    sizeOf_list_dec
    refine (take_ok L (m := 8) s (by omega) (by decide)).mono ?_
    rintro _ h1 ⟨⟨i, rfl, i0, i1⟩, l1, s1⟩
    sizeOf_list_dec
    refine ⟨fun h => absurd h (by simp; omega), fun _ => ?_⟩
    sizeOf_list_dec
    refine ⟨fun hc => ?_, fun hc => ?_⟩
    · repeat (first | (refine WP.mono (leaf (d := d + 1) s1 (by omega) l1 rfl) ?_) | array_get_dec)
      rintro v h2 ⟨g, l2, s2⟩
      exact ⟨g, l2, s2.more (by omega)⟩
    sizeOf_list_dec
    refine ⟨fun hc => ?_, fun hc => ?_⟩
    · sizeOf_list_dec
      rw [ed]
      refine (ih (k := k + 1) s1 (by omega) (by omega)).mono ?_
      rintro v h2 ⟨g, l2, s2⟩
      sizeOf_list_dec
      exact ⟨(Gt.f g).mono (Nat.le_refl _) (by rw [hbw, hbw]; omega), l1.trans l2, s2.more (by omega)⟩
    · sizeOf_list_dec
      rw [ed]
      refine (ih (k := k + 1) s1 (by omega) (by omega)).mono ?_
      rintro v h2 ⟨g, l2, s2⟩
      sizeOf_list_dec
      refine (zero (k := k + 1) s2 (by omega) (by omega)).mono ?_
      rintro v3 h3 ⟨g3, l3, s3⟩
      sizeOf_list_dec
      exact ⟨(Gt.g g (g3.mono (by omega) (Nat.le_refl _))).mono (Nat.le_refl _) (by rw [hbw, hbw, hbw]; omega), (l1.trans l2).trans l3, s3.more (by omega)⟩
theorem basic_ok {st k n : Nat} {h : Hpe} (s : StOk st n h) (hn : n + 20 < 2 ^ 40) (hk : 5 ≤ k) : WP (call P k (Str.ofString "_law_basic") [.ref st] h) fun v h' => (∃ x : Sen, v = x.val ∧ x.ht = 0 ∧ x.cnt = 1 ∧ Good x) ∧ LeX st h h' ∧ StOk st (n + 20) h' := by
  obtain ⟨k, rfl⟩ : ∃ j, k = j + 1 := ⟨k - 1, by omega⟩
  obtain ⟨k, rfl⟩ : ∃ j, k = j + 1 := ⟨k - 1, by omega⟩
  have hbw : ∀ d, bw d = 7 + 12 * d := fun _ => rfl
  have hdr : ∀ d, dr d = 2 + 3 * d := fun _ => rfl
  refine call_of (σ := [some (.ref st), none, none]) G.law_basic rfl rfl ?_
  unfold B__law_basic
  sizeOf_list_dec
  refine (take_ok L (m := 12) s (by omega) (by decide)).mono ?_
  rintro _ h1 ⟨⟨i, rfl, i0, i1⟩, l1, s1⟩
  sizeOf_list_dec
  refine ⟨fun hc => ?_, fun hc => ?_⟩
  · sizeOf_list_dec
    have hst := s1.lt
    refine (take_ok L (m := 2) (s1.le (Le.push _ _)) (by omega) (by decide)).mono ?_
    rintro _ h2 ⟨⟨j, rfl, j0, j1⟩, l2, s2⟩
    have q2 := l2.2 _ _ (by omega) (at_push _ _)
    have l3 : LeX st h h2 := l1.trans ((Le.push _ _).x.trans l2)
    have : j = 0 ∨ j = 1 := by omega
    rcases this with rfl | rfl
    · refine ix_lst (n := 0) (lstAt_lst q2) rfl rfl ?_
      exact ⟨⟨.tt, rfl, rfl, rfl, good_none rfl⟩, l3, s2.more (by omega)⟩
    · refine ix_lst (n := 1) (lstAt_lst q2) rfl rfl ?_
      exact ⟨⟨.ff, rfl, rfl, rfl, good_none rfl⟩, l3, s2.more (by omega)⟩
  sizeOf_list_dec
  refine ⟨fun hc => ?_, fun hc => ?_⟩
  · sizeOf_list_dec
    exact ⟨⟨.hold (.tup [.str (Str.ofString "Q")]), rfl, rfl, rfl, good_Q⟩, l1, s1.more (by omega)⟩
  sizeOf_list_dec
  refine ⟨fun hc => ?_, fun hc => ?_⟩
  · sizeOf_list_dec
    refine (term_ok L G 2 (k := k + 1) s1 (by rw [hdr]; omega) (by omega)).mono ?_
    rintro a h2 ⟨ga, l2, s2⟩
    sizeOf_list_dec
    exact ⟨⟨.hold (.tup [.str (Str.ofString "P"), a]), rfl, rfl, rfl, good_P (ga.mono (by omega) (by decide))⟩, l1.trans l2, s2.more (by rw [hdr]; omega)⟩
  sizeOf_list_dec
  refine ⟨fun hc => ?_, fun hc => ?_⟩
  · sizeOf_list_dec
    refine (term_ok L G 1 (k := k + 1) s1 (by rw [hdr]; omega) (by omega)).mono ?_
    rintro a h2 ⟨ga, l2, s2⟩
    sizeOf_list_dec
    rw [hdr] at s2
    refine (term_ok L G 1 (k := k + 1) s2 (by rw [hdr]; omega) (by omega)).mono ?_
    rintro b h3 ⟨gb, l3, s3⟩
    sizeOf_list_dec
    exact ⟨⟨.hold (.tup [.str (Str.ofString "R"), a, b]), rfl, rfl, rfl, good_R (ga.mono (by omega) (by decide)) (gb.mono (by omega) (by decide))⟩, (l1.trans l2).trans l3, s3.more (by rw [hdr]; omega)⟩
  sizeOf_list_dec
  refine (term_ok L G 2 (k := k + 1) s1 (by rw [hdr]; omega) (by omega)).mono ?_
  rintro a h2 ⟨ga, l2, s2⟩
  rw [hdr] at s2
  sizeOf_list_dec
  refine ⟨fun hc => ?_, fun hc => ?_⟩
  · sizeOf_list_dec
    exact ⟨⟨.same a a, rfl, rfl, rfl, good_same (ga.mono (by omega) (by decide)) (ga.mono (by omega) (by decide))⟩, l1.trans l2, s2.more (by omega)⟩
  · sizeOf_list_dec
    refine (term_ok L G 2 (k := k + 1) s2 (by rw [hdr]; omega) (by omega)).mono ?_
    rintro b h3 ⟨gb, l3, s3⟩
    sizeOf_list_dec
    exact ⟨⟨.same a b, rfl, rfl, rfl, good_same (ga.mono (by omega) (by decide)) (gb.mono (by omega) (by decide))⟩, (l1.trans l2).trans l3, s3.more (by rw [hdr]; omega)⟩
/-- draws of a sentence -/
def ds : Nat → Nat
  | 0 => 21
  | d + 1 => 2 * ds d + 21
omit L G in
theorem ds_ge : ∀ d, 21 ≤ ds d
  | 0 => Nat.le_refl _
  | d + 1 => by rw [ds]; omega
theorem drawn_ok {st : Nat} : ∀ (d : Nat) {k n : Nat} {h : Hpe}, StOk st n h → n + ds d < 2 ^ 40 → d + 6 ≤ k → WP (call P k (Str.ofString "_law_drawn") [.ref st, .int d] h) fun v h' => (∃ x : Sen, v = x.val ∧ x.ht ≤ d ∧ x.cnt ≤ 2 ^ d ∧ Good x) ∧ LeX st h h' ∧ StOk st (n + ds d) h' := by
  intro d
  induction d with
  | zero =>
    intro k n h s hn hk
    obtain ⟨k, rfl⟩ : ∃ j, k = j + 1 := ⟨k - 1, by omega⟩
    obtain ⟨k, rfl⟩ : ∃ j, k = j + 1 := ⟨k - 1, by omega⟩
    rw [ds] at *
    refine call_of (σ := [some (.ref st), some (.int 0), none, none, none]) G.law_drawn rfl rfl ?_
    unfold B__law_drawn
    sizeOf_list_dec
    refine (take_ok L (m := 12) s (by omega) (by decide)).mono ?_
    rintro _ h1 ⟨⟨i, rfl, i0, i1⟩, l1, s1⟩
    sizeOf_list_dec
    refine (basic_ok L G (k := k + 1) s1 (by omega) (by omega)).mono ?_
    rintro _ h2 ⟨⟨x, rfl, e1, e2, gx⟩, l2, s2⟩
    exact ⟨⟨x, rfl, by omega, by omega, gx⟩, l1.trans l2, s2.more (by omega)⟩
  | succ d ih =>
    intro k n h s hn hk
    obtain ⟨k, rfl⟩ : ∃ j, k = j + 1 := ⟨k - 1, by omega⟩
    obtain ⟨k, rfl⟩ : ∃ j, k = j + 1 := ⟨k - 1, by omega⟩
    have hge := ds_ge d
    have hpow : 1 ≤ 2 ^ d := Nat.one_le_two_pow
    rw [ds] at *
    rw [Nat.pow_succ]
    have ed : (((d + 1 : Nat) : Int) - 1) = (d : Int) := by omega
    refine call_of (σ := [some (.ref st), some (.int ((d + 1 : Nat) : Int)), none, none, none]) G.law_drawn rfl rfl ?_
    unfold B__law_drawn
    sizeOf_list_dec
    refine (take_ok L (m := 12) s (by omega) (by decide)).mono ?_
    rintro _ h1 ⟨⟨i, rfl, i0, i1⟩, l1, s1⟩
    sizeOf_list_dec
    refine ⟨fun h => absurd h (by simp; omega), fun _ => ?_⟩
    sizeOf_list_dec
    refine ⟨fun hc => ?_, fun hc => ?_⟩
    · sizeOf_list_dec
      refine (basic_ok L G (k := k + 1) s1 (by omega) (by omega)).mono ?_
      rintro _ h2 ⟨⟨x, rfl, e1, e2, gx⟩, l2, s2⟩
      exact ⟨⟨x, rfl, by omega, by omega, gx⟩, l1.trans l2, s2.more (by omega)⟩
    sizeOf_list_dec
    rw [ed]
    refine (ih (k := k + 1) s1 (by omega) (by omega)).mono ?_
    rintro _ h2 ⟨⟨x, rfl, e1, e2, gx⟩, l2, s2⟩
    sizeOf_list_dec
    refine ⟨fun hc => ?_, fun hc => ?_⟩
    · sizeOf_list_dec
      exact ⟨⟨.not x, by rw [Sen.val], by rw [Sen.ht]; omega, by rw [Sen.cnt]; omega, gx⟩, l1.trans l2, s2.more (by omega)⟩
    sizeOf_list_dec
    refine op_modi (by decide) ?_
    have word : ∃ w : Wd, [Val.str (Str.ofString "and"), .str (Str.ofString "or"), .str (Str.ofString "implies"), .str (Str.ofString "iff")][(i % 4).toNat]? = some (.str w.str) := by
      have : i % 4 = 0 ∨ i % 4 = 1 ∨ i % 4 = 2 ∨ i % 4 = 3 := by omega
      rcases this with z | z | z | z <;> rw [z]
      · exact ⟨.and, rfl⟩
      · exact ⟨.or, rfl⟩
      · exact ⟨.imp, rfl⟩
      · exact ⟨.iff, rfl⟩
    obtain ⟨w, ew⟩ := word
    have hi : (i % 4).toNat < 4 := by omega
    refine ix_lst (lstAt_lst (at_push _ _)) (n := (i % 4).toNat) (by rw [show i % 4 = (((i % 4).toNat : Nat) : Int) by omega]; exact place_nat hi) ew ?_
    sizeOf_list_dec
    rw [ed]
    refine (ih (k := k + 1) (s2.le (Le.push _ _)) (by omega) (by omega)).mono ?_
    rintro _ h3 ⟨⟨y, rfl, e3, e4, gy⟩, l3, s3⟩
    sizeOf_list_dec
    exact ⟨⟨.bin w x y, by rw [Sen.val], by rw [Sen.ht]; omega, by rw [Sen.cnt]; omega, good_bin gx gy⟩, l1.trans (l2.trans ((Le.push _ _).x.trans l3)), s3.more (by omega)⟩
end
end K01
end Ev
/-! K01Wld: the drawn world. -/
namespace Ev
open PySem
theorem lookD_put {kvs : List (Val × Val)} {k v : Val} : lookD (putD kvs k v) k = some v := by
  unfold lookD putD
  split
  · rename_i h
    obtain ⟨p, hp, e⟩ := List.any_eq_true.mp h
    have e := of_decide_eq_true e
    induction kvs with
    | nil => simp at hp
    | cons q r ih =>
      rw [List.map_cons, List.find?_cons]
      by_cases hq : q.1 = k
      · simp [hq]
      · rcases List.mem_cons.mp hp with rfl | hp
        · exact absurd e hq
        · simp only [hq, if_false, decide_false]
          exact ih (List.any_eq_true.mpr ⟨p, hp, by simpa using e⟩) hp
  · rename_i h
    rw [List.find?_append]
    have : kvs.find? (fun p => decide (p.1 = k)) = none := by
      rw [List.find?_eq_none]
      intro p hp z
      exact h (List.any_eq_true.mpr ⟨p, hp, z⟩)
    rw [this]
    simp
theorem lookD_put_ne {kvs : List (Val × Val)} {k k' v : Val} (hn : k' ≠ k) : lookD (putD kvs k v) k' = lookD kvs k' := by
  unfold lookD putD
  split
  · induction kvs with
    | nil => rfl
    | cons q r ih =>
      rename_i h
      rw [List.map_cons, List.find?_cons, List.find?_cons]
      by_cases hq : q.1 = k
      · have : ¬ k = k' := Ne.symm hn
        simp only [hq, if_true, this, decide_false]
        by_cases hr : r.any (fun p => decide (p.1 = k)) = true
        · exact ih hr
        · have : r.map (fun p => if p.1 = k then (p.1, v) else p) = r := by
            conv => rhs; rw [← List.map_id r]
            refine List.map_congr_left fun p hp => ?_
            have : ¬ p.1 = k := fun z => hr (List.any_eq_true.mpr ⟨p, hp, by simpa using z⟩)
            simp [this]
          rw [this]
      · simp only [hq, if_false]
        by_cases hk : q.1 = k'
        · simp [hk]
        · simp only [hk, decide_false]
          refine ih ?_
          rw [List.any_cons] at h
          simpa [hq] using h
  · rw [List.find?_append]
    have : ([(k, v)] : List (Val × Val)).find? (fun p => decide (p.1 = k')) = none := by
      have : ¬ k = k' := Ne.symm hn
      simp [List.find?_cons, this]
    rw [this, Option.or_none]
namespace K01
/-- a table of a world: things, or truths -/
def Rw (z : Nat) (fn : Bool) (xs : List Val) : Prop := ∀ v ∈ xs, if fn then ∃ i : Nat, v = .int i ∧ i < z else ∃ b, v = .bl b
theorem Rw.add {z : Nat} {fn : Bool} {xs : List Val} {v : Val} (h : Rw z fn xs) (hv : if fn then ∃ i : Nat, v = .int i ∧ i < z else ∃ b, v = .bl b) : Rw z fn (xs ++ [v]) := fun u hu => by
  rcases List.mem_append.mp hu with hu | hu
  · exact h u hu
  · rw [List.mem_singleton.mp hu]; exact hv
/-- the tables so far -/
def TabI (t z : Nat) (ns : List (Str × Nat × Bool)) (h : Hpe) : Prop := ∃ kvs, h[t]? = some (.dic kvs) ∧ kvs.length ≤ ns.length ∧ ∀ p ∈ ns, ∃ r xs, t < r ∧ lookD kvs (.str p.1) = some (.ref r) ∧ h[r]? = some (.lst xs) ∧ xs.length = z ^ p.2.1 ∧ Rw z p.2.2 xs
theorem TabI.x {t z st : Nat} {ns : List (Str × Nat × Bool)} {h h' : Hpe} (T : TabI t z ns h) (l : LeX st h h') (hs : st < t) : TabI t z ns h' := by
  obtain ⟨kvs, e1, e2, e3⟩ := T
  refine ⟨kvs, l.2 _ _ (by omega) e1, e2, fun p hp => ?_⟩
  obtain ⟨r, xs, h1, h2, h3, h4⟩ := e3 p hp
  exact ⟨r, xs, h1, h2, l.2 _ _ (by omega) h3, h4⟩
theorem TabI.fresh {t z n : Nat} {ns : List (Str × Nat × Bool)} {h h0 : Hpe} {o : Ob} (T : TabI t z ns h) (l : Le h h0) (hn : h.length ≤ n) : TabI t z ns (h0.set n o) := by
  obtain ⟨kvs, e1, e2, e3⟩ := T
  have l := l.set hn o
  refine ⟨kvs, l _ _ e1, e2, fun p hp => ?_⟩
  obtain ⟨r, xs, h1, h2, h3, h4⟩ := e3 p hp
  exact ⟨r, xs, h1, h2, l _ _ h3, h4⟩
theorem TabI.put {t z : Nat} {ns : List (Str × Nat × Bool)} {h : Hpe} (T : TabI t z ns h) {p : Str × Nat × Bool} {r : Nat} {xs : List Val} (hr : t < r) (er : h[r]? = some (.lst xs)) (hl : xs.length = z ^ p.2.1) (hx : Rw z p.2.2 xs) (hn : ∀ q ∈ ns, q.1 ≠ p.1) (hz : ns.length < sizeMax) {Q : Unit → Hpe → Prop}
    (q : ∀ h', LeX t h h' → TabI t z (ns ++ [p]) h' → Q () h') : WP (setItem (.ref t) (.str p.1) (.ref r) h) Q := by
  obtain ⟨kvs, e1, e2, e3⟩ := T
  refine si_dic e1 (by omega) (q _ (LeX.set (LeX.refl _ _) _) ⟨_, at_set e1, ?_, fun u hu => ?_⟩)
  · have := putD_len kvs (.str p.1) (.ref r)
    rw [List.length_append, List.length_singleton]
    omega
  · rcases List.mem_append.mp hu with hu | hu
    · obtain ⟨r2, xs2, h1, h2, h3, h4⟩ := e3 u hu
      refine ⟨r2, xs2, h1, ?_, at_set_ne (by omega) h3, h4⟩
      rw [lookD_put_ne (fun e => hn u hu (Val.str.inj e))]
      exact h2
    · rw [List.mem_singleton.mp hu]
      exact ⟨r, xs, hr, lookD_put, at_set_ne (by omega) er, hl, hx⟩
def itn (p : Str × Nat) : Val := .tup [.str p.1, .int (p.2 : Nat)]
def nsf : List (Str × Nat × Bool) := fl.map fun p => (p.1, p.2, true)
def nsr : List (Str × Nat × Bool) := rl.map fun p => (p.1, p.2, false)
theorem names_apart : ((nsf ++ nsr).map (·.1)).Nodup := by decide +kernel
theorem ar_le : (∀ p ∈ fl, p.2 ≤ 2) ∧ (∀ p ∈ rl, p.2 ≤ 2) := by decide +kernel
theorem cells_at (z a : Nat) (h : a ≤ 2) : [Val.int 1, .int z, .int ((z : Int) * z)][a]? = some (.int ((z ^ a : Nat) : Int)) := by
  have : a = 0 ∨ a = 1 ∨ a = 2 := by omega
  rcases this with rfl | rfl | rfl
  · simp
  · simp
  · simp [Nat.pow_two]
theorem pow_le {z a : Nat} (hz : z ≤ 3) (ha : a ≤ 2) : z ^ a ≤ 9 := Nat.le_trans (Nat.pow_le_pow_left hz a) (Nat.le_trans (Nat.pow_le_pow_right (by decide) ha) (by decide))
theorem not_in {ns : List (Str × Nat × Bool)} (hn : (ns.map (·.1)).Nodup) {i : Nat} {p : Str × Nat × Bool} (hp : ns[i]? = some p) : ∀ q ∈ ns.take i, q.1 ≠ p.1 := by
  intro q hq e
  obtain ⟨j, hj, ej⟩ := List.mem_iff_getElem.mp hq
  rw [List.getElem_take] at ej
  rw [List.length_take] at hj
  obtain ⟨hi, ei⟩ := List.getElem?_eq_some_iff.mp hp
  have := List.pairwise_iff_getElem.mp hn j i (by rw [List.length_map]; omega) (by rw [List.length_map]; omega) (by omega)
  simp only [List.getElem_map] at this
  exact this (by rw [ej, ei]; exact e)
/-- the world of the tables -/
def tabOf (kvs : List (Val × Val)) (h : Hpe) (f : Str) : List Val := match lookD kvs (.str f) with
  | some (.ref r) => match h[r]? with
    | some (.lst xs) => xs
    | _ => []
  | _ => []
theorem lookup_mem {l : List (Str × Nat)} {f : Str} {n : Nat} (h : l.lookup f = some n) : (f, n) ∈ l := by
  induction l with
  | nil => simp at h
  | cons p l ih =>
    obtain ⟨g, m⟩ := p
    rw [List.lookup_cons] at h
    split at h
    · rename_i e
      cases h
      rw [eq_of_beq e]
      exact List.mem_cons_self
    · exact List.mem_cons_of_mem _ (ih h)
/-- the tables lie at m or behind it -/
def AtX (W : Wo) (m : Nat) (h : Hpe) (t : Nat) : Prop := m ≤ t ∧ ∃ kvs, h[t]? = some (.dic kvs) ∧ ∀ f, (W.fn f).isSome = true ∨ (W.rel f).isSome = true → ∃ r, m ≤ r ∧ lookD kvs (.str f) = some (.ref r) ∧ h[r]? = some (.lst (W.tab f))
theorem AtX.at {W : Wo} {m : Nat} {h : Hpe} {t : Nat} (A : AtX W m h t) : W.At h t := by
  obtain ⟨_, kvs, e1, e2⟩ := A
  refine ⟨kvs, e1, fun f hf => ?_⟩
  obtain ⟨r, _, h1, h2⟩ := e2 f hf
  exact ⟨r, h1, h2⟩
theorem AtX.x {W : Wo} {m st : Nat} {h h' : Hpe} {t : Nat} (A : AtX W m h t) (l : LeX st h h') (hs : st < m) : AtX W m h' t := by
  obtain ⟨e0, kvs, e1, e2⟩ := A
  refine ⟨e0, kvs, l.2 _ _ (by omega) e1, fun f hf => ?_⟩
  obtain ⟨r, h0, h1, h2⟩ := e2 f hf
  exact ⟨r, h0, h1, l.2 _ _ (by omega) h2⟩
theorem TabI.world {t z : Nat} {h : Hpe} (T : TabI t z (nsf ++ nsr) h) (h0 : 0 < z) (hz : z ≤ 1000) : ∃ W : Wo, W.Ok ∧ AtX W t h t ∧ W.z = z ∧ W.fn = fnA ∧ W.rel = relA := by
  obtain ⟨kvs, e1, e2, e3⟩ := T
  have get : ∀ p ∈ nsf ++ nsr, ∃ r, t ≤ r ∧ lookD kvs (.str p.1) = some (.ref r) ∧ h[r]? = some (.lst (tabOf kvs h p.1)) ∧ (tabOf kvs h p.1).length = z ^ p.2.1 ∧ Rw z p.2.2 (tabOf kvs h p.1) := by
    intro p hp
    obtain ⟨r, xs, h0, h2, h3, h4, h5⟩ := e3 p hp
    have : tabOf kvs h p.1 = xs := by simp only [tabOf, h2, h3]
    rw [this]
    exact ⟨r, Nat.le_of_lt h0, h2, h3, h4, h5⟩
  have inf : ∀ {f n}, fnA f = some n → (f, n, true) ∈ nsf ++ nsr := fun h => List.mem_append_left _ (List.mem_map.mpr ⟨_, lookup_mem h, rfl⟩)
  have inr : ∀ {f n}, relA f = some n → (f, n, false) ∈ nsf ++ nsr := fun h => List.mem_append_right _ (List.mem_map.mpr ⟨_, lookup_mem h, rfl⟩)
  refine ⟨⟨z, tabOf kvs h, fnA, relA⟩, ⟨h0, hz, fun f n hf => ?_, fun f n hf => ?_⟩, ⟨Nat.le_refl _, kvs, e1, fun f hf => ?_⟩, rfl, rfl, rfl⟩
  · obtain ⟨r, h0, h1, h2, h3, h4⟩ := get _ (inf hf)
    exact ⟨h3, fun v hv => by have := h4 v hv; simpa using this⟩
  · obtain ⟨r, h0, h1, h2, h3, h4⟩ := get _ (inr hf)
    exact ⟨h3, fun v hv => by have := h4 v hv; simpa using this⟩
  · rcases hf with hf | hf
    · obtain ⟨n, hn⟩ := Option.isSome_iff_exists.mp hf
      obtain ⟨r, h0, h1, h2, _⟩ := get _ (inf hn)
      exact ⟨r, h0, h1, h2⟩
    · obtain ⟨n, hn⟩ := Option.isSome_iff_exists.mp hf
      obtain ⟨r, h0, h1, h2, _⟩ := get _ (inr hn)
      exact ⟨r, h0, h1, h2⟩
theorem _root_.Ev.StOk.x {st n t : Nat} {h h' : Hpe} (s : StOk st n h) (l : LeX t h h') (hs : st < t) : StOk st n h' := by
  obtain ⟨r, a, sd, xs, e1, e2, e3, e4, e5⟩ := s
  exact ⟨r, a, sd, xs, l.2 _ _ (by omega) e1, e2, e3, e4, l.2 _ _ (by omega) e5⟩
theorem _root_.Ev.LeX.over {st t : Nat} {a b c : Hpe} (x : LeX st a b) (y : LeX t b c) (ht : a.length ≤ t) : LeX st a c := ⟨Nat.le_trans x.1 y.1, fun n o hn e => y.2 n o (by have := (List.getElem?_eq_some_iff.mp e).1; omega) (x.2 n o hn e)⟩
section
variable {P : Prog} (L : LibP P) (G : DrawP P)
include L
theorem rowf_ok {st t c z ar k n : Nat} {c4 c6 : Option Val} {h : Hpe} (s : StOk st n h) (hn : n + 9 < 2 ^ 40) (z0 : 0 < z) (z3 : z ≤ 3) (ha : ar ≤ 2) (ec : h[c]? = some (.lst [.int 1, .int z, .int ((z : Int) * z)])) :
    WP (ev (Rk P (k + 1)) (.lc (.call (Str.ofString "_law_take") (.cons (.var 0) (.cons (.var 1) .nil))) (.nm 6) (.rng1 (.ix (.var 3) (.var 5))) .tt [6]) [some (.ref st), some (.int z), some (.ref t), some (.ref c), c4, some (.int (ar : Nat)), c6] h)
      fun v h' => ∃ r xs, v = .ref r ∧ h.length ≤ r ∧ h'[r]? = some (.lst xs) ∧ xs.length = z ^ ar ∧ Rw z true xs ∧ LeX st h h' ∧ StOk st (n + 9) h' := by
  have hM : sizeMax = 16777216 := rfl
  have h9 := pow_le z3 ha
  have hst := s.lt
  refine wp_lcI (fun h1 i acc h2 => h1 = h ∧ i ≤ 9 ∧ acc.length = i ∧ Rw z true acc ∧ StOk st (n + i) h2 ∧ LeX st h h2 ∧ h2[h.length]? = some (.lst acc)) ?_
  sizeOf_list_dec
  refine ix_lst (lstAt_lst ec) (place_nat (by simp; omega)) (cells_at z ar ha) ?_
  refine ⟨_, rfl, by omega, ⟨rfl, by omega, rfl, fun v hv => by simp at hv, s.le (Le.push _ _), (Le.push _ _).x, at_push _ _⟩, fun _ _ _ _ => rfl, fun i x acc h3 hx ⟨_, hi, hl, hr, s3, l3, e3⟩ => ?_, fun acc h3 ⟨_, hi, hl, hr, s3, l3, e3⟩ => ?_⟩
  · rw [Int.toNat_natCast] at hx
    obtain ⟨hi', rfl⟩ := range_at hx
    refine ⟨[some (.ref st), some (.int z), some (.ref t), some (.ref c), c4, some (.int (ar : Nat)), some (.int (0 + (i : Int)))], rfl, ?_⟩
    sizeOf_list_dec
    refine (take_ok L (m := z) s3 (by omega) (by omega)).mono ?_
    rintro _ h4 ⟨⟨j, rfl, j0, j1⟩, l4, s4⟩
    have e4 := l4.2 _ _ (by omega) e3
    refine ⟨e4, by omega, rfl, by omega, by rw [List.length_append, hl]; rfl, hr.add ?_, s4.set (by omega) _, (l3.trans l4).fresh (Nat.le_refl _) _, at_set e4⟩
    exact ⟨j.toNat, by congr 1; omega, by omega⟩
  · rw [Int.toNat_natCast, List.length_map, List.length_range] at hl
    exact ⟨_, acc, rfl, Nat.le_refl _, e3, hl, hr, l3, s3.more (by omega)⟩
theorem rowr_ok {st t c z ar k n : Nat} {c4 c6 : Option Val} {h : Hpe} (s : StOk st n h) (hn : n + 9 < 2 ^ 40) (z0 : 0 < z) (z3 : z ≤ 3) (ha : ar ≤ 2) (ec : h[c]? = some (.lst [.int 1, .int z, .int ((z : Int) * z)])) :
    WP (ev (Rk P (k + 1)) (.lc (.cmp .eq (.call (Str.ofString "_law_take") (.cons (.var 0) (.cons (.con (.int 2)) .nil))) (.con (.int 1))) (.nm 6) (.rng1 (.ix (.var 3) (.var 5))) .tt [6]) [some (.ref st), some (.int z), some (.ref t), some (.ref c), c4, some (.int (ar : Nat)), c6] h)
      fun v h' => ∃ r xs, v = .ref r ∧ h.length ≤ r ∧ h'[r]? = some (.lst xs) ∧ xs.length = z ^ ar ∧ Rw z false xs ∧ LeX st h h' ∧ StOk st (n + 9) h' := by
  have hM : sizeMax = 16777216 := rfl
  have h9 := pow_le z3 ha
  have hst := s.lt
  refine wp_lcI (fun h1 i acc h2 => h1 = h ∧ i ≤ 9 ∧ acc.length = i ∧ Rw z false acc ∧ StOk st (n + i) h2 ∧ LeX st h h2 ∧ h2[h.length]? = some (.lst acc)) ?_
  sizeOf_list_dec
  refine ix_lst (lstAt_lst ec) (place_nat (by simp; omega)) (cells_at z ar ha) ?_
  refine ⟨_, rfl, by omega, ⟨rfl, by omega, rfl, fun v hv => by simp at hv, s.le (Le.push _ _), (Le.push _ _).x, at_push _ _⟩, fun _ _ _ _ => rfl, fun i x acc h3 hx ⟨_, hi, hl, hr, s3, l3, e3⟩ => ?_, fun acc h3 ⟨_, hi, hl, hr, s3, l3, e3⟩ => ?_⟩
  · rw [Int.toNat_natCast] at hx
    obtain ⟨hi', rfl⟩ := range_at hx
    refine ⟨[some (.ref st), some (.int z), some (.ref t), some (.ref c), c4, some (.int (ar : Nat)), some (.int (0 + (i : Int)))], rfl, ?_⟩
    sizeOf_list_dec
    refine (take_ok L (m := 2) s3 (by omega) (by decide)).mono ?_
    rintro _ h4 ⟨⟨j, rfl, j0, j1⟩, l4, s4⟩
    have e4 := l4.2 _ _ (by omega) e3
    sizeOf_list_dec
    refine ⟨e4, by omega, rfl, by omega, by rw [List.length_append, hl]; rfl, hr.add ⟨_, rfl⟩, s4.set (by omega) _, (l3.trans l4).fresh (Nat.le_refl _) _, at_set e4⟩
  · rw [Int.toNat_natCast, List.length_map, List.length_range] at hl
    exact ⟨_, acc, rfl, Nat.le_refl _, e3, hl, hr, l3, s3.more (by omega)⟩
include G
theorem world_ok {st k n : Nat} {h : Hpe} (s : StOk st n h) (hn : n + 200 < 2 ^ 40) (hk : 3 ≤ k) : WP (call P k (Str.ofString "_law_world") [.ref st] h) fun v h' => ∃ (W : Wo) (m t : Nat), v = .ref m ∧ st < t ∧ st < m ∧ h'[m]? = some (.lst [.int W.z, .ref t]) ∧ W.Ok ∧ AtX W t h' t ∧ W.fn = fnA ∧ W.rel = relA ∧ LeX st h h' ∧ StOk st (n + 200) h' := by
  obtain ⟨k, rfl⟩ : ∃ j, k = j + 1 := ⟨k - 1, by omega⟩
  obtain ⟨k, rfl⟩ : ∃ j, k = j + 1 := ⟨k - 1, by omega⟩
  have hM : sizeMax = 16777216 := rfl
  have lf : nsf.length = 6 := rfl
  have lr : nsr.length = 3 := rfl
  have lfl : fl.length = 6 := rfl
  have lrl : rl.length = 3 := rfl
  refine call_of (σ := [some (.ref st), none, none, none, none, none, none]) G.law_world rfl rfl ?_
  unfold B__law_world
  sizeOf_list_dec
  refine (take_ok L (m := 3) s (by omega) (by decide)).mono ?_
  rintro _ h1 ⟨⟨i, rfl, i0, i1⟩, l1, s1⟩
  obtain ⟨z, hz⟩ : ∃ z : Nat, 1 + i = (z : Int) := ⟨(1 + i).toNat, by omega⟩
  have z0 : 0 < z := by omega
  have z3 : z ≤ 3 := by omega
  have hst := s1.lt
  sizeOf_list_dec
  rw [hz]
  refine op_muli (.inr (by omega)) ?_
  sizeOf_list_dec
  refine .inr ⟨_, _, rfl, lstAt_lst (at_push _ _), ?_⟩
  have et : (h1 ++ [Ob.dic []])[h1.length]? = some (.dic []) := at_push _ _
  have hl1 : (h1 ++ [Ob.dic []]).length = h1.length + 1 := by simp
  rw [hl1]
  have ec : (h1 ++ [Ob.dic []] ++ [Ob.lst [.int 1, .int z, .int ((z : Int) * z)]])[h1.length + 1]? = some (.lst [.int 1, .int z, .int ((z : Int) * z)]) := by rw [← hl1]; exact at_push _ _
  have hl2 : (h1 ++ [Ob.dic []] ++ [Ob.lst [.int 1, .int z, .int ((z : Int) * z)]]).length = h1.length + 2 := by simp
  have sx := ((s1.le (Le.push _ [Ob.dic []])).le (Le.push _ [Ob.lst [.int 1, .int z, .int ((z : Int) * z)]]))
  have lx : LeX st h (h1 ++ [Ob.dic []] ++ [Ob.lst [.int 1, .int z, .int ((z : Int) * z)]]) := l1.trans ((Le.push _ _).trans (Le.push _ _)).x
  have et := Le.push _ [Ob.lst [.int 1, .int z, .int ((z : Int) * z)]] _ _ et
  generalize h1 ++ [Ob.dic []] ++ [Ob.lst [.int 1, .int z, .int ((z : Int) * z)]] = h2 at *
  have t1 : TabI h1.length z (nsf.take 0) (h2 ++ [Ob.lst (fl.map itn)]) := ⟨[], Le.push _ _ _ _ et, Nat.zero_le _, fun p hp => by simp at hp⟩
  have hlh := l1.1
  generalize hT : h1.length = t at *
  refine forL_rule (fun i σ h3 => i ≤ 6 ∧ ∃ c4 c5 c6, σ = [some (.ref st), some (.int z), some (.ref t), some (.ref (t + 1)), c4, c5, c6] ∧ TabI t z (nsf.take i) h3 ∧ StOk st (n + 1 + 9 * i) h3 ∧ h3[t + 1]? = some (.lst [.int 1, .int z, .int ((z : Int) * z)]) ∧ h3[h2.length]? = some (.lst (fl.map itn)) ∧ LeX st h h3) (fl.map itn) 0
    ⟨by omega, none, none, none, rfl, t1, sx.le (Le.push _ _), Le.push _ _ _ _ ec, at_push _ _, lx.trans (Le.push _ _).x⟩ (fun i σ h3 ⟨_, _, _, _, _, _, _, _, en, _⟩ => decide_eq_true (lstAt_lst en)) ?_ ?_
  · rintro i x σ h3 hx ⟨hi, c4, c5, c6, rfl, T, s3, ec3, en3, l3⟩
    rw [List.getElem?_map] at hx
    obtain ⟨p, hp, rfl⟩ := Option.map_eq_some_iff.mp hx
    have hpm := List.mem_of_getElem? hp
    have hlt := (List.getElem?_eq_some_iff.mp hp).1
    have har := ar_le.1 p hpm
    rw [Nat.zero_add] at *
    refine ⟨[some (.ref st), some (.int z), some (.ref t), some (.ref (t + 1)), some (.str p.1), some (.int (p.2 : Nat)), c6], rfl, ?_⟩
    sizeOf_list_dec
    refine (rowf_ok L (k := k) s3 (by omega) z0 z3 har ec3).mono ?_
    rintro _ h4 ⟨r, xs, rfl, hr, er, hxl, hrw, l4, s4⟩
    have hp2 : nsf[i]? = some (p.1, p.2, true) := by unfold nsf; rw [List.getElem?_map, hp]; rfl
    have nd : (nsf.map (·.1)).Nodup := (List.nodup_append.mp (by rw [← List.map_append]; exact names_apart)).1
    have hl3 := (List.getElem?_eq_some_iff.mp en3).1
    have hl2 : t + 1 < h2.length := by omega
    sizeOf_list_dec
    refine (T.x l4 (by omega)).put (p := (p.1, p.2, true)) (by omega) er hxl hrw (not_in nd hp2) (by rw [List.length_take]; omega) fun h5 l5 T5 => ?_
    sizeOf_list_dec
    refine ⟨by omega, _, _, _, rfl, ?_, (s4.more (by omega)).x l5 (by omega), l5.2 _ _ (by omega) (l4.2 _ _ (by omega) ec3), l5.2 _ _ (by omega) (l4.2 _ _ (by omega) en3), (l3.trans l4).over l5 (by omega)⟩
    rw [List.take_add_one, hp2]
    exact T5
  rintro σ h3 ⟨_, c4, c5, c6, rfl, T, s3, ec3, en3, l3⟩
  rw [List.length_map, Nat.zero_add, lfl, show nsf.take 6 = nsf from rfl] at T
  rw [List.length_map, Nat.zero_add, lfl] at s3
  clear en3 t1 sx lx et ec
  have tl3 := (List.getElem?_eq_some_iff.mp ec3).1
  sizeOf_list_dec
  refine .inr ⟨_, _, rfl, lstAt_lst (at_push _ _), ?_⟩
  have T1 : TabI t z (nsf ++ nsr.take 0) (h3 ++ [Ob.lst (rl.map itn)]) := by
    rw [List.take_zero, List.append_nil]
    exact T.x (Le.push _ _).x hst
  refine forL_rule (fun i σ h4 => i ≤ 3 ∧ ∃ c4 c5 c6, σ = [some (.ref st), some (.int z), some (.ref t), some (.ref (t + 1)), c4, c5, c6] ∧ TabI t z (nsf ++ nsr.take i) h4 ∧ StOk st (n + 60 + 9 * i) h4 ∧ h4[t + 1]? = some (.lst [.int 1, .int z, .int ((z : Int) * z)]) ∧ h4[h3.length]? = some (.lst (rl.map itn)) ∧ LeX st h h4) (rl.map itn) 0
    ⟨by omega, c4, c5, c6, rfl, T1, (s3.le (Le.push _ _)).more (by omega), Le.push _ _ _ _ ec3, at_push _ _, l3.trans (Le.push _ _).x⟩ (fun i σ h3 ⟨_, _, _, _, _, _, _, _, en, _⟩ => decide_eq_true (lstAt_lst en)) ?_ ?_
  · rintro i x σ h4 hx ⟨hi, c4, c5, c6, rfl, T, s4, ec4, en4, l4⟩
    rw [List.getElem?_map] at hx
    obtain ⟨p, hp, rfl⟩ := Option.map_eq_some_iff.mp hx
    have hpm := List.mem_of_getElem? hp
    have hlt := (List.getElem?_eq_some_iff.mp hp).1
    have har := ar_le.2 p hpm
    rw [Nat.zero_add] at *
    refine ⟨[some (.ref st), some (.int z), some (.ref t), some (.ref (t + 1)), some (.str p.1), some (.int (p.2 : Nat)), c6], rfl, ?_⟩
    sizeOf_list_dec
    refine (rowr_ok L (k := k) s4 (by omega) z0 z3 har ec4).mono ?_
    rintro _ h5 ⟨r, xs, rfl, hr, er, hxl, hrw, l5, s5⟩
    have hp2 : nsr[i]? = some (p.1, p.2, false) := by unfold nsr; rw [List.getElem?_map, hp]; rfl
    have hp3 : (nsf ++ nsr)[6 + i]? = some (p.1, p.2, false) := by rw [List.getElem?_append_right (by omega), lf, Nat.add_sub_cancel_left]; exact hp2
    have hn := not_in names_apart hp3
    rw [List.take_append, lf, Nat.add_sub_cancel_left, List.take_of_length_le (by omega)] at hn
    have hl3 := (List.getElem?_eq_some_iff.mp en4).1
    sizeOf_list_dec
    refine (T.x l5 (by omega)).put (p := (p.1, p.2, false)) (by omega) er hxl hrw hn (by rw [List.length_append, List.length_take]; omega) fun h6 l6 T6 => ?_
    sizeOf_list_dec
    refine ⟨by omega, _, _, _, rfl, ?_, (s5.more (by omega)).x l6 (by omega), l6.2 _ _ (by omega) (l5.2 _ _ (by omega) ec4), l6.2 _ _ (by omega) (l5.2 _ _ (by omega) en4), (l4.trans l5).over l6 (by omega)⟩
    rw [List.take_add_one, hp2, ← List.append_assoc]
    exact T6
  rintro σ h4 ⟨_, c4, c5, c6, rfl, T, s4, ec4, en4, l4⟩
  rw [List.length_map, Nat.zero_add, lrl, show nsr.take 3 = nsr from rfl] at T
  rw [List.length_map, Nat.zero_add, lrl] at s4
  obtain ⟨W, O, A, eW, ef, er⟩ := T.world z0 (by omega)
  have hl4 := s4.lt
  sizeOf_list_dec
  exact ⟨W, h4.length, t, rfl, hst, hl4, by rw [eW]; exact at_push _ _, O, A.x (st := st) (Le.push _ _).x hst, ef, er, l4.trans (Le.push _ _).x, (s4.le (Le.push _ _)).more (by omega)⟩
end
end K01
end Ev
/-! K01Turn: the loops of the law. -/
namespace Ev
open PySem
namespace K01
def B_turn : Ss := .cons (.set 11 (.call "_law_true" (.cons (.var 6) (.cons (.var 5) (.cons (.var 10) (.cons (.dct0) .nil)))))) (.cons (.ifs (.cmp .eq (.call "_law_take" (.cons (.var 1) (.cons (.con (.int 2)) .nil))) (.con (.int 0))) (.cons (.expr (.mth .insert (.var 7) (.cons (.call "_law_take" (.cons (.var 1) (.cons (.bin .add (.blt .len (.var 7)) (.con (.int 1))) .nil))) (.cons (.tup (.cons (.var 10) (.cons (.var 11) .nil))) .nil)))) .nil) (.cons (.expr (.mth .append (.var 9) (.cons (.tup (.cons (.var 10) (.cons (.var 11) .nil))) .nil))) .nil)) (.cons (.ifs (.cmp .gt (.call "_law_take" (.cons (.var 1) (.cons (.con (.int 3)) .nil))) (.con (.int 0))) (.cons (.expr (.mth .append (.var 8) (.cons (.tup (.cons (.var 10) (.cons (.cmp .eq (.call "_law_take" (.cons (.var 1) (.cons (.con (.int 2)) .nil))) (.con (.int 1))) .nil))) .nil))) .nil) (.nil)) .nil))
def B_p4 : Ss := .cons (.ifs (.not (.val (.call "_law_same" (.cons (.call "truth_by" (.cons (.blt .tuple (.bin .add (.var 7) (.var 9))) (.cons (.var 12) .nil))) (.cons (.call "_law_true" (.cons (.var 6) (.cons (.var 5) (.cons (.var 12) (.cons (.dct0) .nil))))) .nil))))) (.cons (.ret (.con (.bl false))) .nil) (.nil)) .nil
def B_part : Ss := .cons (.set 13 (.call "_law_settled" (.cons (.var 7) (.cons (.var 12) .nil)))) (.cons (.ifs (.or (.not (.val (.call "_law_told" (.cons (.blt .list (.var 7)) (.cons (.var 12) .nil))))) (.or (.not (.val (.call "_law_told" (.cons (.blt .tuple (.var 8)) (.cons (.var 12) .nil))))) (.one (.not (.val (.call "_law_told" (.cons (.lst (.nil)) (.cons (.var 12) .nil)))))))) (.cons (.ret (.con (.bl false))) .nil) (.nil)) (.cons (.ifs (.and (.cmp .isnn (.var 13) (.con .non)) (.one (.cmp .ne (.var 13) (.call "_law_true" (.cons (.var 6) (.cons (.var 5) (.cons (.var 12) (.cons (.dct0) .nil)))))))) (.cons (.ret (.con (.bl false))) .nil) (.nil)) (.cons (.ifs (.and (.cmp .isnn (.var 13) (.con .non)) (.one (.not (.val (.call "_law_same" (.cons (.call "truth_by" (.cons (.bin .add (.var 9) (.var 7)) (.cons (.var 12) .nil))) (.cons (.var 13) .nil))))))) (.cons (.ret (.con (.bl false))) .nil) (.nil)) B_p4)))
def B_end : Ss := .cons (.ret (.andv (.call "_law_told" (.cons (.lst (.nil)) (.cons (.tup (.cons (.con (.str "true")) .nil)) .nil))) (.andv (.call "_law_told" (.cons (.lst (.nil)) (.cons (.tup (.cons (.con (.str "false")) .nil)) .nil))) (.one (.call "_law_told" (.cons (.var 8) (.cons (.var 3) .nil))))))) .nil
/-- law(script): script, state, sentence, other, facts, size, tables, some, free, rest, fact, answer, part, due, kept, first -/
def B_law : Ss := .cons (.set 1 (.call "_law_start" (.cons (.var 0) .nil))) (.cons (.set 2 (.call "_law_drawn" (.cons (.var 1) (.cons (.bin .add (.con (.int 2)) (.call "_law_take" (.cons (.var 1) (.cons (.con (.int 3)) .nil)))) .nil)))) (.cons (.set 3 (.call "_law_drawn" (.cons (.var 1) (.cons (.con (.int 2)) .nil)))) (.cons (.ifs (.or (.not (.val (.call "_law_formed" (.cons (.var 2) .nil)))) (.one (.not (.val (.call "_law_formed" (.cons (.tup (.cons (.con (.str "implies")) (.cons (.var 2) (.cons (.var 3) .nil)))) .nil)))))) (.cons (.ret (.con (.bl false))) .nil) (.nil)) (.cons (.set 4 (.call "_law_facts" (.cons (.tup (.cons (.con (.str "and")) (.cons (.var 2) (.cons (.var 3) .nil)))) .nil))) (.cons (.par [5, 6] (.call "_law_world" (.cons (.var 1) .nil))) (.cons (.set 7 (.lst (.nil))) (.cons (.set 8 (.lst (.nil))) (.cons (.set 9 (.lst (.nil))) (.cons (.fors (.nm 10) (.seq (.var 4)) B_turn) (.cons (.fors (.nm 12) (.seq (.call "_law_parts" (.cons (.var 2) .nil))) B_part) (.cons (.ifs (.cmp .gt (.blt .len (.var 9)) (.con (.int 0))) (.cons (.set 14 (.blt .list (.var 7))) (.cons (.set 15 (.call "truth_by" (.cons (.var 7) (.cons (.var 2) .nil)))) (.cons (.expr (.mth .append (.var 7) (.cons (.ix (.var 9) (.con (.int 0))) .nil))) (.cons (.ifs (.or (.not (.val (.call "_law_told" (.cons (.var 7) (.cons (.var 2) .nil))))) (.one (.not (.val (.call "_law_same" (.cons (.call "truth_by" (.cons (.var 14) (.cons (.var 2) .nil))) (.cons (.var 15) .nil))))))) (.cons (.ret (.con (.bl false))) .nil) (.nil)) .nil)))) (.nil)) B_end)))))))))))
/-- the program has these defs -/
structure TopP (P : Prog) : Prop where
  law : P.fn (Str.ofString "law") = some ⟨1, 16, B_law⟩
/-- a fact's truth, by its value -/
def tvv (W : Wo) : Val → Bool
  | .tup [.str _, a] => wb W a
  | .tup [.str _, a, b] => decide (wv W a = wv W b)
  | _ => false
def mk (W : Wo) (v : Val) : Val × Bool := (v, tvv W v)
theorem tvv_val (W : Wo) {s : Sen} (h : s.atom = true) : tvv W s.val = s.tru W := by
  cases s <;> first | (simp [Sen.atom] at h; done) | rfl
theorem factsV_in {bs : List Sen} {b : Sen} (hb : b ∈ bs) (hp : b.plain = false) : b.fact.val ∈ factsV bs := by
  unfold factsV
  rw [once_mem]
  exact List.mem_map.mpr ⟨_, List.mem_map.mpr ⟨b, List.mem_filter.mpr ⟨hb, by simp [hp]⟩, rfl⟩, rfl⟩
/-- the facts of this law -/
structure Fs (W : Wo) (A : Sen) (fs : List Val) : Prop where
  good : Good A
  eq : fs = factsV A.basics
  ok : W.Ok
  fn : W.fn = fnA
  rel : W.rel = relA
  len : A.basics.length ≤ 100
theorem Fs.nodup {W : Wo} {A : Sen} {fs : List Val} (f : Fs W A fs) : fs.Nodup := by rw [f.eq]; exact once_nodup _
theorem Fs.le {W : Wo} {A : Sen} {fs : List Val} (f : Fs W A fs) : fs.length ≤ 100 := by rw [f.eq]; exact Nat.le_trans (factsV_len _) f.len
theorem Fs.mem {W : Wo} {A : Sen} {fs : List Val} (f : Fs W A fs) {v : Val} (h : v ∈ fs) : ∃ s : Sen, v = s.val ∧ s.Ok 4 ∧ s.Cl U ∧ s.Gr fnA relA 4 ∧ s.basics = [s] ∧ s.ht = 0 := by
  rw [f.eq] at h
  obtain ⟨b, hb, _, rfl⟩ := factsV_mem h
  obtain ⟨⟨h1, h2⟩, h3⟩ := f.good b hb
  refine ⟨b.fact, rfl, fact_ok h1, fact_cl h2, ?_, ?_, ?_⟩
  · cases b with
    | same a c =>
      rw [Sen.fact]
      split
      · exact ⟨⟨h3.1.2, h3.1.1⟩, ⟨h3.2.1.2, h3.2.1.1⟩, h3.2.2.2, h3.2.2.1⟩
      · exact h3
    | _ => exact h3
  · cases b with
    | same a c => rw [Sen.fact]; split <;> rfl
    | hold a => rfl
    | _ => exact h1.elim
  · cases b with
    | same a c => rw [Sen.fact]; split <;> rfl
    | hold a => rfl
    | _ => exact h1.elim
theorem Fs.ans {W : Wo} {A : Sen} {fs : List Val} (f : Fs W A fs) {as : Ans} (hn : (as.map (·.1)).Nodup) (hs : ∀ p ∈ as, p.1 ∈ fs) (hl : as.length ≤ 1000) : as.Ok 4 U := by
  refine ⟨hn, fun p hp => ?_, hl⟩
  · obtain ⟨s, h1, h2, h3, _⟩ := f.mem (hs p hp)
    exact ⟨s, h2, h3, h1⟩
theorem mk_map (W : Wo) (vs : List Val) : (vs.map (mk W)).map (·.1) = vs := by
  rw [List.map_map]
  conv => rhs; rw [← List.map_id vs]
  rfl
/-- what the loop over the facts keeps -/
def J (W : Wo) (st a N : Nat) (h0 : Hpe) (fs : List Val) (i : Nat) (h : Hpe) : Prop := ∃ (ss rs : List Val) (fr : Ans), (ss ++ rs).Perm (fs.take i) ∧ (fr.map (·.1)).Sublist (fs.take i) ∧
  h[a]? = some (.lst (Ans.vals (ss.map (mk W)))) ∧ h[a + 1]? = some (.lst fr.vals) ∧ h[a + 2]? = some (.lst (Ans.vals (rs.map (mk W)))) ∧ StOk st (N + 4 * i) h ∧ LeX st h0 h
theorem vals_app (as bs : Ans) : Ans.vals (as ++ bs) = as.vals ++ bs.vals := List.map_append
theorem vals_len (as : Ans) : as.vals.length = as.length := List.length_map _
theorem take_app {vs : List Val} {i : Nat} {v : Val} (h : vs[i]? = some v) : vs.take (i + 1) = vs.take i ++ [v] := by
  rw [List.take_add_one, h]; rfl
section
variable {P : Prog} (L : LibP P) (E : WorldP P)
include L E
theorem turn_ok {W : Wo} {A : Sen} {fs : List Val} (f : Fs W A fs) {st t a N k i : Nat} {h0 h : Hpe} {c0 c2 c3 c4 c11 : Option Val} {v : Val} (hv : fs[i]? = some v) (hA : AtX W t h0 t) (hst : st < t) (ha : a = h0.length) (hN : N < 2 ^ 30) (hk : 20 ≤ k) (hJ : J W st a N h0 fs i h) :
    WS (runs (Rk P k) B_turn [c0, some (.ref st), c2, c3, c4, some (.int W.z), some (.ref t), some (.ref a), some (.ref (a + 1)), some (.ref (a + 2)), some v, c11, none, none, none, none] h)
      (fun σ' h' => ∃ c11, σ' = [c0, some (.ref st), c2, c3, c4, some (.int W.z), some (.ref t), some (.ref a), some (.ref (a + 1)), some (.ref (a + 2)), some v, c11, none, none, none, none] ∧ J W st a N h0 fs (i + 1) h') (fun _ _ => False) (fun _ _ => False) (fun _ _ => False) := by
  obtain ⟨k, rfl⟩ : ∃ j, k = j + 1 := ⟨k - 1, by omega⟩
  have hM : sizeMax = 16777216 := rfl
  have hfl := f.le
  have hi := (List.getElem?_eq_some_iff.mp hv).1
  obtain ⟨ss, rs, fr, hp, hf, e1, e2, e3, s0, l0⟩ := hJ
  have lt0 : t < h0.length := by obtain ⟨_, kvs, e, _⟩ := hA; exact (List.getElem?_eq_some_iff.mp e).1
  have lp := hp.length_eq
  rw [List.length_append, List.length_take] at lp
  have lf := hf.length_le
  rw [List.length_map, List.length_take] at lf
  obtain ⟨s, rfl, so, sc, sg, sb, sht⟩ := f.mem (List.mem_of_getElem? hv)
  have la3 := (List.getElem?_eq_some_iff.mp e3).1
  unfold B_turn
  array_mem_dec
  have A1 : W.At (h ++ [Ob.dic []]) t := ((hA.x l0 (by omega)).at).le (Le.push _ _)
  refine (true_ok E f.ok (D := 4) (k := k + 1) s (by rw [sb]; intro b hb; rw [List.mem_singleton.mp hb, f.fn, f.rel]; exact sg) A1 (by omega)).mono ?_
  rintro _ h1 ⟨rfl, l1⟩
  have l1 := (Le.push h [Ob.dic []]).trans l1
  have e1 := l1 _ _ e1
  have e2 := l1 _ _ e2
  have e3 := l1 _ _ e3
  have s1 := s0.le l1
  have l01 := l0.trans (l1.x (st := st))
  have etv : tvv W s.val = s.tru W := tvv_val W (cl_atom sc)
  have emk : mk W s.val = (s.val, s.tru W) := by rw [mk, etv]
  clear A1 l1 s0 l0
  array_mem_dec
  refine (take_ok L (m := 2) s1 (by omega) (by decide)).mono ?_
  rintro _ h2 ⟨⟨j, rfl, j0, j1⟩, l2, s2⟩
  have e1 := l2.2 _ _ (by omega) e1
  have e2 := l2.2 _ _ (by omega) e2
  have e3 := l2.2 _ _ (by omega) e3
  have l02 := l01.trans l2
  -- the rest of the turn
  have rest : ∀ (ss rs : List Val) (h3 : Hpe), (ss ++ rs).Perm (fs.take (i + 1)) → h3[a]? = some (.lst (Ans.vals (ss.map (mk W)))) → h3[a + 1]? = some (.lst fr.vals) → h3[a + 2]? = some (.lst (Ans.vals (rs.map (mk W)))) → StOk st (N + 4 * i + 2) h3 → LeX st h0 h3 →
      WS (runs (Rk P (k + 1)) (.cons (.ifs (.cmp .gt (.call (Str.ofString "_law_take") (.cons (.var 1) (.cons (.con (.int 3)) .nil))) (.con (.int 0))) (.cons (.expr (.mth .append (.var 8) (.cons (.tup (.cons (.var 10) (.cons (.cmp .eq (.call (Str.ofString "_law_take") (.cons (.var 1) (.cons (.con (.int 2)) .nil))) (.con (.int 1))) .nil))) .nil))) .nil) (.nil)) .nil) [c0, some (.ref st), c2, c3, c4, some (.int W.z), some (.ref t), some (.ref a), some (.ref (a + 1)), some (.ref (a + 2)), some s.val, some (.bl (s.tru W)), none, none, none, none] h3)
      (fun σ' h' => ∃ c11, σ' = [c0, some (.ref st), c2, c3, c4, some (.int W.z), some (.ref t), some (.ref a), some (.ref (a + 1)), some (.ref (a + 2)), some s.val, c11, none, none, none, none] ∧ J W st a N h0 fs (i + 1) h') (fun _ _ => False) (fun _ _ => False) (fun _ _ => False) := by
    intro ss rs h3 hp e1 e2 e3 s3 l03
    array_mem_dec
    refine (take_ok L (m := 3) s3 (by omega) (by decide)).mono ?_
    rintro _ h4 ⟨⟨j, rfl, j0, j1⟩, l4, s4⟩
    have e1 := l4.2 _ _ (by omega) e1
    have e2 := l4.2 _ _ (by omega) e2
    have e3 := l4.2 _ _ (by omega) e3
    have l04 := l03.trans l4
    array_mem_dec
    refine ⟨fun hc => ?_, fun hc => ?_⟩
    · array_mem_dec
      refine ⟨rc_lst (by decide) (by decide) e2, ?_⟩
      array_mem_dec
      refine (take_ok L (m := 2) s4 (by omega) (by decide)).mono ?_
      rintro _ h5 ⟨⟨j5, rfl, _, _⟩, l5, s5⟩
      have e1 := l5.2 _ _ (by omega) e1
      have e2 := l5.2 _ _ (by omega) e2
      have e3 := l5.2 _ _ (by omega) e3
      have l05 := l04.trans l5
      array_mem_dec
      refine mt_app e2 (by rw [vals_len]; omega) ?_
      array_mem_dec
      refine ⟨_, rfl, ss, rs, fr ++ [(s.val, decide (j5 = 1))], hp, ?_, at_set_ne (by omega) e1, ?_, at_set_ne (by omega) e3, (s5.more (by omega)).set (by omega) _, l05.fresh (by omega) _⟩
      · rw [List.map_append, take_app hv]
        exact hf.append (List.Sublist.refl _)
      · rw [at_set e2, vals_app]
        rfl
    · array_mem_dec
      refine ⟨_, rfl, ss, rs, fr, hp, ?_, e1, e2, e3, s4.more (by omega), l04⟩
      rw [take_app hv]
      exact hf.trans (List.sublist_append_left _ _)
  array_mem_dec
  refine ⟨fun hc => ?_, fun hc => ?_⟩
  · array_mem_dec
    refine ⟨rc_lst (by decide) (by decide) e1, ?_⟩
    array_mem_dec
    refine bi_lenl (lstAt_lst e1) ?_
    array_mem_dec
    refine (take_ok L s2 (by omega) (by omega)).mono ?_
    rintro _ h3 ⟨⟨m, rfl, m0, m1⟩, l3, s3⟩
    rw [vals_len, List.length_map] at m1
    have e1 := l3.2 _ _ (by omega) e1
    have e2 := l3.2 _ _ (by omega) e2
    have e3 := l3.2 _ _ (by omega) e3
    have l03 := l02.trans l3
    array_mem_dec
    refine mt_ins e1 ⟨by rw [vals_len, List.length_map]; omega, by omega, by omega⟩ ?_
    refine ws_nil ?_
    refine rest (ss.take m.toNat ++ s.val :: ss.drop m.toNat) rs _ ?_ ?_ (at_set_ne (by omega) e2) (at_set_ne (by omega) e3) ((s3.more (by omega)).set (by omega) _) (l03.fresh (by omega) _)
    · rw [take_app hv]
      have h1 : (ss.take m.toNat ++ s.val :: ss.drop m.toNat).Perm (s.val :: ss) := by
        have := List.perm_middle (a := s.val) (l₁ := ss.take m.toNat) (l₂ := ss.drop m.toNat)
        rwa [List.take_append_drop] at this
      have h2 := (h1.append_right rs).trans (hp.cons s.val)
      exact h2.trans (List.perm_append_singleton _ _).symm
    · rw [at_set e1]
      simp only [Ans.vals, List.map_append, List.map_cons, List.map_take, List.map_drop, emk]
  · array_mem_dec
    refine ⟨rc_lst (by decide) (by decide) e3, ?_⟩
    array_mem_dec
    refine mt_app e3 (by rw [vals_len, List.length_map]; omega) ?_
    refine ws_nil ?_
    refine rest ss (rs ++ [s.val]) _ ?_ (at_set_ne (by omega) e1) (at_set_ne (by omega) e2) ?_ ((s2.more (by omega)).set (by omega) _) (l02.fresh (by omega) _)
    · rw [take_app hv, ← List.append_assoc]
      exact hp.append_right _
    · rw [at_set e3, List.map_append, vals_app]
      simp [Ans.vals, emk]
end
end K01
end Ev
/-! K01Main: the law itself. -/
namespace Ev
open PySem
namespace K01
theorem Sm.bl0 {h : Hpe} {d : Nat} (o : Option Bool) : Sm h d (ov o) (ov o) := by
  cases o with
  | none => exact .non
  | some b => exact .bl b
theorem perm_nodup {xs ys : List Val} (p : xs.Perm ys) (h : ys.Nodup) : xs.Nodup := p.nodup_iff.mpr h
section
variable {P : Prog} (L : LibP P) (S : SentP P) (T : Term0 P) (G : LawT P) (F : FactP P) (E : WorldP P)
include L S T G F E
theorem part_ok {W : Wo} {A : Sen} {fs : List Val} (f : Fs W A fs) {ss rs : List Val} {fr : Ans} (hp : (ss ++ rs).Perm fs) (hf : (fr.map (·.1)).Sublist fs) {p : Sen} (hb : ∀ b ∈ p.basics, b ∈ A.basics) (hht : p.ht ≤ 5)
    {t a k : Nat} {h : Hpe} {c0 c1 c2 c3 c4 c10 c11 c13 : Option Val} (hA : W.At h t) (e1 : h[a]? = some (.lst (Ans.vals (ss.map (mk W))))) (e2 : h[a + 1]? = some (.lst fr.vals)) (e3 : h[a + 2]? = some (.lst (Ans.vals (rs.map (mk W))))) (hk : 30 ≤ k) :
    WS (runs (Rk P k) B_part [c0, c1, c2, c3, c4, some (.int W.z), some (.ref t), some (.ref a), some (.ref (a + 1)), some (.ref (a + 2)), c10, c11, some p.val, c13, none, none] h)
      (fun σ' h' => ∃ c13, σ' = [c0, c1, c2, c3, c4, some (.int W.z), some (.ref t), some (.ref a), some (.ref (a + 1)), some (.ref (a + 2)), c10, c11, some p.val, c13, none, none] ∧ Le h h') (fun _ _ => False) (fun _ _ => False) (fun _ _ => False) := by
  have hM : sizeMax = 16777216 := rfl
  have hfl := f.le
  have lp := hp.length_eq
  rw [List.length_append] at lp
  have lf := hf.length_le
  rw [List.length_map] at lf
  have nd : (ss ++ rs).Nodup := perm_nodup hp f.nodup
  have nds := List.nodup_append.mp nd
  have ms : ∀ v ∈ ss, v ∈ fs := fun v hv => hp.mem_iff.mp (List.mem_append_left _ hv)
  have mr : ∀ v ∈ rs, v ∈ fs := fun v hv => hp.mem_iff.mp (List.mem_append_right _ hv)
  have mfst : ∀ {vs : List Val}, (∀ v ∈ vs, v ∈ fs) → ∀ q ∈ vs.map (mk W), q.1 ∈ fs := fun h q hq => by
    obtain ⟨v, hv, rfl⟩ := List.mem_map.mp hq
    exact h v hv
  have As : Ans.Ok 4 U (ss.map (mk W)) := f.ans (by rw [mk_map]; exact nds.1) (mfst ms) (by rw [List.length_map]; omega)
  have Ar : Ans.Ok 4 U (rs.map (mk W) ++ ss.map (mk W)) := f.ans (by rw [← List.map_append, mk_map]; exact perm_nodup List.perm_append_comm nd) (by rw [← List.map_append]; exact mfst fun v hv => by rcases List.mem_append.mp hv with h | h; exact mr v h; exact ms v h) (by rw [List.length_append, List.length_map, List.length_map]; omega)
  have Aa : Ans.Ok 4 U (ss.map (mk W) ++ rs.map (mk W)) := f.ans (by rw [← List.map_append, mk_map]; exact nd) (by rw [← List.map_append]; exact mfst fun v hv => by rcases List.mem_append.mp hv with h | h; exact ms v h; exact mr v h) (by rw [List.length_append, List.length_map, List.length_map]; omega)
  have Af : Ans.Ok 4 U fr := f.ans (hf.nodup f.nodup) (fun q hq => hf.subset (List.mem_map.mpr ⟨q, hq, rfl⟩)) (by omega)
  have An : Ans.Ok 4 U [] := f.ans List.nodup_nil (fun q hq => by simp at hq) (by simp)
  have pall : p.All 4 U := fun b hb2 => (f.good b (hb b hb2)).1
  have pgr : ∀ b ∈ p.basics, b.Gr W.fn W.rel 4 := fun b hb2 => by rw [f.fn, f.rel]; exact (f.good b (hb b hb2)).2
  have btv : ∀ b ∈ p.basics, tvv W b.fact.val = b.tru W := fun b hb2 => by
    rw [tvv_val W (cl_atom (fact_cl (pall b hb2).2)), tru_fact]
  -- what is settled is so
  have so : ∀ x, p.settle (Ans.look (ss.map (mk W))) = some x → x = p.tru W := fun x e => settle_so (fun b hb2 y hy => by
    obtain ⟨v, _, hv2⟩ := List.mem_map.mp ((look_mem As.nodup).mp hy)
    rw [mk, Prod.mk.injEq] at hv2
    rw [← hv2.2, hv2.1, btv b hb2]) e
  have up : ∀ x, p.settle (Ans.look (ss.map (mk W))) = some x → p.settle (Ans.look (rs.map (mk W) ++ ss.map (mk W))) = some x := fun x e => settle_up (fun b _ y hy => (look_mem Ar.nodup).mpr (List.mem_append_right _ ((look_mem As.nodup).mp hy))) e
  have full : p.settle (Ans.look (ss.map (mk W) ++ rs.map (mk W))) = some (p.tru W) := settle_full fun b hb2 hpl => by
    rw [look_mem Aa.nodup, ← btv b hb2, ← List.map_append]
    refine List.mem_map.mpr ⟨b.fact.val, hp.mem_iff.mpr ?_, rfl⟩
    rw [f.eq]
    exact factsV_in (hb b hb2) hpl
  unfold B_part
  array_mem_dec
  refine (settled_ok S G F As (by omega) p pall (.inr ⟨_, rfl, e1⟩) (by omega)).mono ?_
  rintro _ h1 ⟨rfl, l1⟩
  have e11 := l1 _ _ e1
  have e21 := l1 _ _ e2
  have e31 := l1 _ _ e3
  array_mem_dec
  refine bi_listl (lstAt_lst e11) ?_
  array_mem_dec
  refine (told_ok L S T G F As (by omega) pall (.inr ⟨_, rfl, at_push _ _⟩) (by omega)).mono ?_
  rintro _ h2 ⟨rfl, l2⟩
  have l12 := (Le.push h1 _).trans l2
  array_mem_dec
  refine bi_tupl (lstAt_lst (l12 _ _ e21)) ?_
  array_mem_dec
  refine (told_ok L S T G F Af (by omega) pall (.inl rfl) (by omega)).mono ?_
  rintro _ h3 ⟨rfl, l3⟩
  array_mem_dec
  refine (told_ok L S T G F An (by omega) pall (.inr ⟨_, rfl, at_push _ _⟩) (by omega)).mono ?_
  rintro _ h4 ⟨rfl, l4⟩
  have l14 : Le h1 h4 := l12.trans (l3.trans ((Le.push h3 _).trans l4))
  have l04 := l1.trans l14
  have e14 := l14 _ _ e11
  have e34 := l14 _ _ e31
  have A4 := hA.le l04
  clear l2 l12 l3 l4 l14 l1 e11 e21 e31
  have last : ∀ (c13 : Option Val) (h6 : Hpe), Le h4 h6 → WS (runs (Rk P k) B_p4 [c0, c1, c2, c3, c4, some (.int W.z), some (.ref t), some (.ref a), some (.ref (a + 1)), some (.ref (a + 2)), c10, c11, some p.val, c13, none, none] h6)
      (fun σ' h' => ∃ c13, σ' = [c0, c1, c2, c3, c4, some (.int W.z), some (.ref t), some (.ref a), some (.ref (a + 1)), some (.ref (a + 2)), c10, c11, some p.val, c13, none, none] ∧ Le h h') (fun _ _ => False) (fun _ _ => False) (fun _ _ => False) := by
    intro c13 h6 l6
    have e16 := l6 _ _ e14
    have e36 := l6 _ _ e34
    unfold B_p4
    array_mem_dec
    refine op_catl e16 e36 (by rw [vals_len, vals_len, List.length_map, List.length_map]; omega) ?_
    refine bi_tupl (lstAt_lst (at_push _ _)) ?_
    array_mem_dec
    refine (truth_by_ok S T F Aa (by omega) pall (.inl (by rw [vals_app])) (by omega)).mono ?_
    rintro _ h7 ⟨rfl, l7⟩
    rw [full]
    array_mem_dec
    have l67 := (Le.push h6 _).trans l7
    have A8 := ((A4.le l6).le l67).le (Le.push _ [Ob.dic []])
    refine (true_ok E f.ok (D := 4) (k := k) p pgr A8 (by omega)).mono ?_
    rintro _ h8 ⟨rfl, l8⟩
    array_mem_dec
    refine (same_ok L 0 (Sm.bl0 (some (p.tru W))) (by omega)).mono ?_
    rintro _ h9 ⟨rfl, l9⟩
    array_mem_dec
    exact ⟨_, rfl, l04.trans (l6.trans (l67.trans ((Le.push _ _).trans (l8.trans l9))))⟩
  cases hs : p.settle (Ans.look (ss.map (mk W))) with
  | none =>
    unfold ov
    array_mem_dec
    exact last _ _ .rfl
  | some x =>
    have hx := so x hs
    subst hx
    have hu := up _ hs
    unfold ov
    array_mem_dec
    refine (true_ok E f.ok (D := 4) (k := k) p pgr (A4.le (Le.push _ _)) (by omega)).mono ?_
    rintro _ h5 ⟨rfl, l5⟩
    have l5 := (Le.push h4 _).trans l5
    have e15 := l5 _ _ e14
    have e35 := l5 _ _ e34
    array_mem_dec
    refine op_catl e35 e15 (by rw [vals_len, vals_len, List.length_map, List.length_map]; omega) ?_
    array_mem_dec
    refine (truth_by_ok S T F Ar (by omega) pall (.inr ⟨_, rfl, by rw [at_push, vals_app]⟩) (by omega)).mono ?_
    rintro _ h6 ⟨rfl, l6⟩
    rw [hu]
    array_mem_dec
    refine (same_ok L 0 (Sm.bl0 (some (p.tru W))) (by omega)).mono ?_
    rintro _ h7 ⟨rfl, l7⟩
    array_mem_dec
    exact last _ _ (l5.trans ((Le.push _ _).trans (l6.trans l7)))
end
section
variable {P : Prog} (L : LibP P) (S : SentP P) (T : Term0 P) (G : LawT P) (F : FactP P) (E : WorldP P) (D : DrawP P) (M : TopP P) (hp : P.con (Str.ofString "PAIRS") = some (.tup ([Str.ofString "and", Str.ofString "or", Str.ofString "implies", Str.ofString "iff"].map Val.str))) (hb : P.con (Str.ofString "BINDERS") = some (.tup ([Str.ofString "all", Str.ofString "some"].map Val.str)))
theorem ws_par2 {R : Rc} {σ : En} {h : Hpe} {N : En → Hpe → Prop} {T' : Val → Hpe → Prop} {B C : En → Hpe → Prop} {i j : Nat} {e : Ev.E} (w : WP (ev R e σ h) fun v h1 => ∃ m x y, v = .ref m ∧ h1[m]? = some (.lst [x, y]) ∧ N ((σ.set i (some x)).set j (some y)) h1) : WS (run R (.par [i, j] e) σ h) N T' B C := by
  unfold WS
  simp only [run]
  refine WP.bind (w.mono fun v h1 ⟨m, x, y, ev, em, q⟩ => ?_)
  subst ev
  have : seqOf (.ref m) h1 = some [x, y] := by simp only [seqOf, lstAt, em]
  rw [this]
  exact WP.ok q
theorem ds_le {d : Nat} (h : d ≤ 4) : ds d ≤ 1000 := by
  have : ds 0 ≤ 1000 ∧ ds 1 ≤ 1000 ∧ ds 2 ≤ 1000 ∧ ds 3 ≤ 1000 ∧ ds 4 ≤ 1000 := by decide
  have : d = 0 ∨ d = 1 ∨ d = 2 ∨ d = 3 ∨ d = 4 := by omega
  rcases this with rfl | rfl | rfl | rfl | rfl <;> omega
include L S T G F E D M hp hb
theorem law_ok {k : Nat} (hk : 60 ≤ k) {h : Hpe} {n : Nat} {ns : List Int} (e : h[n]? = some (.frz (ns.map Val.int))) (hz : ns.length ≤ 63) : WP (call P (k + 1) (Str.ofString "law") [.ref n] h) fun v _ => v = .bl true := by
  obtain ⟨k, rfl⟩ : ∃ j, k = j + 1 := ⟨k - 1, by omega⟩
  have hM : sizeMax = 16777216 := rfl
  refine call_of (σ := [some (.ref n), none, none, none, none, none, none, none, none, none, none, none, none, none, none, none]) M.law rfl rfl ?_
  unfold B_law
  array_mem_dec
  refine (start_ok L e hz).mono ?_
  rintro _ h1 ⟨st, rfl, hst, l1, s1⟩
  clear e l1
  array_mem_dec
  refine (take_ok L (m := 3) s1 (by omega) (by decide)).mono ?_
  rintro _ h2 ⟨⟨a, rfl, a0, a1⟩, _, s2⟩
  obtain ⟨d, hd⟩ : ∃ d : Nat, 2 + a = (d : Int) := ⟨(2 + a).toNat, by omega⟩
  have hd4 : d ≤ 4 := by omega
  have hds := ds_le hd4
  have hp4 : 2 ^ d ≤ 2 ^ 4 := Nat.pow_le_pow_right (by decide) hd4
  array_mem_dec
  rw [hd]
  refine (drawn_ok (k := k + 1) L D d s2 (by omega) (by omega)).mono ?_
  rintro _ h3 ⟨⟨x, rfl, xh, xc, gx⟩, _, s3⟩
  array_mem_dec
  have hd2 : ds 2 ≤ 1000 := ds_le (by decide)
  refine (drawn_ok (k := k + 1) L D 2 s3 (by omega) (by omega)).mono ?_
  rintro _ h4 ⟨⟨y, rfl, yh, yc, gy⟩, _, s4⟩
  have s4 := s4.more (m := 3000) (by omega)
  clear s1 s2 s3
  have yc : y.cnt ≤ 4 := yc
  have xc : x.cnt ≤ 16 := by omega
  array_mem_dec
  refine (formed_ok (k := k + 1) (D := 4) (d := 4) L S T G F hp hb (by omega) (by omega) gx.all (by omega) (by omega)).mono ?_
  rintro _ h5 ⟨rfl, l5⟩
  array_mem_dec
  have gi : Good (.bin .imp x y) := good_bin gx gy
  have ga : Good (.bin .and x y) := good_bin gx gy
  have hti : ∀ w, (Sen.bin w x y).ht ≤ 5 := fun w => by rw [Sen.ht]; omega
  have hci : ∀ w, (Sen.bin w x y).cnt ≤ 20 := fun w => by rw [Sen.cnt]; omega
  refine (formed_ok (s := .bin .imp x y) (k := k + 1) (D := 4) (d := 5) L S T G F hp hb (hti _) (by have := hci .imp; omega) gi.all (by omega) (by omega)).mono ?_
  rintro _ h6 ⟨rfl, l6⟩
  array_mem_dec
  refine (lfacts_ok (s := .bin .and x y) (k := k + 1) (D := 4) (d := 5) (U := U) S G F (hti _) (by have := hci .and; omega) ga.all (by omega) (by omega)).mono ?_
  rintro _ h7 ⟨fm, rfl, hfm, l7, e7⟩
  have s7 := (s4.le (l5.trans l6)).le l7
  have hst7 := (s4.le (l5.trans l6)).lt
  clear s4
  array_mem_dec
  refine ws_par2 ?_
  array_mem_dec
  refine (world_ok (k := k + 1) L D s7 (by omega) (by omega)).mono ?_
  rintro _ h8 ⟨W, m, t, rfl, hstt, hstm, em, O, A8, ef, er, l8, s8⟩
  have hfms : fm ≠ st := by have := (List.getElem?_eq_some_iff.mp e7).1; have := (l5.trans l6).len; omega
  have e8 := l8.2 _ _ hfms e7
  refine ⟨m, _, _, rfl, em, ?_⟩
  have f : Fs W (.bin .and x y) (factsV (Sen.bin .and x y).basics) := ⟨ga, rfl, O, ef, er, Nat.le_trans (basics_len _) (Nat.le_trans (hci _) (by decide))⟩
  have hfl := f.le
  generalize hfs : factsV (Sen.bin .and x y).basics = fs at *
  clear l5 l6 l7 l8 e7 em
  have hlt8 := s8.lt
  have lt8 : t < h8.length := by obtain ⟨_, kvs, e, _⟩ := A8; exact (List.getElem?_eq_some_iff.mp e).1
  have lf8 := (List.getElem?_eq_some_iff.mp e8).1
  array_mem_dec
  have q1 : (h8 ++ [Ob.lst []]).length = h8.length + 1 := by simp
  have q2 : (h8 ++ [Ob.lst []] ++ [Ob.lst []]).length = h8.length + 2 := by simp
  have j1 : (h8 ++ [Ob.lst []] ++ [Ob.lst []] ++ [Ob.lst []])[h8.length]? = some (.lst []) := Le.push _ _ _ _ (Le.push _ _ _ _ (at_push _ _))
  have j2 : (h8 ++ [Ob.lst []] ++ [Ob.lst []] ++ [Ob.lst []])[h8.length + 1]? = some (.lst []) := Le.push _ _ _ _ (by rw [← q1]; exact at_push _ _)
  have j3 : (h8 ++ [Ob.lst []] ++ [Ob.lst []] ++ [Ob.lst []])[h8.length + 2]? = some (.lst []) := by rw [← q2]; exact at_push _ _
  have jl : Le h8 (h8 ++ [Ob.lst []] ++ [Ob.lst []] ++ [Ob.lst []]) := (Le.push _ _).trans ((Le.push _ _).trans (Le.push _ _))
  rw [q1, q2]
  generalize h8 ++ [Ob.lst []] ++ [Ob.lst []] ++ [Ob.lst []] = h9 at *
  have J0 : J W st h8.length 5000 h8 fs 0 h9 := ⟨[], [], [], by simp, by simp, j1, j2, j3, (s8.le jl).more (by omega), jl.x⟩
  refine .inr ⟨fm, fs, rfl, lstAt_lst (jl _ _ e8), ?_⟩
  refine forL_rule (fun i σ h => ∃ c10 c11, σ = [some (.ref n), some (.ref st), some x.val, some y.val, some (.ref fm), some (.int W.z), some (.ref t), some (.ref h8.length), some (.ref (h8.length + 1)), some (.ref (h8.length + 2)), c10, c11, none, none, none, none] ∧ J W st h8.length 5000 h8 fs i h) fs 0
    ⟨none, none, rfl, J0⟩ (fun i σ h ⟨_, _, _, _, _, _, _, _, _, _, _, _, l⟩ => decide_eq_true (lstAt_lst (l.2 _ _ hfms e8))) ?_ ?_
  · rintro i v σ h hv ⟨c10, c11, rfl, hJ⟩
    rw [Nat.zero_add] at *
    refine ⟨_, rfl, ?_⟩
    exact (turn_ok L E f (k := k + 1) hv A8 (by omega) rfl (by omega) (by omega) hJ).mono (fun σ' h' ⟨c11, e, q⟩ => ⟨_, c11, e, q⟩) (fun _ _ z => z.elim) (fun _ _ z => z.elim) (fun _ _ z => z.elim)
  rintro σ h10 ⟨c10, c11, rfl, ss, rs, fr, pp, pf, e1, e2, e3, s10, l10⟩
  rw [Nat.zero_add, List.take_length] at pp pf
  have A10 := (A8.x l10 (by omega)).at
  clear J0 j1 j2 j3 jl s8 s7 A8 q1 q2
  generalize h8.length = a at *
  array_mem_dec
  have hpl : x.parts.length ≤ 100 := by
    have h1 := parts_len x
    have h2 : 2 ^ (x.ht + 1) ≤ 2 ^ 5 := Nat.pow_le_pow_right (by decide) (by omega)
    omega
  refine (parts_ok (k := k + 1) F 4 (s := x) (by omega) (by omega) (by omega)).mono ?_
  rintro _ h11 ⟨pm, rfl, _, l11, e11⟩
  refine .inr ⟨pm, _, rfl, lstAt_lst e11, ?_⟩
  have hbx : ∀ b ∈ x.basics, b ∈ (Sen.bin .and x y).basics := fun b hb => by rw [Sen.basics]; exact List.mem_append_left _ hb
  refine forL_rule (fun i σ h => ∃ c12 c13, σ = [some (.ref n), some (.ref st), some x.val, some y.val, some (.ref fm), some (.int W.z), some (.ref t), some (.ref a), some (.ref (a + 1)), some (.ref (a + 2)), c10, c11, c12, c13, none, none] ∧ Le h11 h) (x.parts.map Sen.val) 0
    ⟨none, none, rfl, .rfl⟩ (fun i σ h ⟨_, _, _, l⟩ => decide_eq_true (lstAt_lst (l _ _ e11))) ?_ ?_
  · rintro i v σ h hv ⟨c12, c13, rfl, l⟩
    rw [List.getElem?_map] at hv
    obtain ⟨p, hp1, rfl⟩ := Option.map_eq_some_iff.mp hv
    have hpm := List.mem_of_getElem? hp1
    have l2 := l11.trans l
    refine ⟨_, rfl, ?_⟩
    exact (part_ok L S T G F E f pp pf (p := p) (k := k + 1) (fun b hb => hbx b (parts_basics hpm b hb)) (by have := parts_ht hpm; omega) (A10.le l2) (l2 _ _ e1) (l2 _ _ e2) (l2 _ _ e3) (by omega)).mono (fun σ' h' ⟨c13, e, q⟩ => ⟨_, c13, e, l.trans q⟩) (fun _ _ z => z.elim) (fun _ _ z => z.elim) (fun _ _ z => z.elim)
  rintro σ h12 ⟨c12, c13, rfl, l⟩
  have l := l11.trans l
  have e1 := l _ _ e1
  have e2 := l _ _ e2
  have e3 := l _ _ e3
  have lp := pp.length_eq
  rw [List.length_append] at lp
  have lf := pf.length_le
  rw [List.length_map] at lf
  have nd : (ss ++ rs).Nodup := perm_nodup pp f.nodup
  have nds := List.nodup_append.mp nd
  have ms : ∀ v ∈ ss, v ∈ fs := fun v hv => pp.mem_iff.mp (List.mem_append_left _ hv)
  have mr : ∀ v ∈ rs, v ∈ fs := fun v hv => pp.mem_iff.mp (List.mem_append_right _ hv)
  have mfst : ∀ {vs : List Val}, (∀ v ∈ vs, v ∈ fs) → ∀ q ∈ vs.map (mk W), q.1 ∈ fs := fun h q hq => by
    obtain ⟨v, hv, rfl⟩ := List.mem_map.mp hq
    exact h v hv
  have As : Ans.Ok 4 U (ss.map (mk W)) := f.ans (by rw [mk_map]; exact nds.1) (mfst ms) (by rw [List.length_map]; omega)
  have Af : Ans.Ok 4 U fr := f.ans (pf.nodup f.nodup) (fun q hq => pf.subset (List.mem_map.mpr ⟨q, hq, rfl⟩)) (by omega)
  have An : Ans.Ok 4 U [] := f.ans List.nodup_nil (fun q hq => by simp at hq) (by simp)
  have fin : ∀ (c7 c14 c15 : Option Val) (h : Hpe), h[a + 1]? = some (.lst fr.vals) → WS (runs (Rk P (k + 1)) B_end [some (.ref n), some (.ref st), some x.val, some y.val, some (.ref fm), some (.int W.z), some (.ref t), c7, some (.ref (a + 1)), some (.ref (a + 2)), c10, c11, c12, c13, c14, c15] h) (fun _ _ => Val.non = Val.bl true) (fun v _ => v = Val.bl true) (fun _ _ => False) (fun _ _ => False) := by
    intro c7 c14 c15 h e2
    unfold B_end
    array_mem_dec
    refine (told_ok (s := .tt) (k := k + 1) L S T G F An (by omega) (good_none rfl : Good .tt).all (.inr ⟨_, rfl, at_push _ _⟩) (by show 4 + 0 + 8 ≤ _; omega)).mono ?_
    rintro _ h1 ⟨rfl, l1⟩
    array_mem_dec
    refine (told_ok (s := .ff) (k := k + 1) L S T G F An (by omega) (good_none rfl : Good .ff).all (.inr ⟨_, rfl, at_push _ _⟩) (by show 4 + 0 + 8 ≤ _; omega)).mono ?_
    rintro _ h2 ⟨rfl, l2⟩
    have l02 := (Le.push h _).trans (l1.trans ((Le.push h1 _).trans l2))
    array_mem_dec
    refine (told_ok (k := k + 1) L S T G F Af (by omega) gy.all (.inr ⟨_, rfl, l02 _ _ e2⟩) (by omega)).mono ?_
    rintro _ h3 ⟨rfl, l3⟩
    rfl
  array_mem_dec
  refine bi_lenl (lstAt_lst e3) ?_
  array_mem_dec
  rw [vals_len, List.length_map]
  refine ⟨fun hc => ?_, fun hc => ?_⟩
  · have hpos : 0 < rs.length := by have := of_decide_eq_true hc; omega
    obtain ⟨r0, rs', rfl⟩ : ∃ r rs', rs = r :: rs' := by
      cases rs with
      | nil => simp at hpos
      | cons r rs' => exact ⟨r, rs', rfl⟩
    have Ab : Ans.Ok 4 U (ss.map (mk W) ++ [mk W r0]) := by
      rw [← List.map_singleton, ← List.map_append]
      refine f.ans ?_ (mfst fun v hv => ?_) (by rw [List.length_map, List.length_append, List.length_singleton]; omega)
      · rw [mk_map]
        refine List.Sublist.nodup ?_ nd
        exact (List.Sublist.refl _).append (by simp)
      · rcases List.mem_append.mp hv with h | h
        · exact ms v h
        · exact mr v (by rw [List.mem_singleton.mp h]; exact List.mem_cons_self)
    array_mem_dec
    refine bi_listl (lstAt_lst e1) ?_
    array_mem_dec
    have e1' := Le.push h12 [Ob.lst (Ans.vals (ss.map (mk W)))] _ _ e1
    have ek := at_push h12 (Ob.lst (Ans.vals (ss.map (mk W))))
    have la := (List.getElem?_eq_some_iff.mp e1).1
    refine (truth_by_ok (k := k + 1) S T F As (by omega) gx.all (.inr ⟨_, rfl, e1'⟩) (by omega)).mono ?_
    rintro _ h13 ⟨rfl, l13⟩
    have l13' := (Le.push h12 [Ob.lst (Ans.vals (ss.map (mk W)))]).trans l13
    have e13 := l13' _ _ e1
    have e33 := l13' _ _ e3
    have e23 := l13' _ _ e2
    have ek3 := l13 _ _ ek
    array_mem_dec
    refine ⟨rc_lst (by decide) (by decide) e13, ?_⟩
    array_mem_dec
    refine ix_lst (n := 0) (lstAt_lst e33) (place_zero (by rw [vals_len, List.length_map, List.length_cons]; omega)) rfl ?_
    array_mem_dec
    refine mt_app e13 (by rw [vals_len, List.length_map]; omega) ?_
    have e14 := at_set (o := .lst (Ans.vals (ss.map (mk W)) ++ [.tup [(mk W r0).1, .bl (mk W r0).2]])) e13
    have ek4 := at_set_ne (n := a) (o := .lst (Ans.vals (ss.map (mk W)) ++ [.tup [(mk W r0).1, .bl (mk W r0).2]])) (by omega) ek3
    have e24 := at_set_ne (n := a) (o := .lst (Ans.vals (ss.map (mk W)) ++ [.tup [(mk W r0).1, .bl (mk W r0).2]])) (by omega) e23
    array_mem_dec
    refine (told_ok (k := k + 1) L S T G F Ab (by omega) gx.all (.inr ⟨_, rfl, by rw [vals_app]; exact e14⟩) (by omega)).mono ?_
    rintro _ h15 ⟨rfl, l15⟩
    array_mem_dec
    refine (truth_by_ok (k := k + 1) S T F As (by omega) gx.all (.inr ⟨_, rfl, l15 _ _ ek4⟩) (by omega)).mono ?_
    rintro _ h16 ⟨rfl, l16⟩
    array_mem_dec
    refine (same_ok (k := k + 1) L 0 (Sm.bl0 _) (by omega)).mono ?_
    rintro _ h17 ⟨rfl, l17⟩
    array_mem_dec
    exact fin _ _ _ _ (l17 _ _ (l16 _ _ (l15 _ _ e24)))
  · array_mem_dec
    exact fin _ _ _ _ e2
end
end K01
end Ev
/-! the program of law k01, piece by piece, printed by wip/gen.py -/
namespace Ev.K01
open PySem Ev
/-- is_unknown: term -/
def F_is_unknown : Fn := ⟨1, 1, .cons (.ret (.isi (.var 0) .str)) .nil⟩
/-- term_text: term, inner, argument -/
def F_term_text : Fn := ⟨1, 3, .cons (.ifs (.val (.call "is_unknown" (.cons (.var 0) .nil))) (.cons (.ret (.var 0)) .nil) (.nil)) (.cons (.ifs (.cmp .eq (.blt .len (.var 0)) (.con (.int 1))) (.cons (.ret (.ix (.var 0) (.con (.int 0)))) .nil) (.nil)) (.cons (.set 1 (.mth .join (.con (.str ", ")) (.cons (.lc (.call "term_text" (.cons (.var 2) .nil)) (.nm 2) (.seq (.sl (.var 0) (.yes (.con (.int 1))) .no)) .tt [2]) .nil))) (.cons (.ret (.bin .add (.bin .add (.bin .add (.ix (.var 0) (.con (.int 0))) (.con (.str "("))) (.var 1)) (.con (.str ")")))) .nil)))⟩
/-- term_size: term, argument -/
def F_term_size : Fn := ⟨1, 2, .cons (.ifs (.val (.call "is_unknown" (.cons (.var 0) .nil))) (.cons (.ret (.con (.int 1))) .nil) (.nil)) (.cons (.ret (.bin .add (.con (.int 1)) (.blt .sum (.lc (.call "term_size" (.cons (.var 1) .nil)) (.nm 1) (.seq (.sl (.var 0) (.yes (.con (.int 1))) .no)) .tt [1])))) .nil)⟩
/-- term_key: term -/
def F_term_key : Fn := ⟨1, 1, .cons (.ret (.tup (.cons (.call "term_size" (.cons (.var 0) .nil)) (.cons (.call "term_text" (.cons (.var 0) .nil)) .nil)))) .nil⟩
/-- children: sentence -/
def F_children : Fn := ⟨1, 1, .cons (.ifs (.cmp .eq (.ix (.var 0) (.con (.int 0))) (.con (.str "not"))) (.cons (.ret (.tup (.cons (.ix (.var 0) (.con (.int 1))) .nil))) .nil) (.nil)) (.cons (.ifs (.cmp .inn (.ix (.var 0) (.con (.int 0))) (.glb "PAIRS")) (.cons (.ret (.tup (.cons (.ix (.var 0) (.con (.int 1))) (.cons (.ix (.var 0) (.con (.int 2))) .nil)))) .nil) (.nil)) (.cons (.ifs (.cmp .inn (.ix (.var 0) (.con (.int 0))) (.glb "BINDERS")) (.cons (.ret (.tup (.cons (.ix (.var 0) (.con (.int 2))) .nil))) .nil) (.nil)) (.cons (.ret (.tup (.nil))) .nil)))⟩
/-- basics_in: sentence, found, part -/
def F_basics_in : Fn := ⟨1, 3, .cons (.ifs (.cmp .inn (.ix (.var 0) (.con (.int 0))) (.tup (.cons (.con (.str "holds")) (.cons (.con (.str "same")) .nil)))) (.cons (.ret (.lst (.cons (.var 0) .nil))) .nil) (.nil)) (.cons (.set 1 (.lst (.nil))) (.cons (.fors (.nm 2) (.seq (.call "children" (.cons (.var 0) .nil))) (.cons (.expr (.mth .extend (.var 1) (.cons (.call "basics_in" (.cons (.var 2) .nil)) .nil))) .nil)) (.cons (.ret (.var 1)) .nil)))⟩
/-- make_fact: basic -/
def F_make_fact : Fn := ⟨1, 1, .cons (.ifs (.and (.cmp .eq (.ix (.var 0) (.con (.int 0))) (.con (.str "same"))) (.one (.cmp .lt (.call "term_key" (.cons (.ix (.var 0) (.con (.int 2))) .nil)) (.call "term_key" (.cons (.ix (.var 0) (.con (.int 1))) .nil))))) (.cons (.ret (.tup (.cons (.con (.str "same")) (.cons (.ix (.var 0) (.con (.int 2))) (.cons (.ix (.var 0) (.con (.int 1))) .nil))))) .nil) (.nil)) (.cons (.ret (.var 0)) .nil)⟩
/-- fact_text: fact -/
def F_fact_text : Fn := ⟨1, 1, .cons (.ifs (.cmp .eq (.ix (.var 0) (.con (.int 0))) (.con (.str "holds"))) (.cons (.ret (.call "term_text" (.cons (.ix (.var 0) (.con (.int 1))) .nil))) .nil) (.nil)) (.cons (.ret (.bin .add (.bin .add (.call "term_text" (.cons (.ix (.var 0) (.con (.int 1))) .nil)) (.con (.str " = "))) (.call "term_text" (.cons (.ix (.var 0) (.con (.int 2))) .nil)))) .nil)⟩
/-- is_plain_sameness: basic -/
def F_is_plain_sameness : Fn := ⟨1, 1, .cons (.ret (.andv (.cmp .eq (.ix (.var 0) (.con (.int 0))) (.con (.str "same"))) (.one (.cmp .eq (.ix (.var 0) (.con (.int 1))) (.ix (.var 0) (.con (.int 2))))))) .nil⟩
/-- facts_in: sentence, table, basic, fact, text -/
def F_facts_in : Fn := ⟨1, 5, .cons (.set 1 (.dct0)) (.cons (.fors (.nm 2) (.seq (.call "basics_in" (.cons (.var 0) .nil))) (.cons (.ifs (.not (.val (.call "is_plain_sameness" (.cons (.var 2) .nil)))) (.cons (.set 3 (.call "make_fact" (.cons (.var 2) .nil))) (.cons (.expr (.setd (.var 1) (.call "fact_text" (.cons (.var 3) .nil)) (.var 3))) .nil)) (.nil)) .nil)) (.cons (.ret (.lock 1 (.lc (.ix (.var 1) (.var 4)) (.nm 4) (.dky (.var 1)) .tt [4]))) .nil))⟩
/-- answer_table: answers, fact, answer -/
def F_answer_table : Fn := ⟨1, 3, .cons (.ret (.dc (.call "fact_text" (.cons (.var 1) .nil)) (.var 2) (.tp [1, 2]) (.seq (.var 0)) .tt [1, 2])) .nil⟩
/-- pair_value: word, first, second, decisive -/
def F_pair_value : Fn := ⟨3, 4, .cons (.ifs (.cmp .eq (.var 0) (.con (.str "iff"))) (.cons (.ret (.ife (.or (.cmp .isn (.var 1) (.con .non)) (.one (.cmp .isn (.var 2) (.con .non)))) (.con .non) (.cmp .eq (.var 1) (.var 2)))) .nil) (.nil)) (.cons (.ifs (.and (.cmp .eq (.var 0) (.con (.str "implies"))) (.one (.cmp .isnn (.var 1) (.con .non)))) (.cons (.set 1 (.notv (.var 1))) .nil) (.nil)) (.cons (.set 3 (.cmp .ne (.var 0) (.con (.str "and")))) (.cons (.ifs (.or (.cmp .eq (.var 1) (.var 3)) (.one (.cmp .eq (.var 2) (.var 3)))) (.cons (.ret (.var 3)) .nil) (.nil)) (.cons (.ret (.ife (.or (.cmp .isn (.var 1) (.con .non)) (.one (.cmp .isn (.var 2) (.con .non)))) (.con .non) (.notv (.var 3)))) .nil))))⟩
/-- value_by: table, sentence, word, first -/
def F_value_by : Fn := ⟨2, 4, .cons (.set 2 (.ix (.var 1) (.con (.int 0)))) (.cons (.ifs (.cmp .inn (.var 2) (.tup (.cons (.con (.str "true")) (.cons (.con (.str "false")) .nil)))) (.cons (.ret (.cmp .eq (.var 2) (.con (.str "true")))) .nil) (.nil)) (.cons (.ifs (.cmp .inn (.var 2) (.tup (.cons (.con (.str "holds")) (.cons (.con (.str "same")) .nil)))) (.cons (.ret (.ife (.val (.call "is_plain_sameness" (.cons (.var 1) .nil))) (.con (.bl true)) (.mth .get (.var 0) (.cons (.call "fact_text" (.cons (.call "make_fact" (.cons (.var 1) .nil)) .nil)) .nil)))) .nil) (.nil)) (.cons (.set 3 (.call "value_by" (.cons (.var 0) (.cons (.ix (.var 1) (.con (.int 1))) .nil)))) (.cons (.ifs (.cmp .eq (.var 2) (.con (.str "not"))) (.cons (.ret (.ife (.cmp .isn (.var 3) (.con .non)) (.con .non) (.notv (.var 3)))) .nil) (.nil)) (.cons (.ret (.call "pair_value" (.cons (.var 2) (.cons (.var 3) (.cons (.call "value_by" (.cons (.var 0) (.cons (.ix (.var 1) (.con (.int 2))) .nil))) .nil))))) .nil)))))⟩
/-- truth_by: answers, sentence -/
def F_truth_by : Fn := ⟨2, 2, .cons (.ret (.call "value_by" (.cons (.call "answer_table" (.cons (.var 0) .nil)) (.cons (.var 1) .nil)))) .nil⟩
/-- _law_start: script, row, seed, k, cell, j, mixed -/
def F__law_start : Fn := ⟨1, 7, .cons (.set 1 (.lst (.nil))) (.cons (.set 2 (.con (.int 17))) (.cons (.fors (.nm 3) (.rng1 (.blt .len (.var 0))) (.cons (.set 4 (.blt .abs (.ix (.var 0) (.var 3)))) (.cons (.set 2 (.bin .mod (.blt .int (.bin .add (.bin .add (.bin .mul (.var 2) (.con (.int 31))) (.var 4)) (.var 3))) (.con (.int 2147483647)))) (.cons (.ifs (.cmp .ge (.var 4) (.bin .pow (.con (.int 10)) (.con (.int 18)))) (.cons (.set 4 (.bin .sub (.var 4) (.bin .pow (.con (.int 10)) (.con (.int 18))))) (.cons (.fors (.nm 5) (.rng1 (.con (.int 60))) (.cons (.ifs (.cmp .gt (.var 4) (.con (.int 0))) (.cons (.expr (.mth .append (.var 1) (.cons (.bin .mod (.blt .int (.var 4)) (.con (.int 840))) .nil))) (.cons (.set 4 (.bin .fdiv (.var 4) (.con (.int 840)))) .nil)) (.nil)) .nil)) .nil)) (.cons (.set 6 (.bin .mod (.blt .int (.bin .add (.bin .mul (.bin .add (.var 4) (.con (.int 1))) (.con (.int 48271))) (.bin .mul (.var 3) (.con (.int 69621))))) (.con (.int 2147483647)))) (.cons (.set 6 (.bin .mod (.blt .int (.bin .add (.bin .mul (.var 6) (.con (.int 40692))) (.con (.int 5)))) (.con (.int 2147483399)))) (.cons (.expr (.mth .append (.var 1) (.cons (.bin .mod (.bin .fdiv (.var 6) (.con (.int 13))) (.con (.int 840))) .nil))) .nil)))) .nil)))) (.cons (.ret (.lst (.cons (.var 1) (.cons (.con (.int 0)) (.cons (.var 2) .nil))))) .nil)))⟩
/-- _law_take: state, many, at, mixed -/
def F__law_take : Fn := ⟨2, 4, .cons (.set 2 (.ix (.var 0) (.con (.int 1)))) (.cons (.setSub (.var 0) (.con (.int 1)) (.bin .add (.var 2) (.con (.int 1)))) (.cons (.ifs (.cmp .lt (.var 2) (.blt .len (.ix (.var 0) (.con (.int 0))))) (.cons (.ret (.bin .mod (.blt .int (.ix (.ix (.var 0) (.con (.int 0))) (.var 2))) (.var 1))) .nil) (.nil)) (.cons (.set 3 (.bin .mod (.blt .int (.bin .mul (.bin .add (.ix (.var 0) (.con (.int 2))) (.bin .mul (.var 2) (.con (.int 40503)))) (.con (.int 48271)))) (.con (.int 2147483647)))) (.cons (.set 3 (.bin .mod (.blt .int (.bin .add (.bin .mul (.var 3) (.con (.int 69621))) (.bin .mul (.var 2) (.var 2)))) (.con (.int 2147483629)))) (.cons (.ret (.bin .mod (.bin .fdiv (.var 3) (.con (.int 11))) (.var 1))) .nil)))))⟩
/-- _law_same: one, two, k -/
def F__law_same : Fn := ⟨2, 3, .cons (.ifs (.or (.cmp .isn (.var 0) (.con .non)) (.one (.cmp .isn (.var 1) (.con .non)))) (.cons (.ret (.andv (.cmp .isn (.var 0) (.con .non)) (.one (.cmp .isn (.var 1) (.con .non))))) .nil) (.nil)) (.cons (.ifs (.or (.val (.isi (.var 0) .bool)) (.one (.val (.isi (.var 1) .bool)))) (.cons (.ret (.andv (.isi (.var 0) .bool) (.andv (.isi (.var 1) .bool) (.one (.cmp .eq (.var 0) (.var 1)))))) .nil) (.nil)) (.cons (.ifs (.or (.val (.isi (.var 0) .int)) (.one (.val (.isi (.var 1) .int)))) (.cons (.ret (.andv (.isi (.var 0) .int) (.andv (.isi (.var 1) .int) (.one (.cmp .eq (.var 0) (.var 1)))))) .nil) (.nil)) (.cons (.ifs (.or (.val (.isi (.var 0) .str)) (.one (.val (.isi (.var 1) .str)))) (.cons (.ret (.andv (.isi (.var 0) .str) (.andv (.isi (.var 1) .str) (.one (.cmp .eq (.var 0) (.var 1)))))) .nil) (.nil)) (.cons (.ifs (.or (.cmp .ne (.isi (.var 0) .tuple) (.isi (.var 1) .tuple)) (.one (.cmp .ne (.isi (.var 0) .list) (.isi (.var 1) .list)))) (.cons (.ret (.con (.bl false))) .nil) (.nil)) (.cons (.ifs (.cmp .ne (.blt .len (.var 0)) (.blt .len (.var 1))) (.cons (.ret (.con (.bl false))) .nil) (.nil)) (.cons (.ret (.blt .all (.lc (.call "_law_same" (.cons (.ix (.var 0) (.var 2)) (.cons (.ix (.var 1) (.var 2)) .nil))) (.nm 2) (.rng1 (.blt .len (.var 0))) .tt [2]))) .nil))))))⟩
/-- _law_entry: tables, size, name, things, at, thing -/
def F__law_entry : Fn := ⟨4, 6, .cons (.set 4 (.con (.int 0))) (.cons (.fors (.nm 5) (.seq (.var 3)) (.cons (.set 4 (.bin .add (.bin .mul (.var 4) (.var 1)) (.var 5))) .nil)) (.cons (.ret (.ix (.ix (.var 0) (.var 2)) (.var 4))) .nil))⟩
/-- _law_value: tables, size, term, values, part -/
def F__law_value : Fn := ⟨4, 5, .cons (.ifs (.val (.isi (.var 2) .str)) (.cons (.ret (.ix (.var 3) (.var 2))) .nil) (.nil)) (.cons (.ret (.call "_law_entry" (.cons (.var 0) (.cons (.var 1) (.cons (.ix (.var 2) (.con (.int 0))) (.cons (.lc (.call "_law_value" (.cons (.var 0) (.cons (.var 1) (.cons (.var 4) (.cons (.var 3) .nil))))) (.nm 4) (.seq (.sl (.var 2) (.yes (.con (.int 1))) .no)) .tt [4]) .nil)))))) .nil)⟩
/-- _law_bound: tables, size, sentence, values, want, thing, inner -/
def F__law_bound : Fn := ⟨4, 7, .cons (.set 4 (.cmp .eq (.ix (.var 2) (.con (.int 0))) (.con (.str "some")))) (.cons (.fors (.nm 5) (.rng1 (.var 1)) (.cons (.set 6 (.blt .dict (.var 3))) (.cons (.setSub (.var 6) (.ix (.var 2) (.con (.int 1))) (.var 5)) (.cons (.ifs (.cmp .eq (.call "_law_true" (.cons (.var 0) (.cons (.var 1) (.cons (.ix (.var 2) (.con (.int 2))) (.cons (.var 6) .nil))))) (.var 4)) (.cons (.ret (.var 4)) .nil) (.nil)) .nil)))) (.cons (.ret (.notv (.var 4))) .nil))⟩
/-- _law_true: tables, size, sentence, values, word, one, two -/
def F__law_true : Fn := ⟨4, 7, .cons (.set 4 (.ix (.var 2) (.con (.int 0)))) (.cons (.ifs (.or (.cmp .eq (.var 4) (.con (.str "true"))) (.one (.cmp .eq (.var 4) (.con (.str "false"))))) (.cons (.ret (.cmp .eq (.var 4) (.con (.str "true")))) .nil) (.nil)) (.cons (.ifs (.cmp .eq (.var 4) (.con (.str "holds"))) (.cons (.ret (.call "_law_value" (.cons (.var 0) (.cons (.var 1) (.cons (.ix (.var 2) (.con (.int 1))) (.cons (.var 3) .nil)))))) .nil) (.nil)) (.cons (.ifs (.cmp .eq (.var 4) (.con (.str "same"))) (.cons (.ret (.cmp .eq (.call "_law_value" (.cons (.var 0) (.cons (.var 1) (.cons (.ix (.var 2) (.con (.int 1))) (.cons (.var 3) .nil))))) (.call "_law_value" (.cons (.var 0) (.cons (.var 1) (.cons (.ix (.var 2) (.con (.int 2))) (.cons (.var 3) .nil))))))) .nil) (.nil)) (.cons (.ifs (.cmp .eq (.var 4) (.con (.str "not"))) (.cons (.ret (.notv (.call "_law_true" (.cons (.var 0) (.cons (.var 1) (.cons (.ix (.var 2) (.con (.int 1))) (.cons (.var 3) .nil))))))) .nil) (.nil)) (.cons (.ifs (.cmp .inn (.var 4) (.tup (.cons (.con (.str "all")) (.cons (.con (.str "some")) .nil)))) (.cons (.ret (.call "_law_bound" (.cons (.var 0) (.cons (.var 1) (.cons (.var 2) (.cons (.var 3) .nil)))))) .nil) (.nil)) (.cons (.set 5 (.call "_law_true" (.cons (.var 0) (.cons (.var 1) (.cons (.ix (.var 2) (.con (.int 1))) (.cons (.var 3) .nil)))))) (.cons (.ifs (.or (.and (.cmp .eq (.var 4) (.con (.str "and"))) (.one (.not (.val (.var 5))))) (.one (.and (.cmp .eq (.var 4) (.con (.str "or"))) (.one (.val (.var 5)))))) (.cons (.ret (.var 5)) .nil) (.nil)) (.cons (.ifs (.and (.cmp .eq (.var 4) (.con (.str "implies"))) (.one (.not (.val (.var 5))))) (.cons (.ret (.con (.bl true))) .nil) (.nil)) (.cons (.set 6 (.call "_law_true" (.cons (.var 0) (.cons (.var 1) (.cons (.ix (.var 2) (.con (.int 2))) (.cons (.var 3) .nil)))))) (.cons (.ifs (.cmp .eq (.var 4) (.con (.str "iff"))) (.cons (.ret (.cmp .eq (.var 5) (.var 6))) .nil) (.nil)) (.cons (.ret (.var 6)) .nil)))))))))))⟩
/-- _law_text: term, part -/
def F__law_text : Fn := ⟨1, 2, .cons (.ifs (.val (.isi (.var 0) .str)) (.cons (.ret (.var 0)) .nil) (.nil)) (.cons (.ifs (.cmp .eq (.blt .len (.var 0)) (.con (.int 1))) (.cons (.ret (.ix (.var 0) (.con (.int 0)))) .nil) (.nil)) (.cons (.ret (.bin .add (.bin .add (.bin .add (.ix (.var 0) (.con (.int 0))) (.con (.str "("))) (.mth .join (.con (.str ", ")) (.cons (.lc (.call "_law_text" (.cons (.var 1) .nil)) (.nm 1) (.seq (.sl (.var 0) (.yes (.con (.int 1))) .no)) .tt [1]) .nil))) (.con (.str ")")))) .nil))⟩
/-- _law_size: term, part -/
def F__law_size : Fn := ⟨1, 2, .cons (.ifs (.val (.isi (.var 0) .str)) (.cons (.ret (.con (.int 1))) .nil) (.nil)) (.cons (.ret (.bin .add (.con (.int 1)) (.blt .sum (.lc (.call "_law_size" (.cons (.var 1) .nil)) (.nm 1) (.seq (.sl (.var 0) (.yes (.con (.int 1))) .no)) .tt [1])))) .nil)⟩
/-- _law_before: one, two -/
def F__law_before : Fn := ⟨2, 2, .cons (.ifs (.cmp .ne (.call "_law_size" (.cons (.var 0) .nil)) (.call "_law_size" (.cons (.var 1) .nil))) (.cons (.ret (.cmp .lt (.call "_law_size" (.cons (.var 0) .nil)) (.call "_law_size" (.cons (.var 1) .nil)))) .nil) (.nil)) (.cons (.ret (.cmp .lt (.call "_law_text" (.cons (.var 0) .nil)) (.call "_law_text" (.cons (.var 1) .nil)))) .nil)⟩
/-- _law_term: state, depth, kind -/
def F__law_term : Fn := ⟨2, 3, .cons (.set 2 (.call "_law_take" (.cons (.var 0) (.cons (.con (.int 8)) .nil)))) (.cons (.ifs (.or (.cmp .eq (.var 1) (.con (.int 0))) (.one (.cmp .lt (.var 2) (.con (.int 4))))) (.cons (.ret (.ix (.lst (.cons (.tup (.cons (.con (.str "a")) .nil)) (.cons (.tup (.cons (.con (.str "b")) .nil)) (.cons (.tup (.cons (.con (.str "aa")) .nil)) (.cons (.tup (.cons (.con (.str "c10")) .nil)) .nil))))) (.call "_law_take" (.cons (.var 0) (.cons (.con (.int 4)) .nil))))) .nil) (.nil)) (.cons (.ifs (.cmp .lt (.var 2) (.con (.int 7))) (.cons (.ret (.tup (.cons (.con (.str "f")) (.cons (.call "_law_term" (.cons (.var 0) (.cons (.bin .sub (.var 1) (.con (.int 1))) .nil))) .nil)))) .nil) (.nil)) (.cons (.ret (.tup (.cons (.con (.str "g")) (.cons (.call "_law_term" (.cons (.var 0) (.cons (.bin .sub (.var 1) (.con (.int 1))) .nil))) (.cons (.call "_law_term" (.cons (.var 0) (.cons (.con (.int 0)) .nil))) .nil))))) .nil)))⟩
/-- _law_basic: state, kind, one -/
def F__law_basic : Fn := ⟨1, 3, .cons (.set 1 (.call "_law_take" (.cons (.var 0) (.cons (.con (.int 12)) .nil)))) (.cons (.ifs (.cmp .eq (.var 1) (.con (.int 0))) (.cons (.ret (.ix (.lst (.cons (.tup (.cons (.con (.str "true")) .nil)) (.cons (.tup (.cons (.con (.str "false")) .nil)) .nil))) (.call "_law_take" (.cons (.var 0) (.cons (.con (.int 2)) .nil))))) .nil) (.nil)) (.cons (.ifs (.cmp .lt (.var 1) (.con (.int 3))) (.cons (.ret (.tup (.cons (.con (.str "holds")) (.cons (.tup (.cons (.con (.str "Q")) .nil)) .nil)))) .nil) (.nil)) (.cons (.ifs (.cmp .lt (.var 1) (.con (.int 5))) (.cons (.ret (.tup (.cons (.con (.str "holds")) (.cons (.tup (.cons (.con (.str "P")) (.cons (.call "_law_term" (.cons (.var 0) (.cons (.con (.int 2)) .nil))) .nil))) .nil)))) .nil) (.nil)) (.cons (.ifs (.cmp .lt (.var 1) (.con (.int 7))) (.cons (.ret (.tup (.cons (.con (.str "holds")) (.cons (.tup (.cons (.con (.str "R")) (.cons (.call "_law_term" (.cons (.var 0) (.cons (.con (.int 1)) .nil))) (.cons (.call "_law_term" (.cons (.var 0) (.cons (.con (.int 1)) .nil))) .nil)))) .nil)))) .nil) (.nil)) (.cons (.set 2 (.call "_law_term" (.cons (.var 0) (.cons (.con (.int 2)) .nil)))) (.cons (.ifs (.cmp .eq (.var 1) (.con (.int 7))) (.cons (.ret (.tup (.cons (.con (.str "same")) (.cons (.var 2) (.cons (.var 2) .nil))))) .nil) (.nil)) (.cons (.ret (.tup (.cons (.con (.str "same")) (.cons (.var 2) (.cons (.call "_law_term" (.cons (.var 0) (.cons (.con (.int 2)) .nil))) .nil))))) .nil)))))))⟩
/-- _law_drawn: state, depth, kind, one, word -/
def F__law_drawn : Fn := ⟨2, 5, .cons (.set 2 (.call "_law_take" (.cons (.var 0) (.cons (.con (.int 12)) .nil)))) (.cons (.ifs (.or (.cmp .eq (.var 1) (.con (.int 0))) (.one (.cmp .eq (.var 2) (.con (.int 0))))) (.cons (.ret (.call "_law_basic" (.cons (.var 0) .nil))) .nil) (.nil)) (.cons (.set 3 (.call "_law_drawn" (.cons (.var 0) (.cons (.bin .sub (.var 1) (.con (.int 1))) .nil)))) (.cons (.ifs (.cmp .lt (.var 2) (.con (.int 4))) (.cons (.ret (.tup (.cons (.con (.str "not")) (.cons (.var 3) .nil)))) .nil) (.nil)) (.cons (.set 4 (.ix (.lst (.cons (.con (.str "and")) (.cons (.con (.str "or")) (.cons (.con (.str "implies")) (.cons (.con (.str "iff")) .nil))))) (.bin .mod (.blt .int (.var 2)) (.con (.int 4))))) (.cons (.ret (.tup (.cons (.var 4) (.cons (.var 3) (.cons (.call "_law_drawn" (.cons (.var 0) (.cons (.bin .sub (.var 1) (.con (.int 1))) .nil))) .nil))))) .nil)))))⟩
/-- _law_basics: sentence, row, part -/
def F__law_basics : Fn := ⟨1, 3, .cons (.ifs (.cmp .inn (.ix (.var 0) (.con (.int 0))) (.tup (.cons (.con (.str "holds")) (.cons (.con (.str "same")) .nil)))) (.cons (.ret (.lst (.cons (.var 0) .nil))) .nil) (.nil)) (.cons (.set 1 (.lst (.nil))) (.cons (.fors (.nm 2) (.seq (.sl (.var 0) (.yes (.con (.int 1))) .no)) (.cons (.set 1 (.bin .add (.var 1) (.call "_law_basics" (.cons (.var 2) .nil)))) .nil)) (.cons (.ret (.var 1)) .nil)))⟩
/-- _law_fact: basic -/
def F__law_fact : Fn := ⟨1, 1, .cons (.ifs (.and (.cmp .eq (.ix (.var 0) (.con (.int 0))) (.con (.str "same"))) (.one (.val (.call "_law_before" (.cons (.ix (.var 0) (.con (.int 2))) (.cons (.ix (.var 0) (.con (.int 1))) .nil)))))) (.cons (.ret (.tup (.cons (.con (.str "same")) (.cons (.ix (.var 0) (.con (.int 2))) (.cons (.ix (.var 0) (.con (.int 1))) .nil))))) .nil) (.nil)) (.cons (.ret (.var 0)) .nil)⟩
/-- _law_facts: sentence, row, basic, fact -/
def F__law_facts : Fn := ⟨1, 4, .cons (.set 1 (.lst (.nil))) (.cons (.fors (.nm 2) (.seq (.call "_law_basics" (.cons (.var 0) .nil))) (.cons (.set 3 (.call "_law_fact" (.cons (.var 2) .nil))) (.cons (.ifs (.and (.cmp .nin (.var 3) (.var 1)) (.one (.not (.and (.cmp .eq (.ix (.var 2) (.con (.int 0))) (.con (.str "same"))) (.one (.cmp .eq (.ix (.var 2) (.con (.int 1))) (.ix (.var 2) (.con (.int 2))))))))) (.cons (.expr (.mth .append (.var 1) (.cons (.var 3) .nil))) .nil) (.nil)) .nil))) (.cons (.ret (.var 1)) .nil))⟩
/-- _law_joined: word, one, two, loud -/
def F__law_joined : Fn := ⟨3, 4, .cons (.ifs (.cmp .eq (.var 0) (.con (.str "iff"))) (.cons (.ifs (.or (.cmp .isn (.var 1) (.con .non)) (.one (.cmp .isn (.var 2) (.con .non)))) (.cons (.ret (.con .non)) .nil) (.nil)) (.cons (.ret (.cmp .eq (.var 1) (.var 2))) .nil)) (.nil)) (.cons (.ifs (.cmp .eq (.var 0) (.con (.str "implies"))) (.cons (.set 1 (.ife (.cmp .isn (.var 1) (.con .non)) (.con .non) (.notv (.var 1)))) .nil) (.nil)) (.cons (.set 3 (.cmp .ne (.var 0) (.con (.str "and")))) (.cons (.ifs (.or (.and (.cmp .isnn (.var 1) (.con .non)) (.one (.cmp .eq (.var 1) (.var 3)))) (.one (.and (.cmp .isnn (.var 2) (.con .non)) (.one (.cmp .eq (.var 2) (.var 3)))))) (.cons (.ret (.var 3)) .nil) (.nil)) (.cons (.ifs (.or (.cmp .isn (.var 1) (.con .non)) (.one (.cmp .isn (.var 2) (.con .non)))) (.cons (.ret (.con .non)) .nil) (.nil)) (.cons (.ret (.notv (.var 3))) .nil)))))⟩
/-- _law_settled: answers, sentence, word, fact, other, answer, one -/
def F__law_settled : Fn := ⟨2, 7, .cons (.set 2 (.ix (.var 1) (.con (.int 0)))) (.cons (.ifs (.cmp .inn (.var 2) (.tup (.cons (.con (.str "true")) (.cons (.con (.str "false")) .nil)))) (.cons (.ret (.cmp .eq (.var 2) (.con (.str "true")))) .nil) (.nil)) (.cons (.ifs (.cmp .inn (.var 2) (.tup (.cons (.con (.str "holds")) (.cons (.con (.str "same")) .nil)))) (.cons (.ifs (.and (.cmp .eq (.var 2) (.con (.str "same"))) (.one (.cmp .eq (.ix (.var 1) (.con (.int 1))) (.ix (.var 1) (.con (.int 2)))))) (.cons (.ret (.con (.bl true))) .nil) (.nil)) (.cons (.set 3 (.call "_law_fact" (.cons (.var 1) .nil))) (.cons (.fors (.tp [4, 5]) (.seq (.var 0)) (.cons (.ifs (.cmp .eq (.var 4) (.var 3)) (.cons (.ret (.var 5)) .nil) (.nil)) .nil)) (.cons (.ret (.con .non)) .nil)))) (.nil)) (.cons (.set 6 (.call "_law_settled" (.cons (.var 0) (.cons (.ix (.var 1) (.con (.int 1))) .nil)))) (.cons (.ifs (.cmp .eq (.var 2) (.con (.str "not"))) (.cons (.ret (.ife (.cmp .isn (.var 6) (.con .non)) (.con .non) (.notv (.var 6)))) .nil) (.nil)) (.cons (.ret (.call "_law_joined" (.cons (.var 2) (.cons (.var 6) (.cons (.call "_law_settled" (.cons (.var 0) (.cons (.ix (.var 1) (.con (.int 2))) .nil))) .nil))))) .nil)))))⟩
/-- _law_world: state, size, tables, cells, name, arity, k -/
def F__law_world : Fn := ⟨1, 7, .cons (.set 1 (.bin .add (.con (.int 1)) (.call "_law_take" (.cons (.var 0) (.cons (.con (.int 3)) .nil))))) (.cons (.set 2 (.dct0)) (.cons (.set 3 (.lst (.cons (.con (.int 1)) (.cons (.var 1) (.cons (.bin .mul (.var 1) (.var 1)) .nil))))) (.cons (.fors (.tp [4, 5]) (.seq (.lst (.cons (.tup (.cons (.con (.str "a")) (.cons (.con (.int 0)) .nil))) (.cons (.tup (.cons (.con (.str "b")) (.cons (.con (.int 0)) .nil))) (.cons (.tup (.cons (.con (.str "aa")) (.cons (.con (.int 0)) .nil))) (.cons (.tup (.cons (.con (.str "c10")) (.cons (.con (.int 0)) .nil))) (.cons (.tup (.cons (.con (.str "f")) (.cons (.con (.int 1)) .nil))) (.cons (.tup (.cons (.con (.str "g")) (.cons (.con (.int 2)) .nil))) .nil)))))))) (.cons (.setSub (.var 2) (.var 4) (.lc (.call "_law_take" (.cons (.var 0) (.cons (.var 1) .nil))) (.nm 6) (.rng1 (.ix (.var 3) (.var 5))) .tt [6])) .nil)) (.cons (.fors (.tp [4, 5]) (.seq (.lst (.cons (.tup (.cons (.con (.str "Q")) (.cons (.con (.int 0)) .nil))) (.cons (.tup (.cons (.con (.str "P")) (.cons (.con (.int 1)) .nil))) (.cons (.tup (.cons (.con (.str "R")) (.cons (.con (.int 2)) .nil))) .nil))))) (.cons (.setSub (.var 2) (.var 4) (.lc (.cmp .eq (.call "_law_take" (.cons (.var 0) (.cons (.con (.int 2)) .nil))) (.con (.int 1))) (.nm 6) (.rng1 (.ix (.var 3) (.var 5))) .tt [6])) .nil)) (.cons (.ret (.lst (.cons (.var 1) (.cons (.var 2) .nil)))) .nil)))))⟩
/-- _law_told: answers, sentence -/
def F__law_told : Fn := ⟨2, 2, .cons (.ret (.call "_law_same" (.cons (.call "truth_by" (.cons (.var 0) (.cons (.var 1) .nil))) (.cons (.call "_law_settled" (.cons (.var 0) (.cons (.var 1) .nil))) .nil)))) .nil⟩
/-- _law_parts: sentence, row, part -/
def F__law_parts : Fn := ⟨1, 3, .cons (.set 1 (.lst (.cons (.var 0) .nil))) (.cons (.ifs (.cmp .inn (.ix (.var 0) (.con (.int 0))) (.tup (.cons (.con (.str "not")) (.cons (.con (.str "and")) (.cons (.con (.str "or")) (.cons (.con (.str "implies")) (.cons (.con (.str "iff")) .nil))))))) (.cons (.fors (.nm 2) (.seq (.sl (.var 0) (.yes (.con (.int 1))) .no)) (.cons (.set 1 (.bin .add (.var 1) (.call "_law_parts" (.cons (.var 2) .nil)))) .nil)) .nil) (.nil)) (.cons (.ret (.var 1)) .nil))⟩
/-- _law_formed: sentence, basic, due, told -/
def F__law_formed : Fn := ⟨1, 4, .cons (.fors (.nm 1) (.seq (.call "_law_basics" (.cons (.var 0) .nil))) (.cons (.ifs (.cmp .eq (.ix (.var 1) (.con (.int 0))) (.con (.str "holds"))) (.cons (.ifs (.not (.val (.call "_law_same" (.cons (.call "make_fact" (.cons (.var 1) .nil)) (.cons (.var 1) .nil))))) (.cons (.ret (.con (.bl false))) .nil) (.nil)) .nil) (.cons (.ifs (.cmp .ne (.ix (.var 1) (.con (.int 1))) (.ix (.var 1) (.con (.int 2)))) (.cons (.set 2 (.call "_law_fact" (.cons (.var 1) .nil))) (.cons (.ifs (.not (.val (.call "_law_same" (.cons (.call "make_fact" (.cons (.var 1) .nil)) (.cons (.var 2) .nil))))) (.cons (.ret (.con (.bl false))) .nil) (.nil)) (.cons (.ifs (.not (.val (.call "_law_same" (.cons (.call "make_fact" (.cons (.tup (.cons (.con (.str "same")) (.cons (.ix (.var 1) (.con (.int 2))) (.cons (.ix (.var 1) (.con (.int 1))) .nil)))) .nil)) (.cons (.var 2) .nil))))) (.cons (.ret (.con (.bl false))) .nil) (.nil)) .nil))) (.nil)) .nil)) .nil)) (.cons (.set 2 (.call "_law_facts" (.cons (.var 0) .nil))) (.cons (.set 3 (.call "facts_in" (.cons (.var 0) .nil))) (.cons (.ifs (.not (.val (.call "_law_same" (.cons (.var 3) (.cons (.var 2) .nil))))) (.cons (.ret (.con (.bl false))) .nil) (.nil)) (.cons (.expr (.mth .append (.var 3) (.cons (.tup (.cons (.con (.str "holds")) (.cons (.tup (.cons (.con (.str "Z")) .nil)) .nil))) .nil))) (.cons (.ret (.call "_law_same" (.cons (.call "facts_in" (.cons (.var 0) .nil)) (.cons (.var 2) .nil)))) .nil)))))⟩
/-- law: script, state, sentence, other, facts, size, tables, some, free, rest, fact, answer, part, due, kept, first -/
def F_law : Fn := ⟨1, 16, .cons (.set 1 (.call "_law_start" (.cons (.var 0) .nil))) (.cons (.set 2 (.call "_law_drawn" (.cons (.var 1) (.cons (.bin .add (.con (.int 2)) (.call "_law_take" (.cons (.var 1) (.cons (.con (.int 3)) .nil)))) .nil)))) (.cons (.set 3 (.call "_law_drawn" (.cons (.var 1) (.cons (.con (.int 2)) .nil)))) (.cons (.ifs (.or (.not (.val (.call "_law_formed" (.cons (.var 2) .nil)))) (.one (.not (.val (.call "_law_formed" (.cons (.tup (.cons (.con (.str "implies")) (.cons (.var 2) (.cons (.var 3) .nil)))) .nil)))))) (.cons (.ret (.con (.bl false))) .nil) (.nil)) (.cons (.set 4 (.call "_law_facts" (.cons (.tup (.cons (.con (.str "and")) (.cons (.var 2) (.cons (.var 3) .nil)))) .nil))) (.cons (.par [5, 6] (.call "_law_world" (.cons (.var 1) .nil))) (.cons (.set 7 (.lst (.nil))) (.cons (.set 8 (.lst (.nil))) (.cons (.set 9 (.lst (.nil))) (.cons (.fors (.nm 10) (.seq (.var 4)) (.cons (.set 11 (.call "_law_true" (.cons (.var 6) (.cons (.var 5) (.cons (.var 10) (.cons (.dct0) .nil)))))) (.cons (.ifs (.cmp .eq (.call "_law_take" (.cons (.var 1) (.cons (.con (.int 2)) .nil))) (.con (.int 0))) (.cons (.expr (.mth .insert (.var 7) (.cons (.call "_law_take" (.cons (.var 1) (.cons (.bin .add (.blt .len (.var 7)) (.con (.int 1))) .nil))) (.cons (.tup (.cons (.var 10) (.cons (.var 11) .nil))) .nil)))) .nil) (.cons (.expr (.mth .append (.var 9) (.cons (.tup (.cons (.var 10) (.cons (.var 11) .nil))) .nil))) .nil)) (.cons (.ifs (.cmp .gt (.call "_law_take" (.cons (.var 1) (.cons (.con (.int 3)) .nil))) (.con (.int 0))) (.cons (.expr (.mth .append (.var 8) (.cons (.tup (.cons (.var 10) (.cons (.cmp .eq (.call "_law_take" (.cons (.var 1) (.cons (.con (.int 2)) .nil))) (.con (.int 1))) .nil))) .nil))) .nil) (.nil)) .nil)))) (.cons (.fors (.nm 12) (.seq (.call "_law_parts" (.cons (.var 2) .nil))) (.cons (.set 13 (.call "_law_settled" (.cons (.var 7) (.cons (.var 12) .nil)))) (.cons (.ifs (.or (.not (.val (.call "_law_told" (.cons (.blt .list (.var 7)) (.cons (.var 12) .nil))))) (.or (.not (.val (.call "_law_told" (.cons (.blt .tuple (.var 8)) (.cons (.var 12) .nil))))) (.one (.not (.val (.call "_law_told" (.cons (.lst (.nil)) (.cons (.var 12) .nil)))))))) (.cons (.ret (.con (.bl false))) .nil) (.nil)) (.cons (.ifs (.and (.cmp .isnn (.var 13) (.con .non)) (.one (.cmp .ne (.var 13) (.call "_law_true" (.cons (.var 6) (.cons (.var 5) (.cons (.var 12) (.cons (.dct0) .nil)))))))) (.cons (.ret (.con (.bl false))) .nil) (.nil)) (.cons (.ifs (.and (.cmp .isnn (.var 13) (.con .non)) (.one (.not (.val (.call "_law_same" (.cons (.call "truth_by" (.cons (.bin .add (.var 9) (.var 7)) (.cons (.var 12) .nil))) (.cons (.var 13) .nil))))))) (.cons (.ret (.con (.bl false))) .nil) (.nil)) (.cons (.ifs (.not (.val (.call "_law_same" (.cons (.call "truth_by" (.cons (.blt .tuple (.bin .add (.var 7) (.var 9))) (.cons (.var 12) .nil))) (.cons (.call "_law_true" (.cons (.var 6) (.cons (.var 5) (.cons (.var 12) (.cons (.dct0) .nil))))) .nil))))) (.cons (.ret (.con (.bl false))) .nil) (.nil)) .nil)))))) (.cons (.ifs (.cmp .gt (.blt .len (.var 9)) (.con (.int 0))) (.cons (.set 14 (.blt .list (.var 7))) (.cons (.set 15 (.call "truth_by" (.cons (.var 7) (.cons (.var 2) .nil)))) (.cons (.expr (.mth .append (.var 7) (.cons (.ix (.var 9) (.con (.int 0))) .nil))) (.cons (.ifs (.or (.not (.val (.call "_law_told" (.cons (.var 7) (.cons (.var 2) .nil))))) (.one (.not (.val (.call "_law_same" (.cons (.call "truth_by" (.cons (.var 14) (.cons (.var 2) .nil))) (.cons (.var 15) .nil))))))) (.cons (.ret (.con (.bl false))) .nil) (.nil)) .nil)))) (.nil)) (.cons (.ret (.andv (.call "_law_told" (.cons (.lst (.nil)) (.cons (.tup (.cons (.con (.str "true")) .nil)) .nil))) (.andv (.call "_law_told" (.cons (.lst (.nil)) (.cons (.tup (.cons (.con (.str "false")) .nil)) .nil))) (.one (.call "_law_told" (.cons (.var 8) (.cons (.var 3) .nil))))))) .nil))))))))))))⟩


def tbl : List (Str × Fn) := [(Str.ofString "is_unknown", F_is_unknown), (Str.ofString "term_text", F_term_text), (Str.ofString "term_size", F_term_size), (Str.ofString "term_key", F_term_key), (Str.ofString "children", F_children), (Str.ofString "basics_in", F_basics_in), (Str.ofString "make_fact", F_make_fact), (Str.ofString "fact_text", F_fact_text), (Str.ofString "is_plain_sameness", F_is_plain_sameness), (Str.ofString "facts_in", F_facts_in), (Str.ofString "answer_table", F_answer_table), (Str.ofString "pair_value", F_pair_value), (Str.ofString "value_by", F_value_by), (Str.ofString "truth_by", F_truth_by), (Str.ofString "_law_start", F__law_start), (Str.ofString "_law_take", F__law_take), (Str.ofString "_law_same", F__law_same), (Str.ofString "_law_entry", F__law_entry), (Str.ofString "_law_value", F__law_value), (Str.ofString "_law_bound", F__law_bound), (Str.ofString "_law_true", F__law_true), (Str.ofString "_law_text", F__law_text), (Str.ofString "_law_size", F__law_size), (Str.ofString "_law_before", F__law_before), (Str.ofString "_law_term", F__law_term), (Str.ofString "_law_basic", F__law_basic), (Str.ofString "_law_drawn", F__law_drawn), (Str.ofString "_law_basics", F__law_basics), (Str.ofString "_law_fact", F__law_fact), (Str.ofString "_law_facts", F__law_facts), (Str.ofString "_law_joined", F__law_joined), (Str.ofString "_law_settled", F__law_settled), (Str.ofString "_law_world", F__law_world), (Str.ofString "_law_told", F__law_told), (Str.ofString "_law_parts", F__law_parts), (Str.ofString "_law_formed", F__law_formed), (Str.ofString "law", F_law)]
def cons : List (Str × Val) := [(Str.ofString "PAIRS", .tup ([Str.ofString "and", Str.ofString "or", Str.ofString "implies", Str.ofString "iff"].map Val.str)), (Str.ofString "BINDERS", .tup ([Str.ofString "all", Str.ofString "some"].map Val.str))]
end Ev.K01
namespace Ev.K01
open PySem PySem.Spec PyProof.Rows L2 Ev
def top (i : Nat) : Stmt := PySem.Challenge.pw_booksbetween_k01_facts_and_answers.main.body.getD i (.Pass ⟨0, 0, 0, 0⟩)
theorem c_is_unknown : FnChk (top 1) ["term"] ["term"] F_is_unknown ∧ ArgsOk "is_unknown" (top 1) ["term"] :=
  ⟨⟨⟨rfl, rfl, rfl, by decide +kernel, rfl, by decide +kernel, by decide +kernel⟩, rfl, rfl, by decide +kernel⟩, fun _ _ _ _ _ _ us hl => match us, hl with | [_], _ => rfl⟩
theorem c_term_text : FnChk (top 2) ["term", "inner", "argument"] ["term"] F_term_text ∧ ArgsOk "term_text" (top 2) ["term"] :=
  ⟨⟨⟨rfl, rfl, rfl, by decide +kernel, rfl, by decide +kernel, by decide +kernel⟩, rfl, rfl, by decide +kernel⟩, fun _ _ _ _ _ _ us hl => match us, hl with | [_], _ => rfl⟩
theorem c_term_size : FnChk (top 3) ["term", "argument"] ["term"] F_term_size ∧ ArgsOk "term_size" (top 3) ["term"] :=
  ⟨⟨⟨rfl, rfl, rfl, by decide +kernel, rfl, by decide +kernel, by decide +kernel⟩, rfl, rfl, by decide +kernel⟩, fun _ _ _ _ _ _ us hl => match us, hl with | [_], _ => rfl⟩
theorem c_term_key : FnChk (top 4) ["term"] ["term"] F_term_key ∧ ArgsOk "term_key" (top 4) ["term"] :=
  ⟨⟨⟨rfl, rfl, rfl, by decide +kernel, rfl, by decide +kernel, by decide +kernel⟩, rfl, rfl, by decide +kernel⟩, fun _ _ _ _ _ _ us hl => match us, hl with | [_], _ => rfl⟩
theorem c_children : FnChk (top 8) ["sentence"] ["sentence"] F_children ∧ ArgsOk "children" (top 8) ["sentence"] :=
  ⟨⟨⟨rfl, rfl, rfl, by decide +kernel, rfl, by decide +kernel, by decide +kernel⟩, rfl, rfl, by decide +kernel⟩, fun _ _ _ _ _ _ us hl => match us, hl with | [_], _ => rfl⟩
theorem c_basics_in : FnChk (top 9) ["sentence", "found", "part"] ["sentence"] F_basics_in ∧ ArgsOk "basics_in" (top 9) ["sentence"] :=
  ⟨⟨⟨rfl, rfl, rfl, by decide +kernel, rfl, by decide +kernel, by decide +kernel⟩, rfl, rfl, by decide +kernel⟩, fun _ _ _ _ _ _ us hl => match us, hl with | [_], _ => rfl⟩
theorem c_make_fact : FnChk (top 11) ["basic"] ["basic"] F_make_fact ∧ ArgsOk "make_fact" (top 11) ["basic"] :=
  ⟨⟨⟨rfl, rfl, rfl, by decide +kernel, rfl, by decide +kernel, by decide +kernel⟩, rfl, rfl, by decide +kernel⟩, fun _ _ _ _ _ _ us hl => match us, hl with | [_], _ => rfl⟩
theorem c_fact_text : FnChk (top 12) ["fact"] ["fact"] F_fact_text ∧ ArgsOk "fact_text" (top 12) ["fact"] :=
  ⟨⟨⟨rfl, rfl, rfl, by decide +kernel, rfl, by decide +kernel, by decide +kernel⟩, rfl, rfl, by decide +kernel⟩, fun _ _ _ _ _ _ us hl => match us, hl with | [_], _ => rfl⟩
theorem c_is_plain_sameness : FnChk (top 13) ["basic"] ["basic"] F_is_plain_sameness ∧ ArgsOk "is_plain_sameness" (top 13) ["basic"] :=
  ⟨⟨⟨rfl, rfl, rfl, by decide +kernel, rfl, by decide +kernel, by decide +kernel⟩, rfl, rfl, by decide +kernel⟩, fun _ _ _ _ _ _ us hl => match us, hl with | [_], _ => rfl⟩
theorem c_facts_in : FnChk (top 14) ["sentence", "table", "basic", "fact", "text"] ["sentence"] F_facts_in ∧ ArgsOk "facts_in" (top 14) ["sentence"] :=
  ⟨⟨⟨rfl, rfl, rfl, by decide +kernel, rfl, by decide +kernel, by decide +kernel⟩, rfl, rfl, by decide +kernel⟩, fun _ _ _ _ _ _ us hl => match us, hl with | [_], _ => rfl⟩
theorem c_answer_table : FnChk (top 15) ["answers", "fact", "answer"] ["answers"] F_answer_table ∧ ArgsOk "answer_table" (top 15) ["answers"] :=
  ⟨⟨⟨rfl, rfl, rfl, by decide +kernel, rfl, by decide +kernel, by decide +kernel⟩, rfl, rfl, by decide +kernel⟩, fun _ _ _ _ _ _ us hl => match us, hl with | [_], _ => rfl⟩
theorem c_pair_value : FnChk (top 16) ["word", "first", "second", "decisive"] ["word", "first", "second"] F_pair_value ∧ ArgsOk "pair_value" (top 16) ["word", "first", "second"] :=
  ⟨⟨⟨rfl, rfl, rfl, by decide +kernel, rfl, by decide +kernel, by decide +kernel⟩, rfl, rfl, by decide +kernel⟩, fun _ _ _ _ _ _ us hl => match us, hl with | [_, _, _], _ => rfl⟩
theorem c_value_by : FnChk (top 17) ["table", "sentence", "word", "first"] ["table", "sentence"] F_value_by ∧ ArgsOk "value_by" (top 17) ["table", "sentence"] :=
  ⟨⟨⟨rfl, rfl, rfl, by decide +kernel, rfl, by decide +kernel, by decide +kernel⟩, rfl, rfl, by decide +kernel⟩, fun _ _ _ _ _ _ us hl => match us, hl with | [_, _], _ => rfl⟩
theorem c_truth_by : FnChk (top 18) ["answers", "sentence"] ["answers", "sentence"] F_truth_by ∧ ArgsOk "truth_by" (top 18) ["answers", "sentence"] :=
  ⟨⟨⟨rfl, rfl, rfl, by decide +kernel, rfl, by decide +kernel, by decide +kernel⟩, rfl, rfl, by decide +kernel⟩, fun _ _ _ _ _ _ us hl => match us, hl with | [_, _], _ => rfl⟩
theorem c__law_start : FnChk (top 20) ["script", "row", "seed", "k", "cell", "j", "mixed"] ["script"] F__law_start ∧ ArgsOk "_law_start" (top 20) ["script"] :=
  ⟨⟨⟨rfl, rfl, rfl, by decide +kernel, rfl, by decide +kernel, by decide +kernel⟩, rfl, rfl, by decide +kernel⟩, fun _ _ _ _ _ _ us hl => match us, hl with | [_], _ => rfl⟩
theorem c__law_take : FnChk (top 21) ["state", "many", "at", "mixed"] ["state", "many"] F__law_take ∧ ArgsOk "_law_take" (top 21) ["state", "many"] :=
  ⟨⟨⟨rfl, rfl, rfl, by decide +kernel, rfl, by decide +kernel, by decide +kernel⟩, rfl, rfl, by decide +kernel⟩, fun _ _ _ _ _ _ us hl => match us, hl with | [_, _], _ => rfl⟩
theorem c__law_same : FnChk (top 22) ["one", "two", "k"] ["one", "two"] F__law_same ∧ ArgsOk "_law_same" (top 22) ["one", "two"] :=
  ⟨⟨⟨rfl, rfl, rfl, by decide +kernel, rfl, by decide +kernel, by decide +kernel⟩, rfl, rfl, by decide +kernel⟩, fun _ _ _ _ _ _ us hl => match us, hl with | [_, _], _ => rfl⟩
theorem c__law_entry : FnChk (top 23) ["tables", "size", "name", "things", "at", "thing"] ["tables", "size", "name", "things"] F__law_entry ∧ ArgsOk "_law_entry" (top 23) ["tables", "size", "name", "things"] :=
  ⟨⟨⟨rfl, rfl, rfl, by decide +kernel, rfl, by decide +kernel, by decide +kernel⟩, rfl, rfl, by decide +kernel⟩, fun _ _ _ _ _ _ us hl => match us, hl with | [_, _, _, _], _ => rfl⟩
theorem c__law_value : FnChk (top 24) ["tables", "size", "term", "values", "part"] ["tables", "size", "term", "values"] F__law_value ∧ ArgsOk "_law_value" (top 24) ["tables", "size", "term", "values"] :=
  ⟨⟨⟨rfl, rfl, rfl, by decide +kernel, rfl, by decide +kernel, by decide +kernel⟩, rfl, rfl, by decide +kernel⟩, fun _ _ _ _ _ _ us hl => match us, hl with | [_, _, _, _], _ => rfl⟩
theorem c__law_bound : FnChk (top 25) ["tables", "size", "sentence", "values", "want", "thing", "inner"] ["tables", "size", "sentence", "values"] F__law_bound ∧ ArgsOk "_law_bound" (top 25) ["tables", "size", "sentence", "values"] :=
  ⟨⟨⟨rfl, rfl, rfl, by decide +kernel, rfl, by decide +kernel, by decide +kernel⟩, rfl, rfl, by decide +kernel⟩, fun _ _ _ _ _ _ us hl => match us, hl with | [_, _, _, _], _ => rfl⟩
theorem c__law_true : FnChk (top 26) ["tables", "size", "sentence", "values", "word", "one", "two"] ["tables", "size", "sentence", "values"] F__law_true ∧ ArgsOk "_law_true" (top 26) ["tables", "size", "sentence", "values"] :=
  ⟨⟨⟨rfl, rfl, rfl, by decide +kernel, rfl, by decide +kernel, by decide +kernel⟩, rfl, rfl, by decide +kernel⟩, fun _ _ _ _ _ _ us hl => match us, hl with | [_, _, _, _], _ => rfl⟩
theorem c__law_text : FnChk (top 27) ["term", "part"] ["term"] F__law_text ∧ ArgsOk "_law_text" (top 27) ["term"] :=
  ⟨⟨⟨rfl, rfl, rfl, by decide +kernel, rfl, by decide +kernel, by decide +kernel⟩, rfl, rfl, by decide +kernel⟩, fun _ _ _ _ _ _ us hl => match us, hl with | [_], _ => rfl⟩
theorem c__law_size : FnChk (top 28) ["term", "part"] ["term"] F__law_size ∧ ArgsOk "_law_size" (top 28) ["term"] :=
  ⟨⟨⟨rfl, rfl, rfl, by decide +kernel, rfl, by decide +kernel, by decide +kernel⟩, rfl, rfl, by decide +kernel⟩, fun _ _ _ _ _ _ us hl => match us, hl with | [_], _ => rfl⟩
theorem c__law_before : FnChk (top 29) ["one", "two"] ["one", "two"] F__law_before ∧ ArgsOk "_law_before" (top 29) ["one", "two"] :=
  ⟨⟨⟨rfl, rfl, rfl, by decide +kernel, rfl, by decide +kernel, by decide +kernel⟩, rfl, rfl, by decide +kernel⟩, fun _ _ _ _ _ _ us hl => match us, hl with | [_, _], _ => rfl⟩
theorem c__law_term : FnChk (top 30) ["state", "depth", "kind"] ["state", "depth"] F__law_term ∧ ArgsOk "_law_term" (top 30) ["state", "depth"] :=
  ⟨⟨⟨rfl, rfl, rfl, by decide +kernel, rfl, by decide +kernel, by decide +kernel⟩, rfl, rfl, by decide +kernel⟩, fun _ _ _ _ _ _ us hl => match us, hl with | [_, _], _ => rfl⟩
theorem c__law_basic : FnChk (top 31) ["state", "kind", "one"] ["state"] F__law_basic ∧ ArgsOk "_law_basic" (top 31) ["state"] :=
  ⟨⟨⟨rfl, rfl, rfl, by decide +kernel, rfl, by decide +kernel, by decide +kernel⟩, rfl, rfl, by decide +kernel⟩, fun _ _ _ _ _ _ us hl => match us, hl with | [_], _ => rfl⟩
theorem c__law_drawn : FnChk (top 32) ["state", "depth", "kind", "one", "word"] ["state", "depth"] F__law_drawn ∧ ArgsOk "_law_drawn" (top 32) ["state", "depth"] :=
  ⟨⟨⟨rfl, rfl, rfl, by decide +kernel, rfl, by decide +kernel, by decide +kernel⟩, rfl, rfl, by decide +kernel⟩, fun _ _ _ _ _ _ us hl => match us, hl with | [_, _], _ => rfl⟩
theorem c__law_basics : FnChk (top 33) ["sentence", "row", "part"] ["sentence"] F__law_basics ∧ ArgsOk "_law_basics" (top 33) ["sentence"] :=
  ⟨⟨⟨rfl, rfl, rfl, by decide +kernel, rfl, by decide +kernel, by decide +kernel⟩, rfl, rfl, by decide +kernel⟩, fun _ _ _ _ _ _ us hl => match us, hl with | [_], _ => rfl⟩
theorem c__law_fact : FnChk (top 34) ["basic"] ["basic"] F__law_fact ∧ ArgsOk "_law_fact" (top 34) ["basic"] :=
  ⟨⟨⟨rfl, rfl, rfl, by decide +kernel, rfl, by decide +kernel, by decide +kernel⟩, rfl, rfl, by decide +kernel⟩, fun _ _ _ _ _ _ us hl => match us, hl with | [_], _ => rfl⟩
theorem c__law_facts : FnChk (top 35) ["sentence", "row", "basic", "fact"] ["sentence"] F__law_facts ∧ ArgsOk "_law_facts" (top 35) ["sentence"] :=
  ⟨⟨⟨rfl, rfl, rfl, by decide +kernel, rfl, by decide +kernel, by decide +kernel⟩, rfl, rfl, by decide +kernel⟩, fun _ _ _ _ _ _ us hl => match us, hl with | [_], _ => rfl⟩
theorem c__law_joined : FnChk (top 36) ["word", "one", "two", "loud"] ["word", "one", "two"] F__law_joined ∧ ArgsOk "_law_joined" (top 36) ["word", "one", "two"] :=
  ⟨⟨⟨rfl, rfl, rfl, by decide +kernel, rfl, by decide +kernel, by decide +kernel⟩, rfl, rfl, by decide +kernel⟩, fun _ _ _ _ _ _ us hl => match us, hl with | [_, _, _], _ => rfl⟩
theorem c__law_settled : FnChk (top 37) ["answers", "sentence", "word", "fact", "other", "answer", "one"] ["answers", "sentence"] F__law_settled ∧ ArgsOk "_law_settled" (top 37) ["answers", "sentence"] :=
  ⟨⟨⟨rfl, rfl, rfl, by decide +kernel, rfl, by decide +kernel, by decide +kernel⟩, rfl, rfl, by decide +kernel⟩, fun _ _ _ _ _ _ us hl => match us, hl with | [_, _], _ => rfl⟩
theorem c__law_world : FnChk (top 38) ["state", "size", "tables", "cells", "name", "arity", "k"] ["state"] F__law_world ∧ ArgsOk "_law_world" (top 38) ["state"] :=
  ⟨⟨⟨rfl, rfl, rfl, by decide +kernel, rfl, by decide +kernel, by decide +kernel⟩, rfl, rfl, by decide +kernel⟩, fun _ _ _ _ _ _ us hl => match us, hl with | [_], _ => rfl⟩
theorem c__law_told : FnChk (top 39) ["answers", "sentence"] ["answers", "sentence"] F__law_told ∧ ArgsOk "_law_told" (top 39) ["answers", "sentence"] :=
  ⟨⟨⟨rfl, rfl, rfl, by decide +kernel, rfl, by decide +kernel, by decide +kernel⟩, rfl, rfl, by decide +kernel⟩, fun _ _ _ _ _ _ us hl => match us, hl with | [_, _], _ => rfl⟩
theorem c__law_parts : FnChk (top 40) ["sentence", "row", "part"] ["sentence"] F__law_parts ∧ ArgsOk "_law_parts" (top 40) ["sentence"] :=
  ⟨⟨⟨rfl, rfl, rfl, by decide +kernel, rfl, by decide +kernel, by decide +kernel⟩, rfl, rfl, by decide +kernel⟩, fun _ _ _ _ _ _ us hl => match us, hl with | [_], _ => rfl⟩
theorem c__law_formed : FnChk (top 41) ["sentence", "basic", "due", "told"] ["sentence"] F__law_formed ∧ ArgsOk "_law_formed" (top 41) ["sentence"] :=
  ⟨⟨⟨rfl, rfl, rfl, by decide +kernel, rfl, by decide +kernel, by decide +kernel⟩, rfl, rfl, by decide +kernel⟩, fun _ _ _ _ _ _ us hl => match us, hl with | [_], _ => rfl⟩
theorem c_law : FnChk (top 42) ["script", "state", "sentence", "other", "facts", "size", "tables", "some", "free", "rest", "fact", "answer", "part", "due", "kept", "first"] ["script"] F_law ∧ ArgsOk "law" (top 42) ["script"] :=
  ⟨⟨⟨rfl, rfl, rfl, by decide +kernel, rfl, by decide +kernel, by decide +kernel⟩, rfl, rfl, by decide +kernel⟩, fun _ _ _ _ _ _ us hl => match us, hl with | [_], _ => rfl⟩
end Ev.K01
namespace Ev.K01
open PySem Ev
def lv : Nat := 100
theorem law_true (ns : List Int) (hl : ns.length ≤ 63) : ∃ h', call (progOf tbl cons 4000) (lv + 1) (Str.ofString "law") [.ref 0] [.frz (ns.map Val.int)] = .ok (.bl true) h' := by
  have w := law_ok (P := progOf tbl cons 4000) ⟨rfl, rfl, rfl⟩ ⟨rfl, rfl, rfl, rfl, rfl, rfl, rfl⟩ ⟨rfl, rfl, rfl, rfl⟩ ⟨rfl, rfl, rfl⟩ ⟨rfl, rfl, rfl, rfl, rfl, rfl, rfl, rfl, rfl, rfl, rfl⟩ ⟨rfl, rfl, rfl⟩ ⟨rfl, rfl, rfl, rfl⟩ ⟨rfl⟩ rfl rfl (k := lv) (by decide) (h := [.frz (ns.map Val.int)]) (n := 0) rfl hl
  obtain ⟨v, h', e, rfl⟩ := w.get
  exact ⟨h', e⟩
end Ev.K01
open PySem PySem.W PyProof.Rows
set_option maxRecDepth 100000 in
set_option maxHeartbeats 0 in
theorem PySem.Challenge.cw_booksbetween_k01_facts_and_answers_holds : PySem.Challenge.rw_booksbetween_k01_facts_and_answers.Holds := by
  w_on; o_law; k_head; (case hw => w_witness2)
  k_fill
  refine Ev.law_end (l := PySem.Challenge.rw_booksbetween_k01_facts_and_answers) (tbl := Ev.K01.tbl) (cons := Ev.K01.cons) (fuel := 4000) (k := Ev.K01.lv) rfl rfl rfl (fun w h Y => PySem.W.kIn_of Y) ⟨rfl, by decide, by decide⟩ rfl Ev.K01.c_law ?F Ev.K01.law_true
  case F =>
    intro w h KX
    refine' Ev.DefAt.step KX "is_unknown" (Ev.K01.top 1) ?a ?l ?c ?k fun d_is_unknown => ?_
    (case a => k_is); (case l => k_is); (case c => k_is); (case k => k_is)
    refine' Ev.DefAt.step KX "term_text" (Ev.K01.top 2) ?a ?l ?c ?k fun d_term_text => ?_
    (case a => k_is); (case l => k_is); (case c => k_is); (case k => k_is)
    refine' Ev.DefAt.step KX "term_size" (Ev.K01.top 3) ?a ?l ?c ?k fun d_term_size => ?_
    (case a => k_is); (case l => k_is); (case c => k_is); (case k => k_is)
    refine' Ev.DefAt.step KX "term_key" (Ev.K01.top 4) ?a ?l ?c ?k fun d_term_key => ?_
    (case a => k_is); (case l => k_is); (case c => k_is); (case k => k_is)
    refine' Ev.DefAt.step KX "children" (Ev.K01.top 8) ?a ?l ?c ?k fun d_children => ?_
    (case a => k_is); (case l => k_is); (case c => k_is); (case k => k_is)
    refine' Ev.DefAt.step KX "basics_in" (Ev.K01.top 9) ?a ?l ?c ?k fun d_basics_in => ?_
    (case a => k_is); (case l => k_is); (case c => k_is); (case k => k_is)
    refine' Ev.DefAt.step KX "make_fact" (Ev.K01.top 11) ?a ?l ?c ?k fun d_make_fact => ?_
    (case a => k_is); (case l => k_is); (case c => k_is); (case k => k_is)
    refine' Ev.DefAt.step KX "fact_text" (Ev.K01.top 12) ?a ?l ?c ?k fun d_fact_text => ?_
    (case a => k_is); (case l => k_is); (case c => k_is); (case k => k_is)
    refine' Ev.DefAt.step KX "is_plain_sameness" (Ev.K01.top 13) ?a ?l ?c ?k fun d_is_plain_sameness => ?_
    (case a => k_is); (case l => k_is); (case c => k_is); (case k => k_is)
    refine' Ev.DefAt.step KX "facts_in" (Ev.K01.top 14) ?a ?l ?c ?k fun d_facts_in => ?_
    (case a => k_is); (case l => k_is); (case c => k_is); (case k => k_is)
    refine' Ev.DefAt.step KX "answer_table" (Ev.K01.top 15) ?a ?l ?c ?k fun d_answer_table => ?_
    (case a => k_is); (case l => k_is); (case c => k_is); (case k => k_is)
    refine' Ev.DefAt.step KX "pair_value" (Ev.K01.top 16) ?a ?l ?c ?k fun d_pair_value => ?_
    (case a => k_is); (case l => k_is); (case c => k_is); (case k => k_is)
    refine' Ev.DefAt.step KX "value_by" (Ev.K01.top 17) ?a ?l ?c ?k fun d_value_by => ?_
    (case a => k_is); (case l => k_is); (case c => k_is); (case k => k_is)
    refine' Ev.DefAt.step KX "truth_by" (Ev.K01.top 18) ?a ?l ?c ?k fun d_truth_by => ?_
    (case a => k_is); (case l => k_is); (case c => k_is); (case k => k_is)
    refine' Ev.DefAt.step KX "_law_start" (Ev.K01.top 20) ?a ?l ?c ?k fun d__law_start => ?_
    (case a => k_is); (case l => k_is); (case c => k_is); (case k => k_is)
    refine' Ev.DefAt.step KX "_law_take" (Ev.K01.top 21) ?a ?l ?c ?k fun d__law_take => ?_
    (case a => k_is); (case l => k_is); (case c => k_is); (case k => k_is)
    refine' Ev.DefAt.step KX "_law_same" (Ev.K01.top 22) ?a ?l ?c ?k fun d__law_same => ?_
    (case a => k_is); (case l => k_is); (case c => k_is); (case k => k_is)
    refine' Ev.DefAt.step KX "_law_entry" (Ev.K01.top 23) ?a ?l ?c ?k fun d__law_entry => ?_
    (case a => k_is); (case l => k_is); (case c => k_is); (case k => k_is)
    refine' Ev.DefAt.step KX "_law_value" (Ev.K01.top 24) ?a ?l ?c ?k fun d__law_value => ?_
    (case a => k_is); (case l => k_is); (case c => k_is); (case k => k_is)
    refine' Ev.DefAt.step KX "_law_bound" (Ev.K01.top 25) ?a ?l ?c ?k fun d__law_bound => ?_
    (case a => k_is); (case l => k_is); (case c => k_is); (case k => k_is)
    refine' Ev.DefAt.step KX "_law_true" (Ev.K01.top 26) ?a ?l ?c ?k fun d__law_true => ?_
    (case a => k_is); (case l => k_is); (case c => k_is); (case k => k_is)
    refine' Ev.DefAt.step KX "_law_text" (Ev.K01.top 27) ?a ?l ?c ?k fun d__law_text => ?_
    (case a => k_is); (case l => k_is); (case c => k_is); (case k => k_is)
    refine' Ev.DefAt.step KX "_law_size" (Ev.K01.top 28) ?a ?l ?c ?k fun d__law_size => ?_
    (case a => k_is); (case l => k_is); (case c => k_is); (case k => k_is)
    refine' Ev.DefAt.step KX "_law_before" (Ev.K01.top 29) ?a ?l ?c ?k fun d__law_before => ?_
    (case a => k_is); (case l => k_is); (case c => k_is); (case k => k_is)
    refine' Ev.DefAt.step KX "_law_term" (Ev.K01.top 30) ?a ?l ?c ?k fun d__law_term => ?_
    (case a => k_is); (case l => k_is); (case c => k_is); (case k => k_is)
    refine' Ev.DefAt.step KX "_law_basic" (Ev.K01.top 31) ?a ?l ?c ?k fun d__law_basic => ?_
    (case a => k_is); (case l => k_is); (case c => k_is); (case k => k_is)
    refine' Ev.DefAt.step KX "_law_drawn" (Ev.K01.top 32) ?a ?l ?c ?k fun d__law_drawn => ?_
    (case a => k_is); (case l => k_is); (case c => k_is); (case k => k_is)
    refine' Ev.DefAt.step KX "_law_basics" (Ev.K01.top 33) ?a ?l ?c ?k fun d__law_basics => ?_
    (case a => k_is); (case l => k_is); (case c => k_is); (case k => k_is)
    refine' Ev.DefAt.step KX "_law_fact" (Ev.K01.top 34) ?a ?l ?c ?k fun d__law_fact => ?_
    (case a => k_is); (case l => k_is); (case c => k_is); (case k => k_is)
    refine' Ev.DefAt.step KX "_law_facts" (Ev.K01.top 35) ?a ?l ?c ?k fun d__law_facts => ?_
    (case a => k_is); (case l => k_is); (case c => k_is); (case k => k_is)
    refine' Ev.DefAt.step KX "_law_joined" (Ev.K01.top 36) ?a ?l ?c ?k fun d__law_joined => ?_
    (case a => k_is); (case l => k_is); (case c => k_is); (case k => k_is)
    refine' Ev.DefAt.step KX "_law_settled" (Ev.K01.top 37) ?a ?l ?c ?k fun d__law_settled => ?_
    (case a => k_is); (case l => k_is); (case c => k_is); (case k => k_is)
    refine' Ev.DefAt.step KX "_law_world" (Ev.K01.top 38) ?a ?l ?c ?k fun d__law_world => ?_
    (case a => k_is); (case l => k_is); (case c => k_is); (case k => k_is)
    refine' Ev.DefAt.step KX "_law_told" (Ev.K01.top 39) ?a ?l ?c ?k fun d__law_told => ?_
    (case a => k_is); (case l => k_is); (case c => k_is); (case k => k_is)
    refine' Ev.DefAt.step KX "_law_parts" (Ev.K01.top 40) ?a ?l ?c ?k fun d__law_parts => ?_
    (case a => k_is); (case l => k_is); (case c => k_is); (case k => k_is)
    refine' Ev.DefAt.step KX "_law_formed" (Ev.K01.top 41) ?a ?l ?c ?k fun d__law_formed => ?_
    (case a => k_is); (case l => k_is); (case c => k_is); (case k => k_is)
    refine' Ev.DefAt.step KX "law" (Ev.K01.top 42) ?a ?l ?c ?k fun d_law => ?_
    (case a => k_is); (case l => k_is); (case c => k_is); (case k => k_is)
    refine' Ev.none_step KX "len" ?a fun b_len => ?_
    (case a => k_is)
    refine' Ev.none_step KX "abs" ?a fun b_abs => ?_
    (case a => k_is)
    refine' Ev.none_step KX "int" ?a fun b_int => ?_
    (case a => k_is)
    refine' Ev.none_step KX "str" ?a fun b_str => ?_
    (case a => k_is)
    refine' Ev.none_step KX "tuple" ?a fun b_tuple => ?_
    (case a => k_is)
    refine' Ev.none_step KX "list" ?a fun b_list => ?_
    (case a => k_is)
    refine' Ev.none_step KX "sum" ?a fun b_sum => ?_
    (case a => k_is)
    refine' Ev.none_step KX "any" ?a fun b_any => ?_
    (case a => k_is)
    refine' Ev.none_step KX "all" ?a fun b_all => ?_
    (case a => k_is)
    refine' Ev.none_step KX "dict" ?a fun b_dict => ?_
    (case a => k_is)
    refine' Ev.none_step KX "bool" ?a fun b_bool => ?_
    (case a => k_is)
    refine' Ev.none_step KX "isinstance" ?a fun b_isinstance => ?_
    (case a => k_is)
    refine' Ev.none_step KX "range" ?a fun b_range => ?_
    (case a => k_is)
    refine' Ev.none_step KX "reversed" ?a fun b_reversed => ?_
    (case a => k_is)
    refine' Ev.none_step KX "sorted" ?a fun b_sorted => ?_
    (case a => k_is)
    refine' Ev.ConFit.step KX "PAIRS" [Str.ofString "and", Str.ofString "or", Str.ofString "implies", Str.ofString "iff"] ?a ?l ?f fun k_PAIRS => ?_
    (case a => k_is); (case l => k_is); (case f => kernel_rfl)
    refine' Ev.ConFit.step KX "BINDERS" [Str.ofString "all", Str.ofString "some"] ?a ?l ?f fun k_BINDERS => ?_
    (case a => k_is); (case l => k_is); (case f => kernel_rfl)
    refine ⟨d_law, ?_, ?_, ?_⟩
    · exact List.forall_mem_cons.mpr ⟨Ev.DefFit.mk Ev.K01.c_is_unknown d_is_unknown, List.forall_mem_cons.mpr ⟨Ev.DefFit.mk Ev.K01.c_term_text d_term_text, List.forall_mem_cons.mpr ⟨Ev.DefFit.mk Ev.K01.c_term_size d_term_size, List.forall_mem_cons.mpr ⟨Ev.DefFit.mk Ev.K01.c_term_key d_term_key, List.forall_mem_cons.mpr ⟨Ev.DefFit.mk Ev.K01.c_children d_children, List.forall_mem_cons.mpr ⟨Ev.DefFit.mk Ev.K01.c_basics_in d_basics_in, List.forall_mem_cons.mpr ⟨Ev.DefFit.mk Ev.K01.c_make_fact d_make_fact, List.forall_mem_cons.mpr ⟨Ev.DefFit.mk Ev.K01.c_fact_text d_fact_text, List.forall_mem_cons.mpr ⟨Ev.DefFit.mk Ev.K01.c_is_plain_sameness d_is_plain_sameness, List.forall_mem_cons.mpr ⟨Ev.DefFit.mk Ev.K01.c_facts_in d_facts_in, List.forall_mem_cons.mpr ⟨Ev.DefFit.mk Ev.K01.c_answer_table d_answer_table, List.forall_mem_cons.mpr ⟨Ev.DefFit.mk Ev.K01.c_pair_value d_pair_value, List.forall_mem_cons.mpr ⟨Ev.DefFit.mk Ev.K01.c_value_by d_value_by, List.forall_mem_cons.mpr ⟨Ev.DefFit.mk Ev.K01.c_truth_by d_truth_by, List.forall_mem_cons.mpr ⟨Ev.DefFit.mk Ev.K01.c__law_start d__law_start, List.forall_mem_cons.mpr ⟨Ev.DefFit.mk Ev.K01.c__law_take d__law_take, List.forall_mem_cons.mpr ⟨Ev.DefFit.mk Ev.K01.c__law_same d__law_same, List.forall_mem_cons.mpr ⟨Ev.DefFit.mk Ev.K01.c__law_entry d__law_entry, List.forall_mem_cons.mpr ⟨Ev.DefFit.mk Ev.K01.c__law_value d__law_value, List.forall_mem_cons.mpr ⟨Ev.DefFit.mk Ev.K01.c__law_bound d__law_bound, List.forall_mem_cons.mpr ⟨Ev.DefFit.mk Ev.K01.c__law_true d__law_true, List.forall_mem_cons.mpr ⟨Ev.DefFit.mk Ev.K01.c__law_text d__law_text, List.forall_mem_cons.mpr ⟨Ev.DefFit.mk Ev.K01.c__law_size d__law_size, List.forall_mem_cons.mpr ⟨Ev.DefFit.mk Ev.K01.c__law_before d__law_before, List.forall_mem_cons.mpr ⟨Ev.DefFit.mk Ev.K01.c__law_term d__law_term, List.forall_mem_cons.mpr ⟨Ev.DefFit.mk Ev.K01.c__law_basic d__law_basic, List.forall_mem_cons.mpr ⟨Ev.DefFit.mk Ev.K01.c__law_drawn d__law_drawn, List.forall_mem_cons.mpr ⟨Ev.DefFit.mk Ev.K01.c__law_basics d__law_basics, List.forall_mem_cons.mpr ⟨Ev.DefFit.mk Ev.K01.c__law_fact d__law_fact, List.forall_mem_cons.mpr ⟨Ev.DefFit.mk Ev.K01.c__law_facts d__law_facts, List.forall_mem_cons.mpr ⟨Ev.DefFit.mk Ev.K01.c__law_joined d__law_joined, List.forall_mem_cons.mpr ⟨Ev.DefFit.mk Ev.K01.c__law_settled d__law_settled, List.forall_mem_cons.mpr ⟨Ev.DefFit.mk Ev.K01.c__law_world d__law_world, List.forall_mem_cons.mpr ⟨Ev.DefFit.mk Ev.K01.c__law_told d__law_told, List.forall_mem_cons.mpr ⟨Ev.DefFit.mk Ev.K01.c__law_parts d__law_parts, List.forall_mem_cons.mpr ⟨Ev.DefFit.mk Ev.K01.c__law_formed d__law_formed, List.forall_mem_cons.mpr ⟨Ev.DefFit.mk Ev.K01.c_law d_law, fun _ h => absurd h (by simp)⟩⟩⟩⟩⟩⟩⟩⟩⟩⟩⟩⟩⟩⟩⟩⟩⟩⟩⟩⟩⟩⟩⟩⟩⟩⟩⟩⟩⟩⟩⟩⟩⟩⟩⟩⟩⟩
    · exact List.forall_mem_cons.mpr ⟨k_PAIRS, List.forall_mem_cons.mpr ⟨k_BINDERS, fun _ h => absurd h (by simp)⟩⟩
    · exact List.forall_mem_cons.mpr ⟨b_len, List.forall_mem_cons.mpr ⟨b_abs, List.forall_mem_cons.mpr ⟨b_int, List.forall_mem_cons.mpr ⟨b_str, List.forall_mem_cons.mpr ⟨b_tuple, List.forall_mem_cons.mpr ⟨b_list, List.forall_mem_cons.mpr ⟨b_sum, List.forall_mem_cons.mpr ⟨b_any, List.forall_mem_cons.mpr ⟨b_all, List.forall_mem_cons.mpr ⟨b_dict, List.forall_mem_cons.mpr ⟨b_bool, List.forall_mem_cons.mpr ⟨b_isinstance, List.forall_mem_cons.mpr ⟨b_range, List.forall_mem_cons.mpr ⟨b_reversed, List.forall_mem_cons.mpr ⟨b_sorted, fun _ h => absurd h (by simp)⟩⟩⟩⟩⟩⟩⟩⟩⟩⟩⟩⟩⟩⟩⟩
