import PyProof.Rows.All
import KE.SortData
import KE.DataEq
import KE.DataMinMax
import HandS.ForMost
import HandS.Exc
import HandS.Lambda
import HandS.AnyAll
import HandS.TupAny
import HandS.TupMul
import HandS.Style
import HandS.IsInst
import HandS.Walk
import HandS.Defaults
import HandS.Deep
import HandS.TupSets
import HandS.Zip
import HandS.GenList
import KE.KIndexOf
import HandS.Conv
import HandS.More
import HandS.ExcInit
import KE.KExcSuper
import KE.KSuper
import HandS.ExcField
import HandS.Codes
import HandS.HeadHook4
import HandS.HeadWalk
import PySem.Challenge.RW_firesseen_k09_whole_terrain
import HandS.Head2
import Lean
set_option autoImplicit false
set_option linter.all false
/-! Fs1: a small language (IR) with data as values, and what it computes. Own work. -/
namespace Fs
open PySem

abbrev D := PyData

/-- a slot: unset; data; an object that can change, by its content (true: the caller's own); the law's script -/
inductive Sl where
  | un | dat (d : D) | mu (b : Bool) (d : D) | scr (ns : List Int)
abbrev S := List Sl

/-- a value: data, or a new object that nobody else holds, by its content -/
inductive Vl where
  | dat (d : D) | fr (d : D)

def Vl.d : Vl → D
  | .dat d => d
  | .fr d => d
def Vl.sl : Vl → Sl
  | .dat d => .dat d
  | .fr d => .mu false d

inductive R (α : Type) where
  | ok (a : α) (s : S) | exc (nm : D) (s : S) | stuck

def R.bind {α β : Type} (r : R α) (f : α → S → R β) : R β := match r with
  | .ok a s => f a s
  | .exc nm s => .exc nm s
  | .stuck => .stuck

inductive Ty where
  | int | bool | tup | str | lst
inductive BOp where
  | add | sub | mul | fdiv | mod | pow
inductive COp where
  | eq | ne | lt | le | gt | ge | inn | nin | neT
inductive Pr where
  | abs | int | len | max2 | min2 | max1 | min1 | sorted | tuple | list | any | all | str | dict
  | lenset | sortset | tagT

inductive E where
  | lit (d : D) | gint (i : Int)
  | var (i : Nat) | take (i : Nat) | ref (i : Nat)
  | tup (es : List E) | lst (es : List E) | dct (t : Bool) (ks vs : List E)
  | bin (op : BOp) (a b : E) | neg (a : E) | not (a : E)
  | cmp (op : COp) (a b : E) | isN (a : E) | notN (a : E)
  | ch2 (o1 o2 : COp) (a b c : E) | ch3 (o1 o2 o3 : COp) (a b c d : E)
  | and (a b : E) | or (a b : E) | ife (t a b : E)
  | idx (a i : E) | slc (a : E) (lo hi : Option E) | rev (a : E)
  | call (f : Nat) (as : List E) (ks : Nat)
  | prim (p : Pr) (as : List E) | isi (a : E) (t : Ty)
  | comp (tg : List Nat) (one : Bool) (it : E) (c : Option E) (e : E) (own : List Nat)
  | gen (al : Bool) (i : Nat) (it e : E)
  | rng1 (hi : E) | rng2 (lo hi : E) | zip (a b : E)
  | refused (f : Nat) (e : E)
  | pop (i : Nat) | get (d k x : E) | din (neg : Bool) (k d : E) | didx (d k : E) | sortd (d : E) | index (i : Nat) (x : E) | lrng (lo hi : E) | fz (a : E)

inductive St where
  | set (i : Nat) (e : E) | par (is : List Nat) (es : List E) | unp (is : List Nat) (e : E)
  | put (i : Nat) (k e : E) | dput (i : Nat) (k e : E) | app (i : Nat) (e : E) | ext (i : Nat) (e : E) | aug (i : Nat) (e : E)
  | eff (e : E) | iff (c : E) (t f : List St)
  | for (tg : List Nat) (one : Bool) (it : E) (b : List St) | whl (c : E) (b : List St)
  | ret (e : Option E) | raise (e : E) | brk | kill (is : List Nat)

/-! ### operations on data -/
/-- the most items -/
def lim : Nat := 16777216
/-- no dict in it, not too deep -/
def okD : Nat → D → Bool
  | _, .none => true
  | _, .bool _ => true
  | _, .int _ => true
  | _, .str _ => true
  | n + 1, .list xs => xs.all (okD n)
  | n + 1, .tuple xs => xs.all (okD n)
  | _, _ => false
/-- how deep data may be where they are compared -/
def dp : Nat := 12

def small (i : Int) : Bool := decide (i.natAbs < 18446744073709551616)

def binop : BOp → D → D → Option Vl
  | .add, .int i, .int j => some (.dat (.int (i + j)))
  | .add, .tuple xs, .tuple ys => if xs.length + ys.length ≤ lim then some (.dat (.tuple (xs ++ ys))) else none
  | .add, .list xs, .list ys => if xs.length + ys.length ≤ lim then some (.fr (.list (xs ++ ys))) else none
  | .add, .str x, .str y => if x.length + y.length ≤ lim then some (.dat (.str (x ++ y))) else none
  | .sub, .int i, .int j => some (.dat (.int (i - j)))
  | .mul, .int i, .int j => if small i || small j then some (.dat (.int (i * j))) else none
  | .mul, .tuple xs, .int k => if 0 ≤ k ∧ k ≤ 1000 ∧ xs.length * k.toNat ≤ lim then some (.dat (.tuple (List.replicate k.toNat xs).flatten)) else none
  | .mul, .list xs, .int k => if 0 ≤ k ∧ k ≤ 1000 ∧ xs.length * k.toNat ≤ lim then some (.fr (.list (List.replicate k.toNat xs).flatten)) else none
  | .fdiv, .int i, .int j => if j ≠ 0 ∧ j.natAbs < 1073741824 then some (.dat (.int (i.fdiv j))) else none
  | .mod, .int i, .int j => if j ≠ 0 then some (.dat (.int (i.fmod j))) else none
  | .pow, .int i, .int j => if 0 ≤ j ∧ j ≤ 1000 ∧ small i then some (.dat (.int (i ^ j.toNat))) else none
  | _, _, _ => none

/-- the item at i of n -/
def at? (xs : List D) (i : Int) : Option D :=
  if 0 ≤ i then xs[i.toNat]? else if 0 ≤ i + xs.length then xs[(i + xs.length).toNat]? else none
def look (kvs : List (D × D)) (k : D) : Option D := (kvs.find? fun p => PyData.eqv p.1 k).map (·.2)
/-- a dict as data: its keys' kind (ints; tuples of ints), then its entries -/
def mkD (t : Bool) (kvs : List (D × D)) : D := .dict ((.bool t, .none) :: kvs)
def has (kvs : List (D × D)) (k : D) : Bool := kvs.any fun p => PyData.eqv p.1 k
def store (kvs : List (D × D)) (k v : D) : List (D × D) :=
  if has kvs k then kvs.map fun p => if PyData.eqv p.1 k then (p.1, v) else p else kvs ++ [(k, v)]
/-- a key: an int, or a tuple of ints -/
def isInt : D → Bool
  | .int _ => true
  | _ => false
def isTupI : D → Bool
  | .tuple xs => xs.all isInt
  | _ => false
def key1 : D → Bool
  | .int _ => true
  | .tuple xs => xs.all isInt
  | _ => false
/-- a key of a kind: an int, a tuple of ints and tuples of ints -/
def keyOk : D → Bool
  | .int _ => true
  | .tuple xs => xs.all key1
  | _ => false
/-- a key of a dict's kind -/
def keyOf (t : Bool) (k : D) : Bool := match k with
  | .int _ => !t
  | .tuple xs => t && xs.all isInt
  | _ => false
def unD : D → Option (Bool × List (D × D))
  | .dict ((.bool t, .none) :: kvs) => some (t, kvs)
  | _ => none
def dhas (d k : D) : Option Bool := (unD d).bind fun q => if keyOf q.1 k = true then some (look q.2 k).isSome else none
def dat? (d k : D) : Option D := (unD d).bind fun q => if keyOf q.1 k = true then look q.2 k else none
def dget (d k x : D) : Option D := (unD d).bind fun q => if keyOf q.1 k = true then some ((look q.2 k).getD x) else none
def dput (d k v : D) : Option D := (unD d).bind fun q => if keyOf q.1 k = true ∧ q.2.length < lim then some (mkD q.1 (store q.2 k v)) else none
/-- a tuple that is known to be a plain one (made by tuple(..)) -/
def tagD (xs : List D) : D := .dict [(.none, .tuple xs)]
def idxD : D → D → Option D
  | .list xs, .int i => at? xs i
  | .tuple xs, .int i => at? xs i
  | .dict [(.none, .tuple xs)], .int i => at? xs i
  | _, _ => none
def ltD (a b : D) : Option Bool := match a, b with
  | .int i, .int j => some (decide (i < j))
  | .tuple xs, .tuple ys => if okD dp (.tuple xs) && okD dp (.tuple ys) && W.alike (.tuple xs) (.tuple ys) then some (W.dataLt (.tuple xs) (.tuple ys)) else none
  | _, _ => none
def inD (x : D) (xs : List D) : Option Bool := if okD dp x && xs.all (okD dp) then some (xs.any fun y => PyData.eqv y x) else none
def neT (a b : D) : Option Bool := if okD dp a && okD dp b then some (!PyData.eqv a b) else none
def cmpD : COp → D → D → Option Bool
  | .eq, a, b => if okD dp a && okD dp b then some (PyData.eqv a b) else none
  | .ne, a, b => if okD dp a && okD dp b then some (!PyData.eqv a b) else none
  | .lt, a, b => ltD a b
  | .le, .int i, .int j => some (decide (i ≤ j))
  | .gt, .int i, .int j => some (decide (j < i))
  | .ge, .int i, .int j => some (decide (j ≤ i))
  | .inn, x, .list xs => inD x xs
  | .inn, x, .tuple xs => inD x xs
  | .nin, x, .list xs => (inD x xs).map (!·)
  | .nin, x, .tuple xs => (inD x xs).map (!·)
  | .neT, .dict [(.none, .tuple xs)], b => neT (.tuple xs) b
  | _, _, _ => none
def lift (o : Option Bool) : Option Vl := o.map fun b => .dat (.bool b)

/-- the ints of a row of ints -/
def intsD : List D → Option (List Int)
  | [] => some []
  | .int i :: xs => (intsD xs).map (i :: ·)
  | _ :: _ => none
/-- the first place of an int among ints -/
def findD (xs : List D) : D → Option Vl
  | .int i => (intsD xs).bind fun ns => if ns.length ≤ lim ∧ i ∈ ns then some (.dat (.int (ns.idxOf i : Nat))) else none
  | _ => none
def sIx (n d : Nat) : Option Int → Nat
  | none => d
  | some v => if v < 0 then (v + n).toNat else min v.toNat n
def cut {α : Type} (xs : List α) (lo hi : Option Int) : List α := (xs.drop (sIx xs.length 0 lo)).take (sIx xs.length xs.length hi - sIx xs.length 0 lo)
def slcD : D → Option Int → Option Int → Option Vl
  | .list xs, lo, hi => some (.fr (.list (cut xs lo hi)))
  | .tuple xs, lo, hi => some (.dat (.tuple (cut xs lo hi)))
  | _, _, _ => none

/-- sorting, stable -/
def sortD (xs : List D) : List D := xs.mergeSort fun a b => !W.dataLt b a
def isTupNE : D → Bool
  | .tuple (_ :: _) => true
  | _ => false
def isTupl : D → Bool
  | .tuple _ => true
  | _ => false
def isNone : D → Bool
  | .none => true
  | _ => false
/-- what can be compared here, each with each -/
def alikes (xs : List D) : Bool := xs.all (okD dp) && (xs.all fun x => !isNone x) && xs.all fun x => xs.all fun y => W.alike x y
/-- what can be sorted here -/
def sortable (xs : List D) : Bool := alikes xs && (decide (xs.length ≤ 1) || (xs.all isTupNE || xs.all fun x => !isTupl x)) && decide (xs.length ≤ lim)
/-- the keys, sorted -/
def dsort (d : D) : Option (List D) := (unD d).bind fun q => if q.1 = true then (if (alikes (q.2.map (·.1)) && (q.2.map (·.1)).all isTupNE && decide (q.2.length ≤ lim)) = true then some (sortD (q.2.map (·.1))) else none) else if q.2.length < 64 then (intsK q.2).map fun ns => (ns.mergeSort fun a b => decide (a ≤ b)).map .int else none
where intsK : List (D × D) → Option (List Int)
  | [] => some []
  | (.int i, _) :: kvs => (intsK kvs).map (i :: ·)
  | _ :: _ => none
/-- the items, each once, as first met -/
def stepD (acc : List D) (x : D) : List D := if acc.any (fun y => PyData.eqv y x) then acc else acc ++ [x]
def once (xs : List D) : List D := xs.foldl stepD []
def items : D → Option (List D)
  | .list xs => some xs
  | .tuple xs => some xs
  | _ => none
def bools : List D → Option (List Bool)
  | [] => some []
  | .bool b :: xs => (bools xs).map (b :: ·)
  | _ :: _ => none
def pairs : List D → Option (List (D × D))
  | [] => some []
  | .tuple [k, v] :: xs => if keyOk k then (pairs xs).map ((k, v) :: ·) else none
  | _ :: _ => none
def key0 : D → Bool
  | .bool _ => true
  | .int _ => true
  | _ => false
def prim : Pr → List D → Option Vl
  | .abs, [.int i] => some (.dat (.int i.natAbs))
  | .int, [.int i] => some (.dat (.int i))
  | .int, [.bool b] => some (.dat (.int (if b then 1 else 0)))
  | .len, [.list xs] => some (.dat (.int xs.length))
  | .len, [.tuple xs] => some (.dat (.int xs.length))
  | .len, [.str x] => if x.length ≤ lim then some (.dat (.int x.length)) else none
  | .max2, [.int i, .int j] => some (.dat (.int (if j > i then j else i)))
  | .min2, [.int i, .int j] => some (.dat (.int (if j < i then j else i)))
  | .max1, [.list (x :: xs)] => if alikes (x :: xs) then some (.dat (W.maxD x xs)) else none
  | .max1, [.tuple (x :: xs)] => if alikes (x :: xs) then some (.dat (W.maxD x xs)) else none
  | .min1, [.list (x :: xs)] => if alikes (x :: xs) then some (.dat (W.minD x xs)) else none
  | .min1, [.tuple (x :: xs)] => if alikes (x :: xs) then some (.dat (W.minD x xs)) else none
  | .sorted, [.list xs] => if sortable xs then some (.fr (.list (sortD xs))) else none
  | .tuple, [.list xs] => some (.dat (.tuple xs))
  | .tuple, [.tuple xs] => some (.dat (.tuple xs))
  | .list, [.list xs] => some (.fr (.list xs))
  | .list, [.tuple xs] => some (.fr (.list xs))
  | .any, [.list xs] => (bools xs).map fun bs => .dat (.bool (bs.any id))
  | .all, [.list xs] => (bools xs).map fun bs => .dat (.bool (bs.all id))
  | .any, [.tuple xs] => (bools xs).map fun bs => .dat (.bool (bs.any id))
  | .all, [.tuple xs] => (bools xs).map fun bs => .dat (.bool (bs.all id))
  | .tagT, [.list xs] => some (.dat (tagD xs))
  | .len, [.dict [(.none, .tuple xs)]] => some (.dat (.int xs.length))
  | .max1, [.dict [(.none, .tuple (x :: xs))]] => if alikes (x :: xs) then some (.dat (W.maxD x xs)) else none
  | .min1, [.dict [(.none, .tuple (x :: xs))]] => if alikes (x :: xs) then some (.dat (W.minD x xs)) else none
  | .lenset, [.list xs] => if xs.all isInt && decide (xs.length ≤ 4000) then some (.dat (.int (once xs).length)) else if xs.all isTupI && decide (xs.length < 64) then some (.dat (.int (once xs).length)) else none
  | _, _ => none
def isTy : Ty → D → Bool
  | .int, .int _ => true
  | .int, .bool _ => true
  | .bool, .bool _ => true
  | .tup, .tuple _ => true
  | .tup, .dict [(.none, .tuple _)] => true
  | .str, .str _ => true
  | .lst, .list _ => true
  | _, _ => false
def rngD (lo hi : Int) : Option (List D) := if lo.natAbs ≤ 4611686018427387903 ∧ hi.natAbs ≤ 4611686018427387903 ∧ hi - lo ≤ lim then some ((List.range (hi - lo).toNat).map fun (k : Nat) => .int (lo + k)) else none

/-! ### what a call gives -/
inductive CR where
  | ok (v : Vl) (back : List Sl) | exc (nm : D) (back : List Sl) | stuck
abbrev CT := Nat → List Sl → CR

/-- an operand: a slot, looked at where the operation is done; a value -/
inductive Op where
  | sl (i : Nat) | vl (v : Vl)
def Op.look (s : S) : Op → Option D
  | .vl v => some v.d
  | .sl i => match s[i]? with
    | some (.dat d) => some d
    | some (.mu _ d) => some d
    | _ => none
/-- .. that may be the script -/
def Op.lookS (s : S) : Op → Option D
  | .vl v => some v.d
  | .sl i => match s[i]? with
    | some (.dat d) => some d
    | some (.mu _ d) => some d
    | some (.scr ns) => some (.list (ns.map .int))
    | _ => none
def Op.arg (s : S) : Op → Option Sl
  | .vl v => some v.sl
  | .sl i => match s[i]? with
    | some (.dat d) => some (.dat d)
    | some (.mu _ d) => some (.mu true d)
    | some (.scr ns) => some (.scr ns)
    | _ => none
def looks (s : S) : List Op → Option (List D)
  | [] => some []
  | o :: os => match o.look s, looks s os with
    | some d, some ds => some (d :: ds)
    | _, _ => none
def looksS (s : S) : List Op → Option (List D)
  | [] => some []
  | o :: os => match o.lookS s, looksS s os with
    | some d, some ds => some (d :: ds)
    | _, _ => none
def args (s : S) : List Op → Option (List Sl)
  | [] => some []
  | o :: os => match o.arg s, args s os with
    | some d, some ds => some (d :: ds)
    | _, _ => none
def isMu : Sl → Bool
  | .mu _ _ => true
  | _ => false
/-- the slots that are lent -/
def lent (s : S) : List Op → List Nat
  | [] => []
  | .sl i :: os => match s[i]? with
    | some (.mu _ _) => i :: lent s os
    | _ => lent s os
  | _ :: os => lent s os
/-- what was lent comes back -/
def back : List Op → List Sl → S → Option S
  | [], _, s => some s
  | _ :: _, [], _ => none
  | .vl _ :: os, _ :: bs, s => back os bs s
  | .sl i :: os, b :: bs, s => match s[i]?, b with
    | some (.mu k _), .mu true d => back os bs (s.set i (.mu k d))
    | some (.mu _ _), _ => none
    | _, _ => back os bs s
def doCall (C : CT) (f : Nat) (os : List Op) (s : S) : R Vl := match args s os with
  | none => .stuck
  | some as => if (lent s os).Nodup then match C f as with
    | .ok v bs => (match back os bs s with
      | some s' => .ok v s'
      | none => .stuck)
    | .exc nm bs => (match back os bs s with
      | some s' => .exc nm s'
      | none => .stuck)
    | .stuck => .stuck
  else .stuck
def toR {α : Type} (o : Option α) (s : S) : R α := match o with
  | some a => .ok a s
  | none => .stuck

/-- an item comes to a target -/
def bind (tg : List Nat) (one : Bool) (x : D) (s : S) : Option S := match one with
  | true => (match tg with
    | [i] => some (s.set i (.dat x))
    | _ => none)
  | false => (match x with
    | .tuple xs => if xs.length = tg.length then some ((tg.zip xs).foldl (fun s p => s.set p.1 (.dat p.2)) s) else none
    | _ => none)
def wipe (own : List Nat) (s : S) : S := own.foldl (fun s i => s.set i .un) s
def unwipe (own : List Nat) (s0 s : S) : S := own.foldl (fun s i => s.set i (s0.getD i .un)) s
def compL (tg : List Nat) (one : Bool) (c : S → R Bool) (e : S → R D) (own : List Nat) : List D → S → R (List D)
  | [], s => .ok [] s
  | x :: xs, s => match bind tg one x (wipe own s) with
    | none => .stuck
    | some s1 => match c s1 with
      | .ok true s2 => (match e s2 with
        | .ok d s3 => (match compL tg one c e own xs s3 with
          | .ok ds s4 => .ok (d :: ds) s4
          | _ => .stuck)
        | _ => .stuck)
      | .ok false s2 => compL tg one c e own xs s2
      | _ => .stuck
def genL (al : Bool) (i : Nat) (e : S → R Bool) : List D → S → R Bool
  | [], s => .ok al s
  | x :: xs, s => match e (s.set i (.dat x)) with
    | .ok b s2 => if b == al then genL al i e xs s2 else .ok b s2
    | _ => .stuck
/-- the slot that is walked is shut meanwhile -/
def shutI : Option Nat → List Nat
  | none => []
  | some i => [i]
def compR (tg : List Nat) (one : Bool) (c : S → R Bool) (e : S → R D) (own : List Nat) (xs : List D × Option Nat) (s : S) : R Vl :=
  if xs.1.length ≤ lim then match compL tg one c e own xs.1 (wipe (own ++ shutI xs.2) s) with
    | .ok ds s' => .ok (.fr (.list ds)) (unwipe (own ++ shutI xs.2) s s')
    | _ => .stuck
  else .stuck
/-- the slot holds something -/
def live (s : S) (i : Nat) : Bool := match s[i]? with
  | some (.dat _) => true
  | some (.mu _ _) => true
  | some (.scr _) => true
  | _ => false
def opd (f : E → S → R Vl) (e : E) (s : S) : R Op := match e with
  | .ref i => if live s i then .ok (.sl i) s else .stuck
  | e => (f e s).bind fun v s => .ok (.vl v) s
def opds (f : E → S → R Vl) : List E → S → R (List Op)
  | [], s => .ok [] s
  | e :: es, s => (opd f e s).bind fun o s => (opds f es s).bind fun os s => .ok (o :: os) s
def evs (f : E → S → R Vl) : List E → S → R (List D)
  | [], s => .ok [] s
  | e :: es, s => (f e s).bind fun v s => (evs f es s).bind fun ds s => .ok (v.d :: ds) s
def tst (r : R Vl) : R Bool := r.bind fun v s => match v with
  | .dat (.bool b) => .ok b s
  | _ => .stuck
def withO (f : E → S → R Vl) (es : List E) (s : S) (g : List D → Option Vl) : R Vl := (opds f es s).bind fun os s => match looks s os with
  | some ds => toR (g ds) s
  | none => .stuck
def withS (f : E → S → R Vl) (es : List E) (s : S) (g : List D → Option Vl) : R Vl := (opds f es s).bind fun os s => match looksS s os with
  | some ds => toR (g ds) s
  | none => .stuck
def Op.isDat : Op → Bool
  | .vl (.dat _) => true
  | _ => false
/-- what is walked: its items; the slot that is walked is shut meanwhile -/
def iters (f : E → S → R Vl) (it : E) (s : S) : R (List D × Option Nat) := match it with
  | .rng1 hi => (f hi s).bind fun v s => (match v with
    | .dat (.int h) => toR ((rngD 0 h).map (·, none)) s
    | _ => .stuck)
  | .rng2 lo hi => (f lo s).bind fun v s => (f hi s).bind fun w s => (match v, w with
    | .dat (.int l), .dat (.int h) => toR ((rngD l h).map (·, none)) s
    | _, _ => .stuck)
  | .zip a b => (opds f [a, b] s).bind fun os s => (match looks s os with
    | some [.tuple xs, .tuple ys] => .ok ((xs.zip ys).map fun p => .tuple [p.1, p.2], none) s
    | some [.list xs, .list ys] => if os.all Op.isDat = true then .ok ((xs.zip ys).map fun p => .tuple [p.1, p.2], none) s else .stuck
    | _ => .stuck)
  | .ref i => (match s[i]? with
    | some (.dat d) => toR ((items d).map (·, none)) s
    | some (.mu _ d) => toR ((items d).map (·, some i)) s
    | _ => .stuck)
  | e => (f e s).bind fun v s => toR ((items v.d).map (·, none)) s

def ev (C : CT) : Nat → E → S → R Vl
  | 0, _, _ => .stuck
  | n + 1, e, s => match e with
    | .lit d => .ok (.dat d) s
    | .gint i => .ok (.dat (.int i)) s
    | .var i => (match s[i]? with
      | some (.dat d) => .ok (.dat d) s
      | some (.mu false d) => .ok (.dat d) (s.set i (.dat d))
      | _ => .stuck)
    | .take i => (match s[i]? with
      | some (.dat d) => .ok (.dat d) (s.set i .un)
      | some (.mu false d) => .ok (.fr d) (s.set i .un)
      | _ => .stuck)
    | .ref _ => .stuck
    | .fz a => (ev C n a s).bind fun v s => .ok (.dat v.d) s
    | .tup es => (evs (ev C n) es s).bind fun ds s => .ok (.dat (.tuple ds)) s
    | .lst es => (evs (ev C n) es s).bind fun ds s => .ok (.fr (.list ds)) s
    | .dct t ks vs => (match ks, vs with
      | [], [] => .ok (.fr (mkD t [])) s
      | [k], [v] => if t = true then .stuck else (ev C n k s).bind fun a s => (ev C n v s).bind fun b s => (match a with
        | .dat (.int i) => .ok (.fr (mkD false [(.int i, b.d)])) s
        | _ => .stuck)
      | _, _ => .stuck)
    | .din neg k d => withO (ev C n) [k, d] s fun
      | [x, y] => (dhas y x).map fun b => .dat (.bool (if neg = true then !b else b))
      | _ => none
    | .didx d k => withO (ev C n) [d, k] s fun
      | [x, y] => (dat? x y).map Vl.dat
      | _ => none
    | .sortd d => withO (ev C n) [d] s fun
      | [x] => (dsort x).map fun ks => .fr (.list ks)
      | _ => none
    | .bin op a b => withO (ev C n) [a, b] s fun
      | [x, y] => binop op x y
      | _ => none
    | .neg a => withO (ev C n) [a] s fun
      | [.int i] => some (.dat (.int (-i)))
      | _ => none
    | .not a => (tst (ev C n a s)).bind fun b s => .ok (.dat (.bool !b)) s
    | .cmp op a b => withO (ev C n) [a, b] s fun
      | [x, y] => lift (cmpD op x y)
      | _ => none
    | .isN a => withO (ev C n) [a] s fun
      | [.none] => some (.dat (.bool true))
      | [_] => some (.dat (.bool false))
      | _ => none
    | .notN a => withO (ev C n) [a] s fun
      | [.none] => some (.dat (.bool false))
      | [_] => some (.dat (.bool true))
      | _ => none
    | .ch2 o1 o2 a b c => (ev C n a s).bind fun x s => (ev C n b s).bind fun y s => (match cmpD o1 x.d y.d with
      | some true => (ev C n c s).bind fun z s => toR (lift (cmpD o2 y.d z.d)) s
      | some false => .ok (.dat (.bool false)) s
      | none => .stuck)
    | .ch3 o1 o2 o3 a b c d => (ev C n a s).bind fun x s => (ev C n b s).bind fun y s => (match cmpD o1 x.d y.d with
      | some true => (ev C n c s).bind fun z s => (match cmpD o2 y.d z.d with
        | some true => (ev C n d s).bind fun u s => toR (lift (cmpD o3 z.d u.d)) s
        | some false => .ok (.dat (.bool false)) s
        | none => .stuck)
      | some false => .ok (.dat (.bool false)) s
      | none => .stuck)
    | .and a b => (tst (ev C n a s)).bind fun k s => (match k with
      | true => (tst (ev C n b s)).bind fun k s => .ok (.dat (.bool k)) s
      | false => .ok (.dat (.bool false)) s)
    | .or a b => (tst (ev C n a s)).bind fun k s => (match k with
      | true => .ok (.dat (.bool true)) s
      | false => (tst (ev C n b s)).bind fun k s => .ok (.dat (.bool k)) s)
    | .ife t a b => (tst (ev C n t s)).bind fun k s => (match k with
      | true => ev C n a s
      | false => ev C n b s)
    | .idx a i => withS (ev C n) [a, i] s fun
      | [x, y] => (idxD x y).map Vl.dat
      | _ => none
    | .slc a lo hi => (opds (ev C n) [a] s).bind fun os s =>
      (match lo with
        | none => R.ok none s
        | some e => (ev C n e s).bind fun v s => (match v with
          | .dat (.int i) => .ok (some i) s
          | _ => .stuck)).bind fun l s =>
      (match hi with
        | none => R.ok none s
        | some e => (ev C n e s).bind fun v s => (match v with
          | .dat (.int i) => .ok (some i) s
          | _ => .stuck)).bind fun h s => (match looksS s os with
        | some [d] => toR (slcD d l h) s
        | _ => .stuck)
    | .rev a => withO (ev C n) [a] s fun
      | [.list xs] => some (.fr (.list xs.reverse))
      | _ => none
    | .call f es _ => (opds (ev C n) es s).bind fun os s => doCall C f os s
    | .prim .len es => withS (ev C n) es s (prim .len)
    | .prim p es => withO (ev C n) es s (prim p)
    | .isi a t => withO (ev C n) [a] s fun
      | [x] => some (.dat (.bool (isTy t x)))
      | _ => none
    | .comp tg one it c e own => (iters (ev C n) it s).bind fun xs s => compR tg one (fun s => match c with
        | none => .ok true s
        | some c => tst (ev C n c s)) (fun s => (ev C n e s).bind fun v s => .ok v.d s) own xs s
    | .gen al i it e => (iters (ev C n) it s).bind fun xs s => (match xs.2 with
      | some _ => .stuck
      | none => (genL al i (fun s => tst (ev C n e s)) xs.1 s).bind fun b s' => .ok (.dat (.bool b)) (s'.set i (s.getD i .un)))
    | .rng1 _ => .stuck
    | .rng2 _ _ => .stuck
    | .zip _ _ => .stuck
    | .refused _ e => (match ev C n e s with
      | .ok _ s => .ok (.dat (.str ⟨#[]⟩)) s
      | .exc nm s => .ok (.dat nm) s
      | .stuck => .stuck)
    | .pop i => (match s[i]? with
      | some (.mu k (.list xs)) => (match xs.getLast? with
        | some x => .ok (.dat x) (s.set i (.mu k (.list xs.dropLast)))
        | none => .stuck)
      | _ => .stuck)
    | .get d k x => withO (ev C n) [d, k, x] s fun
      | [y, z, u] => (dget y z u).map Vl.dat
      | _ => none
    | .lrng lo hi => (ev C n lo s).bind fun v s => (ev C n hi s).bind fun w s => (match v, w with
      | .dat (.int l), .dat (.int h) => toR ((rngD l h).map fun ds => .fr (.list ds)) s
      | _, _ => .stuck)
    | .index i x => (match s[i]? with
      | some (.dat (.list xs)) => (ev C n x s).bind fun v s => toR (findD xs v.d) s
      | some (.dat (.dict [(.none, .tuple xs)])) => (ev C n x s).bind fun v s => toR (findD xs v.d) s
      | _ => .stuck)

/-! ### statements -/
inductive O where
  | nx (s : S) | rt (v : Vl) (s : S) | bk (s : S) | xc (nm : D) (s : S) | stuck
def O.of {α : Type} (r : R α) (f : α → S → O) : O := match r with
  | .ok a s => f a s
  | .exc nm s => .xc nm s
  | .stuck => .stuck
def exs (f : St → S → O) : List St → S → O
  | [], s => .nx s
  | t :: ts, s => match f t s with
    | .nx s => exs f ts s
    | o => o
def forL (f : D → S → O) : List D → S → O
  | [], s => .nx s
  | x :: xs, s => match f x s with
    | .nx s => forL f xs s
    | .bk s => .nx s
    | o => o
def whlL (c : S → R Bool) (f : S → O) : Nat → S → O
  | 0, _ => .stuck
  | n + 1, s => O.of (c s) fun b s => match b with
    | false => .nx s
    | true => match f s with
      | .nx s => whlL c f n s
      | .bk s => .nx s
      | o => o
/-- the slot's object is a list -/
def isMuL (s : S) (i : Nat) : Bool := match s[i]? with
  | some (.mu _ (.list _)) => true
  | _ => false
/-- the slot's object is a dict -/
def isMuD (s : S) (i : Nat) : Bool := match s[i]? with
  | some (.mu _ d) => (unD d).isSome
  | _ => false
/-- the most turns of a while -/
def turns : Nat := 1000000
/-- a slot may be given up -/
def free (s : S) (i : Nat) : Bool := match s[i]? with
  | some (.mu true _) => false
  | some (.scr _) => false
  | some _ => true
  | none => false
def vals (f : E → S → R Vl) : List E → S → R (List Vl)
  | [], s => .ok [] s
  | e :: es, s => (f e s).bind fun v s => (vals f es s).bind fun ds s => .ok (v :: ds) s
def setAll : List Nat → List Vl → S → Option S
  | [], [], s => some s
  | i :: is, v :: vs, s => if free s i then setAll is vs (s.set i v.sl) else none
  | _, _, _ => none
def toO (o : Option S) : O := match o with
  | some s => .nx s
  | none => .stuck

def ex (C : CT) : Nat → St → S → O
  | 0, _, _ => .stuck
  | n + 1, t, s => match t with
    | .set i e => O.of (ev C n e s) fun v s => if free s i then .nx (s.set i v.sl) else .stuck
    | .par is es => O.of (vals (ev C n) es s) fun vs s => toO (setAll is vs s)
    | .unp is e => O.of (ev C n e s) fun v s => (match v with
      | .dat (.tuple ds) => toO (setAll is (ds.map Vl.dat) s)
      | _ => .stuck)
    | .put i k e => if isMuL s i then O.of (ev C n e s) fun v s => O.of (ev C n k s) fun w s => (match s[i]? with
      | some (.mu b (.list xs)) => (match w.d with
        | .int j => if 0 ≤ j ∧ j < xs.length then .nx (s.set i (.mu b (.list (xs.set j.toNat v.d)))) else .stuck
        | _ => .stuck)
      | _ => .stuck) else .stuck
    | .dput i k e => if isMuD s i then O.of (ev C n e s) fun v s => O.of (ev C n k s) fun w s => (match s[i]? with
      | some (.mu b d) => (match dput d w.d v.d with
        | some d' => .nx (s.set i (.mu b d'))
        | none => .stuck)
      | _ => .stuck) else .stuck
    | .app i e => if isMuL s i then O.of (ev C n e s) fun v s => (match s[i]? with
      | some (.mu b (.list xs)) => if xs.length < lim then .nx (s.set i (.mu b (.list (xs ++ [v.d])))) else .stuck
      | _ => .stuck) else .stuck
    | .ext i e => if isMuL s i then O.of (opds (ev C n) [e] s) fun os s => (match s[i]?, looks s os with
      | some (.mu b (.list xs)), some [.list ys] => if xs.length + ys.length ≤ lim then .nx (s.set i (.mu b (.list (xs ++ ys)))) else .stuck
      | _, _ => .stuck) else .stuck
    | .aug i e => (match s[i]? with
      | some (.dat (.int a)) => O.of (ev C n e s) fun v s => (match v with
        | .dat (.int b) => .nx (s.set i (.dat (.int (a + b))))
        | _ => .stuck)
      | _ => .stuck)
    | .eff e => O.of (ev C n e s) fun _ s => .nx s
    | .iff c a b => O.of (tst (ev C n c s)) fun k s => (match k with
      | true => exs (ex C n) a s
      | false => exs (ex C n) b s)
    | .for tg one it b => O.of (iters (ev C n) it s) fun xs s => (match xs.2 with
      | some _ => .stuck
      | none => forL (fun x s => if tg.all (free s) then (match bind tg one x s with
        | some s => exs (ex C n) b s
        | none => .stuck) else .stuck) xs.1 s)
    | .whl c b => whlL (fun s => tst (ev C n c s)) (exs (ex C n) b) turns s
    | .ret none => .rt (.dat .none) s
    | .ret (some e) => O.of (ev C n e s) .rt
    | .raise e => O.of (ev C n e s) fun v s => (match v with
      | .dat (.str x) => if x.length ≤ 1000 then .xc (.str x) s else .stuck
      | _ => .stuck)
    | .brk => .bk s
    | .kill is => if is.all (free s) then .nx (wipe is s) else .stuck

/-! ### functions -/
structure Fn where
  np : Nat
  ns : Nat
  body : List St
/-- how deep a body's text may be -/
def deep : Nat := 40
def call (tbl : List Fn) : Nat → CT
  | 0, _, _ => .stuck
  | n + 1, f, as => match tbl[f]? with
    | none => .stuck
    | some fn => if as.length = fn.np then match exs (ex (call tbl n) deep) fn.body (as ++ List.replicate (fn.ns - fn.np) .un) with
      | .nx s => .ok (.dat .none) (s.take fn.np)
      | .rt v s => .ok v (s.take fn.np)
      | .xc nm s => .exc nm (s.take fn.np)
      | _ => .stuck
    else .stuck
end Fs
set_option Elab.async false
set_option linter.all false
set_option maxRecDepth 100000
set_option maxHeartbeats 2000000
namespace Fs
open PySem PySem.Spec PyProof.Rows L2

/-! ### data in a heap -/
mutual
inductive Rp (K : PySem.W.Frag) (F : Hp) : V → D → Prop
  | non : Rp K F .non .none
  | bl (b : Bool) : Rp K F (.bl b) (.bool b)
  | int (i : Int) : Rp K F (.int i) (.int i)
  | str (x : Str) : Rp K F (.str x) (.str x)
  | lst {a : Addr} {xs : List V} {ds : List D} : F a = some (.lst xs) → RpAll K F xs ds → Rp K F (.ref a) (.list ds)
  | tup {a : Addr} {xs : List V} {ds : List D} : F a = some (.tup xs) → RpAll K F xs ds → Rp K F (.ref a) (.tuple ds)
  | dk {a : Addr} {ks : List (L2.Key × V)} {kvs : List (D × D)} : F a = some (.dK ks) → RpK K F ks kvs → Rp K F (.ref a) (.dict ((.bool false, .none) :: kvs))
  | dt {a : Addr} {ks : List (List L2.Key × V)} {kvs : List (D × D)} : F a = some (.dT ks) → RpT K F ks kvs → Rp K F (.ref a) (.dict ((.bool true, .none) :: kvs))
  | tag {a : Addr} {o : Obj} {xs : List V} {ds : List D} : F a = some (.frz o (.tup xs)) → o.cls = .type "tuple" → o.dict = none → RpAll K F xs ds → Rp K F (.ref a) (.dict [(.none, .tuple ds)])
inductive RpK (K : PySem.W.Frag) (F : Hp) : List (L2.Key × V) → List (D × D) → Prop
  | nil : RpK K F [] []
  | cons {i : Int} {v : V} {d : D} {ks : List (L2.Key × V)} {kvs : List (D × D)} : Rp K F v d → RpK K F ks kvs → RpK K F ((Sum.inl i, v) :: ks) ((.int i, d) :: kvs)
inductive RpT (K : PySem.W.Frag) (F : Hp) : List (List L2.Key × V) → List (D × D) → Prop
  | nil : RpT K F [] []
  | cons {ns : List Int} {v : V} {d : D} {ks : List (List L2.Key × V)} {kvs : List (D × D)} : Rp K F v d → RpT K F ks kvs → RpT K F ((ns.map Sum.inl, v) :: ks) ((.tuple (ns.map .int), d) :: kvs)
inductive RpAll (K : PySem.W.Frag) (F : Hp) : List V → List D → Prop
  | nil : RpAll K F [] []
  | cons {v : V} {vs : List V} {d : D} {ds : List D} : Rp K F v d → RpAll K F vs ds → RpAll K F (v :: vs) (d :: ds)
end

def Sub (F F' : Hp) : Prop := ∀ a o, F a = some o → F' a = some o
theorem Sub.refl (F : Hp) : Sub F F := fun _ _ h => h
theorem Sub.trans {F F1 F2 : Hp} (a : Sub F F1) (b : Sub F1 F2) : Sub F F2 := fun x o h => b x o (a x o h)
theorem Sub.new {F : Hp} {p : Addr} {o : HO} (h : F p = none) : Sub F (upd F p o) := fun a u e => by
  rw [upd_ne (ne_of_none e h)]; exact e
theorem Sub.rd {F F' : Hp} {a : Addr} {u : HO} (e : Sub F F') (h : Rd F a u) : Rd F' a u := by
  rcases h with h | ⟨o, h⟩
  · exact .inl (e a _ h)
  · exact .inr ⟨o, e a _ h⟩
section
variable {K : PySem.W.Frag} {F F' H : Hp}
theorem Sub.l {a : Addr} {xs : List V} (e : Sub F F') (h : SqL K F a xs) : SqL K F' a xs := h.elim (fun h => .inl (e.rd h)) .inr
theorem Sub.t {a : Addr} {xs : List V} (e : Sub F F') (h : SqT K F a xs) : SqT K F' a xs := h.elim (fun h => .inl (e.rd h)) .inr
mutual
theorem Rp.mono (e : Sub F F') : ∀ {v : V} {d : D}, Rp K F v d → Rp K F' v d
  | _, _, .non => .non
  | _, _, .bl b => .bl b
  | _, _, .int i => .int i
  | _, _, .str x => .str x
  | _, _, .lst h r => .lst (e _ _ h) (RpAll.mono e r)
  | _, _, .tup h r => .tup (e _ _ h) (RpAll.mono e r)
  | _, _, .dk h r => .dk (e _ _ h) (RpK.mono e r)
  | _, _, .dt h r => .dt (e _ _ h) (RpT.mono e r)
  | _, _, .tag h c d r => .tag (e _ _ h) c d (RpAll.mono e r)
theorem RpK.mono (e : Sub F F') : ∀ {vs : List (L2.Key × V)} {ds : List (D × D)}, RpK K F vs ds → RpK K F' vs ds
  | _, _, .nil => .nil
  | _, _, .cons h r => .cons (Rp.mono e h) (RpK.mono e r)
theorem RpT.mono (e : Sub F F') : ∀ {vs : List (List L2.Key × V)} {ds : List (D × D)}, RpT K F vs ds → RpT K F' vs ds
  | _, _, .nil => .nil
  | _, _, .cons h r => .cons (Rp.mono e h) (RpT.mono e r)
theorem RpAll.mono (e : Sub F F') : ∀ {vs : List V} {ds : List D}, RpAll K F vs ds → RpAll K F' vs ds
  | _, _, .nil => .nil
  | _, _, .cons h r => .cons (Rp.mono e h) (RpAll.mono e r)
end
theorem RpAll.length : ∀ {vs : List V} {ds : List D}, RpAll K F vs ds → vs.length = ds.length
  | _, _, .nil => rfl
  | _, _, .cons _ r => by simp [RpAll.length r]
theorem RpAll.append : ∀ {vs ws : List V} {ds es : List D}, RpAll K F vs ds → RpAll K F ws es → RpAll K F (vs ++ ws) (ds ++ es)
  | _, _, _, _, .nil, s => s
  | _, _, _, _, .cons h r, s => .cons h (RpAll.append r s)
theorem RpAll.get : ∀ {vs : List V} {ds : List D}, RpAll K F vs ds → ∀ {i : Nat} {d : D}, ds[i]? = some d → ∃ v, vs[i]? = some v ∧ Rp K F v d
  | _, _, .nil, i, d, h => by simp at h
  | _, _, .cons h r, 0, d, e => by
    simp at e; subst e; exact ⟨_, rfl, h⟩
  | _, _, .cons h r, i + 1, d, e => by
    obtain ⟨v, h1, h2⟩ := RpAll.get r (i := i) (by simpa using e)
    exact ⟨v, by simpa using h1, h2⟩
theorem RpAll.get' : ∀ {vs : List V} {ds : List D}, RpAll K F vs ds → ∀ {i : Nat} {v : V}, vs[i]? = some v → ∃ d, ds[i]? = some d ∧ Rp K F v d
  | _, _, .nil, i, d, h => by simp at h
  | _, _, .cons h r, 0, d, e => by
    simp at e; subst e; exact ⟨_, rfl, h⟩
  | _, _, .cons h r, i + 1, d, e => by
    obtain ⟨v, h1, h2⟩ := RpAll.get' r (i := i) (by simpa using e)
    exact ⟨v, by simpa using h1, h2⟩
theorem RpAll.set : ∀ {vs : List V} {ds : List D} {v : V} {d : D} (i : Nat), RpAll K F vs ds → Rp K F v d → RpAll K F (vs.set i v) (ds.set i d)
  | _, _, _, _, _, .nil, _ => .nil
  | _, _, _, _, 0, .cons _ r, h => .cons h r
  | _, _, _, _, i + 1, .cons q r, h => .cons q (RpAll.set i r h)
theorem RpAll.take : ∀ {vs : List V} {ds : List D} (n : Nat), RpAll K F vs ds → RpAll K F (vs.take n) (ds.take n)
  | _, _, 0, _ => .nil
  | _, _, _ + 1, .nil => .nil
  | _, _, n + 1, .cons q r => .cons q (RpAll.take n r)
theorem RpAll.drop : ∀ {vs : List V} {ds : List D} (n : Nat), RpAll K F vs ds → RpAll K F (vs.drop n) (ds.drop n)
  | _, _, 0, r => r
  | _, _, _ + 1, .nil => .nil
  | _, _, n + 1, .cons _ r => RpAll.drop n r
theorem RpAll.reverse : ∀ {vs : List V} {ds : List D}, RpAll K F vs ds → RpAll K F vs.reverse ds.reverse
  | _, _, .nil => .nil
  | _, _, .cons q r => by simpa using (RpAll.reverse r).append (.cons q .nil)
theorem RpAll.dropLast {vs : List V} {ds : List D} (h : RpAll K F vs ds) : RpAll K F vs.dropLast ds.dropLast := by
  rw [List.dropLast_eq_take, List.dropLast_eq_take, h.length]; exact h.take _
theorem RpAll.rep {vs : List V} {ds : List D} (h : RpAll K F vs ds) : ∀ k : Nat, RpAll K F (List.replicate k vs).flatten (List.replicate k ds).flatten
  | 0 => .nil
  | k + 1 => by
    simp only [List.replicate_succ, List.flatten_cons]
    exact h.append (RpAll.rep h k)

/-- a changing object's content -/
def MuRel (K : PySem.W.Frag) (F H : Hp) (l : Addr) : D → Prop
  | .list ds => ∃ vs, H l = some (.lst vs) ∧ RpAll K F vs ds
  | .dict ((.bool false, .none) :: kvs) => ∃ ks, H l = some (.dK ks) ∧ RpK K F ks kvs
  | .dict ((.bool true, .none) :: kvs) => ∃ ks, H l = some (.dT ks) ∧ RpT K F ks kvs
  | _ => False
theorem MuRel.mono {l : Addr} {d : D} {H' : Hp} (e : Sub F F') (k : ∀ o, H l = some o → H' l = some o) (h : MuRel K F H l d) : MuRel K F' H' l d := by
  unfold MuRel at h
  split at h
  · obtain ⟨vs, h1, h2⟩ := h; exact ⟨vs, k _ h1, h2.mono e⟩
  · obtain ⟨vs, h1, h2⟩ := h; exact ⟨vs, k _ h1, h2.mono e⟩
  · obtain ⟨vs, h1, h2⟩ := h; exact ⟨vs, k _ h1, h2.mono e⟩
  · exact h.elim
/-- what can be written -/
def Wr (o : HO) : Prop := (∃ vs, o = .lst vs) ∨ (∃ ks, o = .dK ks) ∨ ∃ ks, o = .dT ks
theorem MuRel.wr {l : Addr} {d : D} (h : MuRel K F H l d) : ∃ o, H l = some o ∧ Wr o := by
  unfold MuRel at h
  split at h
  · obtain ⟨vs, h1, h2⟩ := h; exact ⟨_, h1, .inl ⟨_, rfl⟩⟩
  · obtain ⟨vs, h1, h2⟩ := h; exact ⟨_, h1, .inr (.inl ⟨_, rfl⟩)⟩
  · obtain ⟨vs, h1, h2⟩ := h; exact ⟨_, h1, .inr (.inr ⟨_, rfl⟩)⟩
  · exact h.elim
theorem MuRel.there {l : Addr} {d : D} (h : MuRel K F H l d) : H l ≠ none := by
  obtain ⟨o, h1, _⟩ := h.wr
  rw [h1]; simp
end

/-! ### tables of code objects -/
/-- a table: at an address; a name: all its code objects bear it -/
abbrev Tb : Type := Addr × Str
def TabOk (H : Hp) (p : Tb) : Prop := LamX.TabS H p.1 p.2
def inT (T : List Tb) (a : Addr) : Prop := ∃ p ∈ T, p.1 = a
theorem TabOk.there {H : Hp} {p : Tb} (h : TabOk H p) : ∃ ps : Array Value, H p.1 = some (.tbl ps) := by
  obtain ⟨ps, h1, _⟩ := h
  exact ⟨ps, h1⟩
/-- what is not a list, a table stays as it is when a list, or nothing, is written -/
theorem TabOk.updW {H : Hp} {p : Tb} {a : Addr} {o : HO} (h : TabOk H p) (ha : H a = none ∨ ∃ w, H a = some w ∧ Wr w) : TabOk (upd H a o) p := by
  have k : ∀ b u, H b = some u → ¬ Wr u → L2.upd H a o b = some u := fun b u e n => by
    have hb : b ≠ a := fun z => by
      subst z
      rcases ha with z | ⟨w, z, hw⟩
      · rw [e] at z; cases z
      · rw [e] at z; cases z; exact n hw
    rw [upd_ne hb]; exact e
  obtain ⟨ps, h1, h2, h3⟩ := h
  refine ⟨ps, k _ _ h1 (fun z => by rcases z with ⟨_, z⟩ | ⟨_, z⟩ | ⟨_, z⟩ <;> cases z), h2, fun pos cv hc => ?_⟩
  obtain ⟨c, e1, e2⟩ := h3 pos cv hc
  exact ⟨c, e1, k _ _ e2 fun z => by unfold LamX.CodeO at z; rcases z with ⟨_, z⟩ | ⟨_, z⟩ | ⟨_, z⟩ <;> cases z⟩
theorem TabOk.upd {H : Hp} {p : Tb} {a : Addr} {o : HO} (h : TabOk H p) (ha : H a = none ∨ ∃ vs, H a = some (.lst vs)) : TabOk (upd H a o) p :=
  h.updW (ha.imp id fun ⟨vs, z⟩ => ⟨_, z, .inl ⟨vs, rfl⟩⟩)

/-! ### slots -/
def own (s : S) (σ : L2.St) (a : Addr) : Prop := ∃ (i : Nat) (b : Bool) (d : D), s[i]? = some (.mu b d) ∧ σ[i]? = some (some (.ref a))

structure Rel (K : PySem.W.Frag) (T : List Tb) (s : S) (σ : L2.St) (F H : Hp) : Prop where
  len : s.length = σ.length
  dat : ∀ (i : Nat) (d : D), s[i]? = some (.dat d) → ∃ v, σ[i]? = some (some v) ∧ Rp K F v d
  mu : ∀ (i : Nat) (b : Bool) (d : D), s[i]? = some (.mu b d) → ∃ l, σ[i]? = some (some (.ref l)) ∧ F l = none ∧ ¬ inT T l ∧ MuRel K F H l d
  scr : ∀ (i : Nat) (ns : List Int), s[i]? = some (.scr ns) → ∃ l, σ[i]? = some (some (.ref l)) ∧ SqL K F l (ns.map V.int)
  apart : ∀ (i j : Nat) (b : Bool) (d : D) (c : Bool) (e : D) (l : Addr), s[i]? = some (.mu b d) → s[j]? = some (.mu c e) → σ[i]? = some (some (.ref l)) → σ[j]? = some (some (.ref l)) → i = j
  sub : Sub F H
  tab : ∀ p ∈ T, F p.1 = none ∧ TabOk H p

/-- a tuple, no table -/
def TupU (T : List Tb) (H : Hp) (a : Addr) : Prop := (∃ vs, H a = some (.tup vs)) ∧ ¬ inT T a
/-- what has changed between two states -/
structure Go (T : List Tb) (s : S) (σ : L2.St) (F H : Hp) (s' : S) (σ' : L2.St) (F' H' : Hp) : Prop where
  ext : Sub F F'
  new : ∀ a, F' a ≠ none → F a ≠ none ∨ H a = none ∨ own s σ a ∨ TupU T H a
  keep : ∀ a o, H a = some o → ¬ own s σ a → ¬ inT T a → H' a = some o
  alive : ∀ a, H a ≠ none → H' a ≠ none
  own : ∀ a, own s' σ' a → own s σ a ∨ H a = none
  bor : ∀ (i : Nat) (d : D), s[i]? = some (.mu true d) → (∃ d', s'[i]? = some (.mu true d')) ∧ σ'[i]? = σ[i]?
theorem Go.refl {T : List Tb} {s : S} {σ : L2.St} {F H : Hp} : Go T s σ F H s σ F H :=
  ⟨Sub.refl F, fun _ h => .inl h, fun _ _ h _ _ => h, fun _ h => h, fun _ h => .inl h, fun i d h => ⟨⟨d, h⟩, rfl⟩⟩
theorem Go.tupB {T : List Tb} {s s1 : S} {σ σ1 : L2.St} {F H F1 H1 : Hp} (g : Go T s σ F H s1 σ1 F1 H1) {x : Addr} (h : TupU T H1 x) : H x = none ∨ Fs.own s σ x ∨ TupU T H x := by
  obtain ⟨⟨vs, h1⟩, h2⟩ := h
  cases q : H x with
  | none => exact .inl rfl
  | some o =>
    by_cases n : Fs.own s σ x
    · exact .inr (.inl n)
    · have := g.keep x o q n h2
      rw [h1] at this
      exact .inr (.inr ⟨⟨vs, by rw [q]; exact this.symm⟩, h2⟩)
theorem Go.trans {T : List Tb} {s s1 s2 : S} {σ σ1 σ2 : L2.St} {F H F1 H1 F2 H2 : Hp} (a : Go T s σ F H s1 σ1 F1 H1) (b : Go T s1 σ1 F1 H1 s2 σ2 F2 H2) : Go T s σ F H s2 σ2 F2 H2 where
  ext := a.ext.trans b.ext
  new := fun x h => by
    have back : H1 x = none → H x = none := fun e => by
      cases q : H x with
      | none => rfl
      | some o => exact absurd e (a.alive x (by rw [q]; simp))
    rcases b.new x h with h | h | h | h
    · exact a.new x h
    · exact .inr (.inl (back h))
    · rcases a.own x h with h | h
      · exact .inr (.inr (.inl h))
      · exact .inr (.inl h)
    · exact .inr (a.tupB h)
  keep := fun x o h n t => b.keep x o (a.keep x o h n t) (fun q => by
    rcases a.own x q with q | q
    · exact n q
    · rw [h] at q; cases q) t
  alive := fun x h => b.alive x (a.alive x h)
  own := fun x h => by
    rcases b.own x h with h | h
    · exact a.own x h
    · refine .inr ?_
      cases q : H x with
      | none => rfl
      | some o => exact absurd h (a.alive x (by rw [q]; simp))
  bor := fun i d h => by
    obtain ⟨⟨d1, h1⟩, e1⟩ := a.bor i d h
    obtain ⟨⟨d2, h2⟩, e2⟩ := b.bor i d1 h1
    exact ⟨⟨d2, h2⟩, e2.trans e1⟩

/-- a value's relation -/
def VRel (K : PySem.W.Frag) (T : List Tb) (s : S) (σ : L2.St) (F H : Hp) (w : V) : Vl → Prop
  | .dat d => Rp K F w d
  | .fr d => ∃ l, w = .ref l ∧ F l = none ∧ ¬ inT T l ∧ ¬ own s σ l ∧ MuRel K F H l d
def OpRel (K : PySem.W.Frag) (T : List Tb) (s : S) (σ : L2.St) (F H : Hp) (w : V) : Op → Prop
  | .vl v => VRel K T s σ F H w v
  | .sl i => σ[i]? = some (some w)
/-- a look at data -/
def View (K : PySem.W.Frag) (F H : Hp) (w : V) (d : D) : Prop := Rp K F w d ∨ ∃ l, w = .ref l ∧ F l = none ∧ MuRel K F H l d
section
variable {K : PySem.W.Frag} {T : List Tb} {s s' : S} {σ σ' : L2.St} {F H F' H' : Hp}
theorem Go.mu {l : Addr} {d : D} (g : Go T s σ F H s' σ' F' H') (h1 : F l = none) (h2 : ¬ inT T l) (h3 : ¬ Fs.own s σ l) (h : MuRel K F H l d) : F' l = none ∧ ¬ Fs.own s' σ' l ∧ MuRel K F' H' l d := by
  have ht := h.there
  refine ⟨?_, fun q => ?_, h.mono g.ext fun o e => g.keep l o e h3 h2⟩
  · cases e : F' l with
    | none => rfl
    | some o =>
      rcases g.new l (by rw [e]; simp) with q | q | q | q
      · exact absurd h1 q
      · exact absurd q ht
      · exact absurd q h3
      · obtain ⟨⟨vs, q1⟩, _⟩ := q
        obtain ⟨o2, q2, q3⟩ := h.wr
        rw [q1] at q2; cases q2
        rcases q3 with ⟨_, z⟩ | ⟨_, z⟩ | ⟨_, z⟩ <;> cases z
  · rcases g.own l q with q | q
    · exact h3 q
    · exact ht q
theorem VRel.go {w : V} {v : Vl} (g : Go T s σ F H s' σ' F' H') (h : VRel K T s σ F H w v) : VRel K T s' σ' F' H' w v := by
  cases v with
  | dat d => exact h.mono g.ext
  | fr d =>
    obtain ⟨l, e, h1, h2, h3, h4⟩ := h
    obtain ⟨q1, q2, q3⟩ := g.mu h1 h2 h3 h4
    exact ⟨l, e, q1, h2, q2, q3⟩
theorem OpRel.go {w : V} {o : Op} (g : Go T s σ F H s' σ F' H') (h : OpRel K T s σ F H w o) : OpRel K T s' σ F' H' w o := by
  cases o with
  | vl v => exact VRel.go g h
  | sl i => exact h
theorem VRel.view {w : V} {v : Vl} (h : VRel K T s σ F H w v) : View K F H w v.d := by
  cases v with
  | dat d => exact .inl h
  | fr d => obtain ⟨l, e, h1, _, _, h4⟩ := h; exact .inr ⟨l, e, h1, h4⟩
theorem OpRel.view {w : V} {o : Op} {d : D} (r : Rel K T s σ F H) (h : OpRel K T s σ F H w o) (hl : o.look s = some d) : View K F H w d := by
  cases o with
  | vl v =>
    have e : v.d = d := Option.some.inj hl
    rw [← e]; exact VRel.view h
  | sl i =>
    have h : σ[i]? = some (some w) := h
    unfold Op.look at hl
    simp only at hl
    split at hl
    · rename_i d' e
      cases hl
      obtain ⟨v, e1, e2⟩ := r.dat i _ e
      rw [h] at e1; cases e1; exact .inl e2
    · rename_i b d' e
      cases hl
      obtain ⟨l, e1, e2, _, e4⟩ := r.mu i _ _ e
      rw [h] at e1; cases e1; exact .inr ⟨l, rfl, e2, e4⟩
    · cases hl
/-- a list that is looked at -/
theorem View.list {w : V} {ds : List D} (hs : Sub F H) (h : View K F H w (.list ds)) : ∃ a vs, w = .ref a ∧ H a = some (.lst vs) ∧ RpAll K F vs ds := by
  rcases h with h | ⟨l, e, _, h⟩
  · cases h with
    | lst h r => exact ⟨_, _, rfl, hs _ _ h, r⟩
  · obtain ⟨vs, h1, h2⟩ := h
    exact ⟨l, vs, e, h1, h2⟩
theorem View.tup {w : V} {ds : List D} (hs : Sub F H) (h : View K F H w (.tuple ds)) : ∃ a vs, w = .ref a ∧ H a = some (.tup vs) ∧ RpAll K F vs ds := by
  rcases h with h | ⟨l, e, _, h⟩
  · cases h with
    | tup h r => exact ⟨_, _, rfl, hs _ _ h, r⟩
  · exact h.elim
/-- a plain tuple -/
theorem View.tag {w : V} {ds : List D} (hs : Sub F H) (h : View K F H w (.dict [(.none, .tuple ds)])) : ∃ a vs o, w = .ref a ∧ F a = some (.frz o (.tup vs)) ∧ H a = some (.frz o (.tup vs)) ∧ o.cls = .type "tuple" ∧ o.dict = none ∧ RpAll K F vs ds := by
  rcases h with h | ⟨l, e, _, h⟩
  · cases h with
    | tag h c d r => exact ⟨_, _, _, rfl, h, hs _ _ h, c, d, r⟩
  · exact h.elim
theorem View.int {w : V} {i : Int} (h : View K F H w (.int i)) : w = .int i := by
  rcases h with h | ⟨l, e, _, h⟩
  · cases h; rfl
  · exact h.elim
theorem View.bool {w : V} {i : Bool} (h : View K F H w (.bool i)) : w = .bl i := by
  rcases h with h | ⟨l, e, _, h⟩
  · cases h; rfl
  · exact h.elim
theorem View.str {w : V} {i : Str} (h : View K F H w (.str i)) : w = .str i := by
  rcases h with h | ⟨l, e, _, h⟩
  · cases h; rfl
  · exact h.elim
theorem View.none {w : V} (h : View K F H w .none) : w = .non := by
  rcases h with h | ⟨l, e, _, h⟩
  · cases h; rfl
  · exact h.elim
end
end Fs
set_option Elab.async false
set_option linter.all false
set_option maxRecDepth 100000
set_option maxHeartbeats 2000000
namespace Fs
open PySem PySem.Spec PyProof.Rows L2

/-! ### readings that say just what the model does -/
section
variable (X : Cx)
def SE (e : Expr) : TE := fun σ H Q => ∀ pins s, Inv X pins σ H s → wpAny (model X.prog X.w) X.A (eval e X.env) (EP X pins σ Q) X.xe s
def ST (e : Expr) : TT := fun σ H Q => ∀ pins s, Inv X pins σ H s → wpAny (model X.prog X.w) X.A (isTrue e X.env (eval e X.env)) (TP X pins σ Q) X.xe s
def SA (es : List Expr) : TA := fun σ H Q => ∀ pos pins s, Inv X pins σ H s → wpAny (model X.prog X.w) X.A (spliced (backTo pos (starEach es X.env))) (AP X pins σ Q) X.xe s
def SS (st : Stmt) : TS := fun D σ H => ∀ pins s, Inv X pins σ H s → wpAny (model X.prog X.w) X.A (exec st X.env) (SP X pins D) X.xe s
def SSs (st : List Stmt) : TS := fun D σ H => ∀ pins s, Inv X pins σ H s → wpAny (model X.prog X.w) X.A (execs st X.env) (SP X pins D) X.xe s
/-- two values to an operation -/
def U2 (f : Value → Value → Sem Value) : R2 := fun x y H Q => ∀ pins σ s v u, Inv X pins σ H s → RelV x v → RelV y u → wpAny (model X.prog X.w) X.A (f v u) (EP X pins σ Q) X.xe s
end
section
variable {X : Cx} {e : Expr} {es : List Expr} {st : Stmt} {sts : List Stmt} {σ : L2.St} {H : Hp}
theorem pe_SE : PE X e (SE X e) := ⟨fun pins s _ _ _ I h => h pins s I⟩
theorem pt_ST : PT X e (ST X e) := ⟨fun pins s _ _ _ I h => h pins s I⟩
theorem pa_SA : PA X es (SA X es) := ⟨fun pos pins s _ _ _ I h => h pos pins s I⟩
theorem ps_SS : PS X st (SS X st) := ⟨fun pins s _ _ _ I h => h pins s I⟩
theorem pss_SS : PSs X sts (SSs X sts) := ⟨fun pins s _ _ _ I h => h pins s I⟩
theorem SE.of {t : TE} {Q : VK} (h : PE X e t) (q : t σ H Q) : SE X e σ H Q := fun pins s I => h.run pins s σ H Q I q
theorem ST.of {t : TT} {Q : Bool → Hp → Prop} (h : PT X e t) (q : t σ H Q) : ST X e σ H Q := fun pins s I => h.run pins s σ H Q I q
theorem SA.of {t : TA} {Q : List V → Hp → Prop} (h : PA X es t) (q : t σ H Q) : SA X es σ H Q := fun pos pins s I => h.run pos pins s σ H Q I q
theorem SS.of {t : TS} {D : Ends} (h : PS X st t) (q : t D σ H) : SS X st D σ H := fun pins s I => h.run pins s σ H D I q
theorem SSs.of {t : TS} {D : Ends} (h : PSs X sts t) (q : t D σ H) : SSs X sts D σ H := fun pins s I => h.run pins s σ H D I q
theorem SE.imp {Q Q' : VK} (h : SE X e σ H Q) (k : ∀ v H', Q v H' → Q' v H') : SE X e σ H Q' := fun pins s I =>
  thn (h pins s I) fun _ _ ⟨v, H', I', r, q⟩ => ⟨v, H', I', r, k v H' q⟩
theorem ST.imp {Q Q' : Bool → Hp → Prop} (h : ST X e σ H Q) (k : ∀ v H', Q v H' → Q' v H') : ST X e σ H Q' := fun pins s I =>
  thn (h pins s I) fun _ _ ⟨H', I', q⟩ => ⟨H', I', k _ H' q⟩
theorem op_U2 {f : Value → Value → Sem Value} : OpR X f (U2 X f) := fun pins s σ H x y v u Q I rx ry h => h pins σ s v u I rx ry
end

/-! ### freshness -/
/-- new since, or one's own -/
def New (s : S) (σ : L2.St) (H : Hp) (a : Addr) : Prop := H a = none ∨ own s σ a
theorem Go.back {T : List Tb} {s s1 : S} {σ σ1 : L2.St} {F H F1 H1 : Hp} {a : Addr} (g : Go T s σ F H s1 σ1 F1 H1) (h : New s1 σ1 H1 a) : New s σ H a := by
  rcases h with h | h
  · left
    cases q : H a with
    | none => rfl
    | some o => exact absurd h (g.alive a (by rw [q]; simp))
  · rcases g.own a h with h | h
    · exact .inr h
    · exact .inl h
def VNew (s : S) (σ : L2.St) (H : Hp) (w : V) : Vl → Prop
  | .dat _ => True
  | .fr _ => ∀ l, w = .ref l → New s σ H l
theorem Go.vback {T : List Tb} {s s1 : S} {σ σ1 : L2.St} {F H F1 H1 : Hp} {w : V} {v : Vl} (g : Go T s σ F H s1 σ1 F1 H1) (h : VNew s1 σ1 H1 w v) : VNew s σ H w v := by
  cases v with
  | dat d => trivial
  | fr d => exact fun l e => g.back (h l e)

/-! ### what is wanted behind -/
/-- the place of the error class; the tables; the written part -/
structure Gl0 where
  K : PySem.W.Frag
  T : List Tb
  C : Addr

section
variable (G : Gl0) (EX : XK)
/-- an exception with a name -/
def PX (s : S) (σ : L2.St) (F H : Hp) (nm : D) (s' : S) : Prop := ∀ x d F' H', nm = .str x → Go G.T s σ F H s' σ F' H' → Rel G.K G.T s' σ F' H' → H' d = some (.xd [("name", .str x)]) → H d = none → EX (.ref G.C) (some d) H'
def PR {α : Type} (s : S) (σ : L2.St) (F H : Hp) (r : R α) (k : α → S → Hp → Hp → Prop) : Prop := match r with
  | .ok a s' => ∀ F' H', Go G.T s σ F H s' σ F' H' → Rel G.K G.T s' σ F' H' → k a s' F' H'
  | .exc nm s' => PX G EX s σ F H nm s'
  | .stuck => False
end
section
variable {G : Gl0} {EX : XK} {s : S} {σ : L2.St} {F H : Hp}
theorem PX.trans {s1 s' : S} {F1 H1 : Hp} {nm : D} (g : Go G.T s σ F H s1 σ F1 H1) (h : PX G EX s σ F H nm s') : PX G EX s1 σ F1 H1 nm s' := fun x d F' H' e g' r hd hn => by
  refine h x d F' H' e (g.trans g') r hd ?_
  cases q : H d with
  | none => rfl
  | some o => exact absurd hn (g.alive d (by rw [q]; simp))
theorem PR.imp {α : Type} {r : R α} {k k' : α → S → Hp → Hp → Prop} (h : PR G EX s σ F H r k) (i : ∀ a s' F' H', Go G.T s σ F H s' σ F' H' → Rel G.K G.T s' σ F' H' → k a s' F' H' → k' a s' F' H') : PR G EX s σ F H r k' := by
  cases r with
  | ok a s' => exact fun F' H' g q => i a s' F' H' g q (h F' H' g q)
  | exc nm s' => exact h
  | stuck => exact h
/-- from a later state -/
theorem PR.go {α : Type} {s1 : S} {F1 H1 : Hp} {r : R α} {k : α → S → Hp → Hp → Prop} (g : Go G.T s σ F H s1 σ F1 H1) (h : PR G EX s σ F H r k) : PR G EX s1 σ F1 H1 r k := by
  cases r with
  | ok a s' => exact fun F' H' g' q => h F' H' (g.trans g') q
  | exc nm s' => exact PX.trans g h
  | stuck => exact h
theorem PR.bind {α β : Type} {r : R α} {f : α → S → R β} {k : β → S → Hp → Hp → Prop} (h : PR G EX s σ F H (r.bind f) k) : PR G EX s σ F H r fun a s' F' H' => PR G EX s' σ F' H' (f a s') k := by
  cases r with
  | ok a s' => exact fun F' H' g q => PR.go g (show PR G EX s σ F H (f a s') k from h)
  | exc nm s' => exact h
  | stuck => exact h
theorem PR.bindB {α β : Type} {r : R α} {f : α → S → R β} {k : β → S → Hp → Hp → Prop} (h : PR G EX s σ F H (r.bind f) k) : PR G EX s σ F H r fun a s' _ _ => PR G EX s σ F H (f a s') k := by
  cases r with
  | ok a s' => exact fun F' H' g q => h
  | exc nm s' => exact h
  | stuck => exact h
theorem PR.ok {α : Type} {a : α} {s' : S} {k : α → S → Hp → Hp → Prop} (h : PR G EX s σ F H (.ok a s') k) {F' H' : Hp} (g : Go G.T s σ F H s' σ F' H') (r : Rel G.K G.T s' σ F' H') : k a s' F' H' := h F' H' g r
theorem PR.here {α : Type} {a : α} {k : α → S → Hp → Hp → Prop} (h : PR G EX s σ F H (.ok a s) k) (r : Rel G.K G.T s σ F H) : k a s F H := h F H Go.refl r
end

/-! ### new objects, slots -/
section
variable {K : PySem.W.Frag} {T : List Tb} {s : S} {σ : L2.St} {F H : Hp}
theorem Rel.fresh (r : Rel K T s σ F H) {p : Addr} (h : H p = none) : F p = none := by
  cases q : F p with
  | none => rfl
  | some o => rw [r.sub p o q] at h; cases h
theorem Rel.notab (r : Rel K T s σ F H) {p : Addr} (h : H p = none) : ¬ inT T p := fun ⟨q, hq, e⟩ => by
  obtain ⟨ps, z⟩ := (r.tab q hq).2.there
  rw [e, h] at z; cases z
theorem Rel.noown (r : Rel K T s σ F H) {p : Addr} (h : H p = none) : ¬ own s σ p := fun ⟨i, b, d, e1, e2⟩ => by
  obtain ⟨l, e3, _, _, e4⟩ := r.mu i b d e1
  rw [e2] at e3; cases e3
  exact e4.there h
/-- the heap has grown by one object that is not frozen, or frozen -/
theorem tab_new {p : Addr} {o : HO} {q : Tb} (h : H p = none) (t : TabOk H q) : TabOk (upd H p o) q := t.upd (.inl h)
theorem Go.alloc {p : Addr} {o : HO} (h : H p = none) : Go T s σ F H s σ F (upd H p o) where
  ext := Sub.refl F
  new := fun _ h => .inl h
  keep := fun a u e _ _ => Sub.new h a u e
  alive := fun a e => by
    by_cases q : a = p
    · rw [q, upd_same]; simp
    · rw [upd_ne q]; exact e
  own := fun _ h => .inl h
  bor := fun i d e => ⟨⟨d, e⟩, rfl⟩
theorem Rel.new (r : Rel K T s σ F H) {p : Addr} {o : HO} (h : H p = none) : Rel K T s σ F (upd H p o) where
  len := r.len
  dat := r.dat
  mu := fun i b d e => by
    obtain ⟨l, e1, e2, e3, e4⟩ := r.mu i b d e
    exact ⟨l, e1, e2, e3, e4.mono (Sub.refl F) fun u q => Sub.new h l u q⟩
  scr := r.scr
  apart := r.apart
  sub := r.sub.trans (Sub.new h)
  tab := fun q hq => ⟨(r.tab q hq).1, tab_new h (r.tab q hq).2⟩
/-- an object that nobody holds is frozen from now on -/
theorem Go.freeze {s0 : S} {σ0 : L2.St} {p : Addr} {o : HO} {F0 H0 : Hp} (hF : F p = none) (hn : H0 p = none ∨ Fs.own s0 σ0 p) (g : Go T s0 σ0 F0 H0 s σ F H) : Go T s0 σ0 F0 H0 s σ (upd F p o) H where
  ext := g.ext.trans (Sub.new hF)
  new := fun a e => by
    by_cases q : a = p
    · rw [q]; exact .inr (hn.imp id .inl)
    · rw [upd_ne q] at e; exact g.new a e
  keep := g.keep
  alive := g.alive
  own := g.own
  bor := g.bor
theorem Rel.freeze (r : Rel K T s σ F H) {p : Addr} {o : HO} (hH : H p = some o) (ho : ¬ own s σ p) (ht : ¬ inT T p) (hF : F p = none) : Rel K T s σ (upd F p o) H where
  len := r.len
  dat := fun i d e => by
    obtain ⟨v, e1, e2⟩ := r.dat i d e
    exact ⟨v, e1, e2.mono (Sub.new hF)⟩
  mu := fun i b d e => by
    obtain ⟨l, e1, e2, e3, e4⟩ := r.mu i b d e
    have hl : l ≠ p := fun z => ho ⟨i, b, d, e, by rw [← z]; exact e1⟩
    exact ⟨l, e1, by rw [upd_ne hl]; exact e2, e3, e4.mono (Sub.new hF) fun _ q => q⟩
  scr := fun i ns e => by
    obtain ⟨l, e1, e2⟩ := r.scr i ns e
    exact ⟨l, e1, (Sub.new hF).l e2⟩
  apart := r.apart
  sub := fun a u e => by
    by_cases q : a = p
    · rw [q, upd_same] at e; rw [q, ← e]; exact hH
    · rw [upd_ne q] at e; exact r.sub a u e
  tab := fun q hq => by
    obtain ⟨h1, h2⟩ := r.tab q hq
    refine ⟨?_, h2⟩
    rw [upd_ne (fun z => ht ⟨q, hq, z⟩)]; exact h1
/-- a new frozen object -/
theorem Go.newF (r : Rel K T s σ F H) {p : Addr} {o : HO} (h : H p = none) : Go T s σ F H s σ (upd F p o) (upd H p o) := Go.freeze (r.fresh h) (.inl h) (Go.alloc h)
theorem Rel.newF (r : Rel K T s σ F H) {p : Addr} {o : HO} (h : H p = none) : Rel K T s σ (upd F p o) (upd H p o) :=
  (r.new h).freeze upd_same (r.noown h) (r.notab h) (r.fresh h)
end
end Fs
set_option Elab.async false
set_option linter.all false
set_option maxRecDepth 100000
set_option maxHeartbeats 2000000
namespace Fs
open PySem PySem.Spec PyProof.Rows L2

theorem lim_eq : lim = sizeLine := by rw [sizeLine_eq]; rfl

section
variable {G : Gl0} {s : S} {σ : L2.St} {F H : Hp}
/-- what follows a value -/
def Done (G : Gl0) (s : S) (σ : L2.St) (F H : Hp) (r : Vl) (Q : VK) : Prop := ∀ w F' H', Go G.T s σ F H s σ F' H' → Rel G.K G.T s σ F' H' → VRel G.K G.T s σ F' H' w r → VNew s σ H w r → Q w H'
theorem Done.here {d0 : D} {Q : VK} {w : V} (h : Done G s σ F H (.dat d0) Q) (q : Rel G.K G.T s σ F H) (v : Rp G.K F w d0) : Q w H := h w F H Go.refl q v trivial
theorem Done.tup {ds : List D} {vs : List V} {Q : VK} (h : Done G s σ F H (.dat (.tuple ds)) Q) (q : Rel G.K G.T s σ F H) (r : RpAll G.K F vs ds) : ∀ p, H p = none → Q (.ref p) (upd H p (.tup vs)) := fun p hp =>
  h (.ref p) _ _ (Go.newF q hp) (q.newF hp) (.tup upd_same (r.mono (Sub.new (q.fresh hp)))) trivial
theorem Done.lst {ds : List D} {vs : List V} {Q : VK} (h : Done G s σ F H (.fr (.list ds)) Q) (q : Rel G.K G.T s σ F H) (r : RpAll G.K F vs ds) : ∀ p, H p = none → Q (.ref p) (upd H p (.lst vs)) := fun p hp =>
  h (.ref p) _ _ (Go.alloc hp) (q.new hp) ⟨p, rfl, q.fresh hp, q.notab hp, q.noown hp, vs, upd_same, r⟩ fun l e => by cases e; exact .inl hp
end

/-! ### data for the library's comparisons -/
section
variable {K : PySem.W.Frag} {F H : Hp}
/-- no dict in it -/
def NoD (d : D) : Prop := ∃ n, okD n d = true
theorem NoD.list {xs : List D} (h : NoD (.list xs)) : ∀ x ∈ xs, NoD x := by
  obtain ⟨n, h⟩ := h
  cases n with
  | zero => simp [okD] at h
  | succ n => exact fun x hx => ⟨n, List.all_eq_true.mp (show xs.all (okD n) = true from h) x hx⟩
theorem Done.tag {G : Gl0} {s : S} {σ : L2.St} {F H : Hp} {ds : List D} {vs : List V} {Q : VK} (h : Done G s σ F H (.dat (tagD ds)) Q) (q : Rel G.K G.T s σ F H) (r : RpAll G.K F vs ds) : ∀ (p : Addr) (o : Obj), H p = none → o.cls = .type "tuple" → o.dict = none → Q (.ref p) (upd H p (.frz o (.tup vs))) := fun p o hp hc hd =>
  h (.ref p) _ _ (Go.newF q hp) (q.newF hp) (.tag upd_same hc hd (r.mono (Sub.new (q.fresh hp)))) trivial
theorem NoD.tup {xs : List D} (h : NoD (.tuple xs)) : ∀ x ∈ xs, NoD x := by
  obtain ⟨n, h⟩ := h
  cases n with
  | zero => simp [okD] at h
  | succ n => exact fun x hx => ⟨n, List.all_eq_true.mp (show xs.all (okD n) = true from h) x hx⟩
theorem NoD.dict {kvs : List (D × D)} (h : NoD (.dict kvs)) : False := by
  obtain ⟨n, h⟩ := h
  cases n <;> simp [okD] at h
mutual
theorem Rp.dp (hs : Sub F H) : ∀ {v : V} {d : D}, Rp K F v d → NoD d → Dp K H v d
  | _, _, .non, _ => .non
  | _, _, .bl b, _ => .bl b
  | _, _, .int i, _ => .int i
  | _, _, .str x, _ => .str x
  | _, _, .lst h r, z => .lst (.inl (.inl (hs _ _ h))) (RpAll.dp hs r z.list)
  | _, _, .tup h r, z => .tup (.inl (.inl (hs _ _ h))) (RpAll.dp hs r z.tup)
  | _, _, .dk _ _, z => z.dict.elim
  | _, _, .dt _ _, z => z.dict.elim
  | _, _, .tag _ _ _ _, z => z.dict.elim
theorem RpAll.dp (hs : Sub F H) : ∀ {vs : List V} {ds : List D}, RpAll K F vs ds → (∀ d ∈ ds, NoD d) → DpAll K H vs ds
  | _, _, .nil, _ => .nil
  | _, _, .cons h r, z => .cons (Rp.dp hs h (z _ List.mem_cons_self)) (RpAll.dp hs r fun d hd => z d (List.mem_cons_of_mem _ hd))
end
theorem View.dp {w : V} {d : D} (hs : Sub F H) (h : View K F H w d) (z : NoD d) : Dp K H w d := by
  rcases h with h | ⟨l, e, _, h⟩
  · exact h.dp hs z
  · subst e
    cases d with
    | list ds => obtain ⟨vs, h1, h2⟩ := h; exact .lst (.inl (.inl h1)) (h2.dp hs z.list)
    | dict kvs => exact z.dict.elim
    | _ => exact h.elim
end
mutual
theorem okD_plain : ∀ (n : Nat) (d : D), okD n d = true → d.plain = true
  | _, .none, _ => rfl
  | _, .bool _, _ => rfl
  | _, .int _, _ => rfl
  | _, .str _, _ => rfl
  | n + 1, .list xs, h => by
    simp only [PyData.plain]
    exact okD_plainAll n xs (by simpa [okD] using h)
  | n + 1, .tuple xs, h => by
    simp only [PyData.plain]
    exact okD_plainAll n xs (by simpa [okD] using h)
  | 0, .list xs, h => by simp [okD] at h
  | 0, .tuple xs, h => by simp [okD] at h
  | 0, .dict _, h => by simp [okD] at h
  | _ + 1, .dict _, h => by simp [okD] at h
theorem okD_plainAll : ∀ (n : Nat) (xs : List D), (∀ x ∈ xs, okD n x = true) → PyData.plainAll xs = true
  | _, [], _ => rfl
  | n, x :: xs, h => by
    simp only [PyData.plainAll, okD_plain n x (h x List.mem_cons_self), okD_plainAll n xs (fun y hy => h y (List.mem_cons_of_mem _ hy)), Bool.and_self]
end
mutual
theorem okD_depth : ∀ (n : Nat) (d : D), okD n d = true → d.depth ≤ n
  | _, .none, _ => by simp [PyData.depth]
  | _, .bool _, _ => by simp [PyData.depth]
  | _, .int _, _ => by simp [PyData.depth]
  | _, .str _, _ => by simp [PyData.depth]
  | n + 1, .list xs, h => by
    have := okD_depthAll n xs (by simpa [okD] using h)
    simp only [PyData.depth]; omega
  | n + 1, .tuple xs, h => by
    have := okD_depthAll n xs (by simpa [okD] using h)
    simp only [PyData.depth]; omega
  | 0, .list xs, h => by simp [okD] at h
  | 0, .tuple xs, h => by simp [okD] at h
  | 0, .dict _, h => by simp [okD] at h
  | _ + 1, .dict _, h => by simp [okD] at h
theorem okD_depthAll : ∀ (n : Nat) (xs : List D), (∀ x ∈ xs, okD n x = true) → PyData.depthAll xs ≤ n
  | _, [], _ => by simp [PyData.depthAll]
  | n, x :: xs, h => by
    have h1 := okD_depth n x (h x List.mem_cons_self)
    have h2 := okD_depthAll n xs (fun y hy => h y (List.mem_cons_of_mem _ hy))
    simp only [PyData.depthAll]; omega
end

/-! ### two-place operations -/
section
variable {G : Gl0} {X : Cx} {s : S} {σ : L2.St} {F H : Hp} {x y : V}
theorem U2.of {f : Value → Value → Sem Value} {r : R2} {Q : VK} (h : OpR X f r) (q : r x y H Q) : U2 X f x y H Q := fun pins σ s v u I rx ry => h pins s σ H x y v u Q I rx ry q

theorem small_ok {i : Int} (h : small i = true) : -(2 ^ 64) < i ∧ i < 2 ^ 64 := by
  have h := of_decide_eq_true h
  omega

theorem View.tupF {K : PySem.W.Frag} {w : V} {ds : List D} (h : View K F H w (.tuple ds)) : Rp K F w (.tuple ds) := by
  rcases h with h | ⟨l, e, _, h⟩
  · exact h
  · exact h.elim
/-- a tuple times 1, and the empty one times anything: itself -/
theorem mulT_self (l : Addr) (items : Array Value) (n : Nat) (dd : Option Addr) (sl : Array (Option Value)) (x : Int) (u : Tok) (h0 : (decide (x < -(2 ^ 63)) || decide (x ≥ 2 ^ 63)) = false) (h1 : (items.isEmpty || x == 1) = true) :
    Meets (Builtin.«tuple.__mul__» ⟨[.ref l, .int x u], []⟩) (fun _ R s => s.heap.get? l = some { cls := .type "tuple", dict := dd, data := .seq items n, slots := sl } ∧ R (.ok (.ret (Value.ref l))) s) :=
  .of_wp fun prog w A R s h => by
    obtain ⟨hp, g, d, tk, os⟩ := s
    obtain ⟨hl, h⟩ := h
    have f1 := AutoSeq1.idx_int
    wp_walk using wpAny_loadPart' hl
    repeat (first
      | (refine wpAny_ite_false (decide_eq_false (by rw [h0]; exact Bool.false_ne_true)) ?_; wp_walk using wpAny_loadPart' hl)
      | (refine wpAny_ite_true (decide_eq_true h1) ?_; wp_walk using wpAny_loadPart' hl))
    all_goals exact ⟨_, rfl, h⟩
theorem mulT_nil (l : Addr) (items : Array Value) (n : Nat) (dd : Option Addr) (sl : Array (Option Value)) (x : Int) (u : Tok) (h0 : (decide (x < -(2 ^ 63)) || decide (x ≥ 2 ^ 63)) = false) (h1 : (items.isEmpty || x == 1) = false) (h2 : (decide (x ≤ 0) || items.isEmpty) = true) :
    Meets (Builtin.«tuple.__mul__» ⟨[.ref l, .int x u], []⟩) (fun _ R s => s.heap.get? l = some { cls := .type "tuple", dict := dd, data := .seq items n, slots := sl } ∧
      R (.ok (.ret (Value.ref s.heap.objs.size))) { s with heap := s.heap.push { cls := Value.type "tuple", data := Data.seq #[] }, toks := s.toks }) :=
  .of_wp fun prog w A R s h => by
    obtain ⟨hp, g, d, tk, os⟩ := s
    obtain ⟨hl, h⟩ := h
    have f1 := AutoSeq1.idx_int
    wp_walk using wpAny_loadPart' hl
    repeat (first
      | (refine wpAny_ite_false (decide_eq_false (by rw [h0]; exact Bool.false_ne_true)) ?_; wp_walk using wpAny_loadPart' hl)
      | (refine wpAny_ite_false (decide_eq_false (by rw [h1]; exact Bool.false_ne_true)) ?_; wp_walk using wpAny_loadPart' hl)
      | (refine wpAny_ite_true (decide_eq_true h2) ?_; wp_walk using wpAny_loadPart' hl))
    all_goals exact ⟨_, rfl, h⟩
theorem isTup_obj {h : Heap} {l : Addr} {its : Array Value} (p : IsTup h l its) : ∃ n dd sl, h.get? l = some { cls := .type "tuple", dict := dd, data := .seq its n, slots := sl } := by
  obtain ⟨⟨cls, dd, data, sl⟩, ho, hc, n, hd⟩ := p
  simp only at hc hd
  subst hc hd
  exact ⟨n, dd, sl, ho⟩
theorem mul_road {M : Shared → Prop} {l : Addr} {its : Array Value} {n : Nat} {dd : Option Addr} {sl : Array (Option Value)} {k : Int} {t : Tok} {st : Shared} {Q : Value → Shared → Prop} {E : Value → Shared → Prop} {pp : Program} {w : World} {A : Around}
    (ho : st.heap.get? l = some { cls := .type "tuple", dict := dd, data := .seq its n, slots := sl }) (h : wpAny (model pp w) A (PySem.call (.builtin "tuple.__mul__") [.ref l, .int k t]) Q E st) : wpAny (model pp w) A (binaryOp .Mult (.ref l) (.int k t)) Q E st :=
  wpAny_binaryOp_repeat_ref (T := "tuple") (U := "int") (by decide) ⟨_, ho, rfl⟩ (fun s' => typeIs_int s' k t) noFill_tuple_mul F.fills_int_mul F.slot_int_rmul repeat_tuple F.slot_int_index.lookup
    (call_meets F.slot_int_rmul (typeIs_int st k t) F.entry_int_rmul (F.args_int_rmul_2 _ _) (int_rmul_tuple k t l its n dd sl) ⟨ho, rfl, ⟨_, ho, rfl⟩, h⟩)
theorem mulT_ok {xs : List V} {l : Addr} {k : Int} {Q : VK} (hT : SqT X.K H l xs) (h0 : 0 ≤ k) (h1 : k ≤ 1000) (hz : xs.length * k.toNat ≤ sizeLine) (q1 : (xs = [] ∨ k = 1) → Q (.ref l) H) (q2 : ∀ p, H p = none → Q (.ref p) (upd H p (.tup (List.replicate k.toNat xs).flatten))) : U2 X (binaryOp .Mult) (.ref l) (.int k) H Q := by
  intro pins σ s v u I rx ry
  cases rx
  obtain ⟨t, rfl⟩ := ry
  obtain ⟨its, r, p, hs⟩ := I.tuple hT
  obtain ⟨n, dd, sl, ho⟩ := isTup_obj p
  have hle : its.length = xs.length := r.length.symm
  have hi : its.toArray.isEmpty = its.isEmpty := by cases its <;> rfl
  have c0 : (decide (k < -(2 ^ 63)) || decide (k ≥ 2 ^ 63)) = false := by
    rw [decide_eq_false (by omega), decide_eq_false (by omega)]; rfl
  refine mul_road (M := fun _ => True) ho ?_
  by_cases c1 : (its.toArray.isEmpty || k == 1) = true
  · refine call_meets F.slot_tuple_mul ⟨_, ho, rfl⟩ F.entry_tuple_mul (F.args_tuple_mul_2 _ _) (mulT_self l its.toArray n dd sl k t c0 c1) ⟨ho, ?_⟩
    refine ⟨.ref l, H, I, rfl, q1 ?_⟩
    rw [hi, Bool.or_eq_true] at c1
    rcases c1 with c1 | c1
    · left
      cases xs with
      | nil => rfl
      | cons a b =>
        cases its with
        | nil => simp at hle
        | cons => simp at c1
    · right; simpa using c1
  · have c1 : (its.toArray.isEmpty || k == 1) = false := by simpa using c1
    have c1' : its.isEmpty = false ∧ k ≠ 1 := by
      rw [hi] at c1
      simpa using c1
    by_cases c2 : (decide (k ≤ 0) || its.toArray.isEmpty) = true
    · have hk : k = 0 := by
        rw [hi, c1'.1, Bool.or_false] at c2
        have := of_decide_eq_true c2
        omega
      subst hk
      refine call_meets F.slot_tuple_mul ⟨_, ho, rfl⟩ F.entry_tuple_mul (F.args_tuple_mul_2 _ _) (mulT_nil l its.toArray n dd sl 0 t c0 c1 c2) ⟨ho, ?_⟩
      refine ⟨.ref s.heap.objs.size, _, I.laid (t' := s.toks) (o := .tup []) (fun b ob q => Heap.get?_push_of_some _ q) (Nat.le_refl _) ?_, rfl, q2 _ I.fresh⟩
      exact ⟨Nat.zero_le _, [], .nil, IsTup.new _ _⟩
    · have c2 : (decide (k ≤ 0) || its.toArray.isEmpty) = false := by simpa using c2
      have hm : ((its.toArray.size : Nat) : Int) * k ≤ 16777216 := by
        have e : ((its.toArray.size : Nat) : Int) * k = ((xs.length * k.toNat : Nat) : Int) := by
          rw [List.size_toArray, hle]
          push_cast
          rw [Int.toNat_of_nonneg h0]
        rw [e]
        rw [sizeLine_eq] at hz
        omega
      have flen : (List.replicate k.toNat its).flatten.length ≤ sizeLine := by
        rw [PyProof.Rows.lm_len_rep_flat, hle, Nat.mul_comm]; exact hz
      have c4 : Builtin.Tuple.tupleTooMany (((its.toArray.size : Nat) : Int) * k) = false := by
        unfold Builtin.Tuple.tupleTooMany
        rw [sizeLine_eq]
        exact decide_eq_false (by omega)
      refine call_meets F.slot_tuple_mul ⟨_, ho, rfl⟩ F.entry_tuple_mul (F.args_tuple_mul_2 _ _) (tuple_mulW l its.toArray n dd sl k t c0 c1 c2 (by omega) c4 (by rw [size_rep, List.size_toArray]; exact flen)) ⟨ho, ?_⟩
      rw [size_rep]
      refine ⟨.ref s.heap.objs.size, _, I.laid (t' := s.toks) (o := .tup (List.replicate k.toNat xs).flatten) (fun b ob q => Heap.get?_push_of_some _ q) (Nat.le_refl _) ?_, rfl, q2 _ I.fresh⟩
      exact ⟨by rw [PyProof.Rows.lm_len_rep_flat, Nat.mul_comm]; exact hz, _, r.rep k.toNat, IsTup.new _ _⟩

/-- the operator of the text -/
def bop : BOp → Operator
  | .add => .Add | .sub => .Sub | .mul => .Mult | .fdiv => .FloorDiv | .mod => .Mod | .pow => .Pow
theorem rep_one {α : Type} (xs : List α) : (List.replicate (1 : Int).toNat xs).flatten = xs := by simp
theorem rep_nil {α : Type} : ∀ k : Nat, (List.replicate k ([] : List α)).flatten = []
  | 0 => rfl
  | k + 1 => by rw [List.replicate_succ, List.flatten_cons, rep_nil k]; rfl
theorem binop_ok (hK : X.K = G.K) (op : BOp) {a b : D} {r : Vl} {Q : VK}
    (e : binop op a b = some r) (q : Rel G.K G.T s σ F H) (va : View G.K F H x a) (vb : View G.K F H y b) (d : Done G s σ F H r Q) : U2 X (binaryOp (bop op)) x y H Q := by
  unfold binop at e
  split at e
  · cases e
    have ea := va.int; have eb := vb.int
    subst ea; subst eb
    exact U2.of op_add ⟨_, _, rfl, rfl, d.here q (.int _)⟩
  · split at e
    · rename_i h
      cases e
      obtain ⟨p, vs, rfl, h1, r1⟩ := va.tup q.sub
      obtain ⟨p', ws, rfl, h2, r2⟩ := vb.tup q.sub
      refine U2.of op_catA ⟨p, p', vs, ws, rfl, rfl, .inl (.inl h1), .inl (.inl h2), by rw [r1.length, r2.length, ← lim_eq]; exact h, fun z => ?_, fun z1 z2 => ?_, fun _ _ => d.tup q (r1.append r2)⟩
      · subst z; cases r1; exact d.here q vb.tupF
      · subst z2; cases r2; exact d.here q (by rw [List.append_nil]; exact va.tupF)
    · cases e
  · split at e
    · rename_i h
      cases e
      obtain ⟨p, vs, rfl, h1, r1⟩ := va.list q.sub
      obtain ⟨p', ws, rfl, h2, r2⟩ := vb.list q.sub
      exact U2.of op_cat ⟨p, p', vs, ws, rfl, rfl, h1, h2, by rw [r1.length, r2.length, ← lim_eq]; exact h, d.lst q (r1.append r2)⟩
    · cases e
  · split at e
    · rename_i h
      cases e
      have ea := va.str; have eb := vb.str
      subst ea; subst eb
      exact U2.of op_add_str ⟨_, _, rfl, rfl, by rw [← lim_eq]; exact h, d.here q (.str _)⟩
    · cases e
  · cases e
    have ea := va.int; have eb := vb.int
    subst ea; subst eb
    exact U2.of op_sub ⟨_, _, rfl, rfl, d.here q (.int _)⟩
  · split at e
    · rename_i h
      cases e
      have ea := va.int; have eb := vb.int
      subst ea; subst eb
      refine U2.of op_mul ⟨_, _, rfl, rfl, ?_, d.here q (.int _)⟩
      rw [Bool.or_eq_true] at h
      exact h.imp small_ok small_ok
    · cases e
  · split at e
    · rename_i h
      cases e
      obtain ⟨p, vs, rfl, h1, r1⟩ := va.tup q.sub
      have eb := vb.int
      subst eb
      refine mulT_ok (.inl (.inl h1)) h.1 h.2.1 (by rw [r1.length, ← lim_eq]; exact h.2.2) (fun z => ?_) (d.tup q (r1.rep _))
      refine d.here q ?_
      rcases z with z | z
      · subst z; cases r1; rw [rep_nil]; exact va.tupF
      · subst z; rw [rep_one]; exact va.tupF
    · cases e
  · split at e
    · rename_i h
      cases e
      obtain ⟨p, vs, rfl, h1, r1⟩ := va.list q.sub
      have eb := vb.int
      subst eb
      exact U2.of op_rep ⟨p, _, vs, rfl, rfl, h1, by omega, by omega, by rw [r1.length, ← lim_eq]; exact h.2.2, d.lst q (r1.rep _)⟩
    · cases e
  · split at e
    · rename_i h
      cases e
      have ea := va.int; have eb := vb.int
      subst ea; subst eb
      exact U2.of op_fdivN ⟨_, _, rfl, rfl, h, d.here q (.int _)⟩
    · cases e
  · split at e
    · rename_i h
      cases e
      have ea := va.int; have eb := vb.int
      subst ea; subst eb
      exact U2.of op_modN ⟨_, _, rfl, rfl, h, d.here q (.int _)⟩
    · cases e
  · split at e
    · rename_i h
      cases e
      have ea := va.int; have eb := vb.int
      subst ea; subst eb
      refine U2.of op_pow ⟨_, _, rfl, rfl, ⟨h.1, by omega, ?_⟩, d.here q (.int _)⟩
      have := of_decide_eq_true h.2.2
      omega
    · cases e
  · cases e

/-! ### comparisons -/
def cop : COp → CmpOp
  | .eq => .Eq | .ne => .NotEq | .lt => .Lt | .le => .LtE | .gt => .Gt | .ge => .GtE | .inn => .In | .nin => .NotIn | .neT => .NotEq
theorem U2.data {f : Value → Value → Sem Value} {a b : D} {k : Bool} {Q : VK} (q : Rel G.K G.T s σ F H) (hK : X.K = G.K) (va : View G.K F H x a) (vb : View G.K F H y b) (za : NoD a) (zb : NoD b) (d : Done G s σ F H (.dat (.bool k)) Q)
    (h : ∀ st u v as bs (R : Value → Shared → Prop), Reads st.heap u a as → Reads st.heap v b bs → R (.bool k) st → wpAny (model X.prog X.w) X.A (f u v) R X.xe st) : U2 X f x y H Q := by
  intro pins σ' st u v I rx ry
  obtain ⟨as, r1⟩ := Dp.reads I a x u (by rw [hK]; exact va.dp q.sub za) rx
  obtain ⟨bs, r2⟩ := Dp.reads I b y v (by rw [hK]; exact vb.dp q.sub zb) ry
  exact h st u v as bs _ r1 r2 ⟨.bl k, H, I, rfl, d.here q (.bl k)⟩
theorem okDs {xs : List D} (h : xs.all (okD Fs.dp) = true) : PyData.plainAll xs = true ∧ PyData.depthAll xs ≤ Fs.dp := by
  have h' : ∀ x ∈ xs, okD Fs.dp x = true := by simpa using h
  exact ⟨okD_plainAll _ xs h', okD_depthAll _ xs h'⟩
theorem inD_ok {a : D} {xs : List D} {k : Bool} (h : inD a xs = some k) : a.plain = true ∧ a.depth ≤ Fs.dp ∧ PyData.plainAll xs = true ∧ PyData.depthAll xs ≤ Fs.dp ∧ k = xs.any fun y => PyData.eqv y a := by
  unfold inD at h
  split at h
  · rename_i c
    rw [Bool.and_eq_true] at c
    cases h
    exact ⟨okD_plain _ _ c.1, okD_depth _ _ c.1, (okDs c.2).1, (okDs c.2).2, rfl⟩
  · cases h
theorem inD_no {a : D} {xs : List D} {k : Bool} (h : inD a xs = some k) : NoD a ∧ NoD (.list xs) ∧ NoD (.tuple xs) := by
  unfold inD at h
  split at h
  · rename_i c
    rw [Bool.and_eq_true] at c
    exact ⟨⟨_, c.1⟩, ⟨Fs.dp + 1, c.2⟩, ⟨Fs.dp + 1, c.2⟩⟩
  · cases h
theorem cmp_ok {n : Nat} (hr : Room n X.A) (hK : X.K = G.K) (op : COp) {a b : D} {k : Bool} {Q : VK}
    (e : cmpD op a b = some k) (q : Rel G.K G.T s σ F H) (va : View G.K F H x a) (vb : View G.K F H y b) (d : Done G s σ F H (.dat (.bool k)) Q) : U2 X (compareOp (cop op)) x y H Q := by
  have hu := hr.units
  have hdp : Fs.dp = 12 := rfl
  unfold cmpD at e
  split at e
  · split at e
    · rename_i c
      rw [Bool.and_eq_true] at c
      cases e
      have z1 := okD_depth _ _ c.1
      refine U2.data q hK va vb ⟨_, c.1⟩ ⟨_, c.2⟩ d fun st u v as bs R r1 r2 hR => SeqAt.eq_plain r1 r2 (okD_plain _ _ c.1) (okD_plain _ _ c.2) ?_ hR
      omega
    · cases e
  · split at e
    · rename_i c
      rw [Bool.and_eq_true] at c
      cases e
      have z1 := okD_depth _ _ c.1
      refine U2.data q hK va vb ⟨_, c.1⟩ ⟨_, c.2⟩ d fun st u v as bs R r1 r2 hR => SeqAt.ne_plain r1 r2 (okD_plain _ _ c.1) (okD_plain _ _ c.2) ?_ hR
      omega
    · cases e
  · unfold ltD at e
    split at e
    · cases e
      have ea := va.int; have eb := vb.int
      subst ea; subst eb
      exact U2.of op_lt ⟨_, _, rfl, rfl, d.here q (.bl _)⟩
    · split at e
      · rename_i c
        simp only [Bool.and_eq_true] at c
        cases e
        have z1 := okD_depth _ _ c.1.1
        refine U2.data q hK va vb ⟨_, c.1.1⟩ ⟨_, c.1.2⟩ d fun st u v as bs R r1 r2 hR => ?_
        exact PySem.W.rcLt_alike _ _ X.A st u v as bs r1 r2 c.2 (by simp) (by omega) X.prog X.w X.xe R hR
      · cases e
    · cases e
  · cases e
    have ea := va.int; have eb := vb.int
    subst ea; subst eb
    exact U2.of op_le ⟨_, _, rfl, rfl, d.here q (.bl _)⟩
  · cases e
    have ea := va.int; have eb := vb.int
    subst ea; subst eb
    exact U2.of op_gt ⟨_, _, rfl, rfl, d.here q (.bl _)⟩
  · cases e
    have ea := va.int; have eb := vb.int
    subst ea; subst eb
    exact U2.of op_ge ⟨_, _, rfl, rfl, d.here q (.bl _)⟩
  · obtain ⟨c1, c2, c3, c4, rfl⟩ := inD_ok e
    exact U2.data q hK va vb (inD_no e).1 (inD_no e).2.1 d fun st u v as bs R r1 r2 hR => SeqAt.in_list_data r2 r1 c3 c1 (by omega) hR
  · obtain ⟨c1, c2, c3, c4, rfl⟩ := inD_ok e
    exact U2.data q hK va vb (inD_no e).1 (inD_no e).2.2 d fun st u v as bs R r1 r2 hR => SeqAt.in_tuple_data r2 r1 c3 c1 (by omega) hR
  · obtain ⟨k', e', rfl⟩ := Option.map_eq_some_iff.mp e
    obtain ⟨c1, c2, c3, c4, rfl⟩ := inD_ok e'
    exact U2.data q hK va vb (inD_no e').1 (inD_no e').2.1 d fun st u v as bs R r1 r2 hR => SeqAt.notIn_list_data r2 r1 c3 c1 (by omega) hR
  · obtain ⟨k', e', rfl⟩ := Option.map_eq_some_iff.mp e
    obtain ⟨c1, c2, c3, c4, rfl⟩ := inD_ok e'
    exact U2.data q hK va vb (inD_no e').1 (inD_no e').2.2 d fun st u v as bs R r1 r2 hR => SeqAt.notIn_tuple_data r2 r1 c3 c1 (by omega) hR
  · rename_i xs
    unfold neT at e
    split at e
    · rename_i c
      rw [Bool.and_eq_true] at c
      cases e
      have z1 := okD_depth _ _ c.1
      have za : NoD (.tuple xs) := ⟨_, c.1⟩
      obtain ⟨p, vs, o, rfl, _, h1, _, _, hr1⟩ := va.tag q.sub
      intro pins σ' st u v I rx ry
      obtain ⟨as, r1⟩ := Dp.reads I (.tuple xs) (.ref p) u (by rw [hK]; exact .tup (.inl (.inr ⟨o, h1⟩)) (RpAll.dp q.sub hr1 za.tup)) rx
      obtain ⟨bs, r2⟩ := Dp.reads I b y v (by rw [hK]; exact vb.dp q.sub ⟨_, c.2⟩) ry
      exact SeqAt.ne_plain r1 r2 (okD_plain _ _ c.1) (okD_plain _ _ c.2) (by omega) ⟨.bl _, H, I, rfl, d.here q (.bl _)⟩
    · cases e
  · cases e
end
end Fs
set_option Elab.async false
set_option linter.all false
set_option maxRecDepth 100000
set_option maxHeartbeats 2000000
namespace Fs
open PySem PySem.Spec PyProof.Rows L2

/-! ### subscripts, slices -/
section
variable {G : Gl0} {X : Cx} {s : S} {σ : L2.St} {F H : Hp} {x y : V}
/-- a look at data that may be the script -/
def ViewS (K : PySem.W.Frag) (F H : Hp) (w : V) (d : D) : Prop := View K F H w d ∨ ∃ (l : Addr) (ns : List Int), w = .ref l ∧ d = .list (ns.map .int) ∧ SqL K F l (ns.map V.int)
theorem rp_ints {K : PySem.W.Frag} : ∀ ns : List Int, RpAll K F (ns.map V.int) (ns.map .int)
  | [] => .nil
  | n :: ns => .cons (.int n) (rp_ints ns)
theorem ViewS.list {K : PySem.W.Frag} {w : V} {ds : List D} (hs : Sub F H) (h : ViewS K F H w (.list ds)) : ∃ a vs, w = .ref a ∧ SqL K H a vs ∧ RpAll K F vs ds := by
  rcases h with h | ⟨l, ns, rfl, e, h⟩
  · obtain ⟨a, vs, e, h1, h2⟩ := h.list hs
    exact ⟨a, vs, e, .inl (.inl h1), h2⟩
  · cases e
    exact ⟨l, _, rfl, hs.l h, rp_ints ns⟩
theorem ViewS.view {K : PySem.W.Frag} {w : V} {d : D} (h : ViewS K F H w d) (hn : ∀ ds, d ≠ .list ds) : View K F H w d := by
  rcases h with h | ⟨l, ns, _, e, _⟩
  · exact h
  · exact absurd e (hn _)
theorem OpRel.viewS {K : PySem.W.Frag} {T : List Tb} {w : V} {o : Op} {d : D} (r : Rel K T s σ F H) (h : OpRel K T s σ F H w o) (hl : o.lookS s = some d) : ViewS K F H w d := by
  cases o with
  | vl v => exact .inl (OpRel.view r h hl)
  | sl i =>
    unfold Op.lookS at hl
    simp only at hl
    split at hl
    · rename_i d' e
      cases hl
      exact .inl (OpRel.view r h (by unfold Op.look; simp only [e]))
    · rename_i b d' e
      cases hl
      exact .inl (OpRel.view r h (by unfold Op.look; simp only [e]))
    · rename_i ns e
      cases hl
      obtain ⟨l, e1, e2⟩ := r.scr i ns e
      have h : σ[i]? = some (some w) := h
      rw [h] at e1; cases e1
      exact .inr ⟨l, ns, rfl, rfl, e2⟩
    · cases hl
theorem at_atI {K : PySem.W.Frag} {vs : List V} {ds : List D} {i : Int} {d : D} (r : RpAll K F vs ds) (e : at? ds i = some d) : ∃ v, atI vs i = some v ∧ Rp K F v d := by
  unfold at? at e
  have hl := r.length
  have key : ∀ j : Nat, ds[j]? = some d → ixN vs.length i = some j → ∃ v, atI vs i = some v ∧ Rp K F v d := fun j h1 h2 => by
    obtain ⟨v, e1, e2⟩ := r.get h1
    exact ⟨v, by unfold atI; rw [h2]; exact e1, e2⟩
  split at e
  · rename_i h
    obtain ⟨hlt, _⟩ := List.getElem?_eq_some_iff.mp e
    refine key _ e ?_
    unfold ixN
    rw [if_pos h, if_pos (by omega)]
  · rename_i h
    split at e
    · rename_i h2
      obtain ⟨hlt, _⟩ := List.getElem?_eq_some_iff.mp e
      refine key _ e ?_
      unfold ixN
      rw [if_neg h, if_pos (by omega), hl]
    · cases e
/-- x[y] -/
def rIxD (K : PySem.W.Frag) : R2 := fun x y H Q => rIxL K x y H Q ∨ rIxT K x y H Q
theorem ix_D : IxR X (rIxD X.K) := ix_list.or ix_tup
theorem idx_ok (hK : X.K = G.K) {a b d : D} {Q : VK} (e : idxD a b = some d) (q : Rel G.K G.T s σ F H) (va : ViewS G.K F H x a) (vb : ViewS G.K F H y b) (k : Done G s σ F H (.dat d) Q) : rIxD X.K x y H Q := by
  unfold idxD at e
  split at e
  · obtain ⟨p, vs, rfl, h1, r1⟩ := va.list q.sub
    have eb := (vb.view (by intro ds z; cases z)).int
    subst eb
    obtain ⟨v, e1, e2⟩ := at_atI r1 e
    rw [hK]
    exact .inl ⟨p, vs, _, v, rfl, rfl, h1, e1, k.here q e2⟩
  · obtain ⟨p, vs, rfl, h1, r1⟩ := (va.view (by intro ds z; cases z)).tup q.sub
    have eb := (vb.view (by intro ds z; cases z)).int
    subst eb
    obtain ⟨v, e1, e2⟩ := at_atI r1 e
    rw [hK]
    exact .inr ⟨p, vs, _, v, rfl, rfl, .inl (.inl h1), e1, k.here q e2⟩
  · obtain ⟨p, vs, o, rfl, _, h1, _, _, r1⟩ := (va.view (by intro ds z; cases z)).tag q.sub
    have eb := (vb.view (by intro ds z; cases z)).int
    subst eb
    obtain ⟨v, e1, e2⟩ := at_atI r1 e
    rw [hK]
    exact .inr ⟨p, vs, _, v, rfl, rfl, .inl (.inr ⟨o, h1⟩), e1, k.here q e2⟩
  · cases e
theorem sIx_eq (n d : Nat) (o : Option Int) : sIx n d o = HT.sIx n d o := by cases o <;> rfl
theorem cut_all {α : Type} (xs : List α) {lo hi : Option Int} (h : HT.sIx xs.length 0 lo = 0 ∧ HT.sIx xs.length xs.length hi = xs.length) : cut xs lo hi = xs := by
  unfold cut
  rw [sIx_eq, sIx_eq, h.1, h.2]
  simp
theorem cut_cutV (xs : List V) (lo hi : Option Int) : cutV xs lo hi = cut xs lo hi := by
  unfold cut cutV
  rw [sIx_eq, sIx_eq]
theorem RpAll.cut {K : PySem.W.Frag} {vs : List V} {ds : List D} (r : RpAll K F vs ds) (lo hi : Option Int) : RpAll K F (cutV vs lo hi) (Fs.cut ds lo hi) := by
  rw [cut_cutV]
  unfold Fs.cut
  rw [r.length]
  exact (r.drop _).take _
def rSlD (K : PySem.W.Frag) : V → Option Int → Option Int → Hp → VK → Prop := fun x lo hi H Q => rSlL K x lo hi H Q ∨ rSlA K x lo hi H Q
theorem sl_D : SlR X (rSlD X.K) := sl_list.or sl_tupA
theorem slc_ok (hK : X.K = G.K) {a : D} {lo hi : Option Int} {r : Vl} {Q : VK} (e : slcD a lo hi = some r) (q : Rel G.K G.T s σ F H) (va : ViewS G.K F H x a) (k : Done G s σ F H r Q) : rSlD X.K x lo hi H Q := by
  unfold slcD at e
  split at e
  · cases e
    obtain ⟨p, vs, rfl, h1, r1⟩ := va.list q.sub
    rw [hK]
    exact .inl ⟨p, vs, rfl, h1, k.lst q (r1.cut _ _)⟩
  · cases e
    have va := va.view (by intro ds z; cases z)
    obtain ⟨p, vs, rfl, h1, r1⟩ := va.tup q.sub
    rw [hK]
    refine .inr ⟨p, vs, rfl, .inl (.inl h1), fun z => k.here q ?_, fun _ => k.tup q (r1.cut _ _)⟩
    rw [r1.length] at z
    rw [cut_all _ z]
    exact va.tupF
  · cases e

/-! ### built-in functions by values -/
def UC (X : Cx) (f : Value) : List V → Hp → VK → Prop := fun vs H Q => ∀ pins σ s us, Inv X pins σ H s → Vals vs us → wpAny (model X.prog X.w) X.A (PySem.call f us) (EP X pins σ Q) X.xe s
theorem call_UC {f : Value} : CallR X f (UC X f) := fun pins s σ H xs us Q I r h => h pins σ s us I r
theorem UC.of {f : Value} {r : List V → Hp → VK → Prop} {vs : List V} {Q : VK} (h : CallR X f r) (q : r vs H Q) : UC X f vs H Q := fun pins σ s us I rv => h pins s σ H vs us Q I rv q
inductive Views (K : PySem.W.Frag) (F H : Hp) : List V → List D → Prop
  | nil : Views K F H [] []
  | cons {w : V} {ws : List V} {d : D} {ds : List D} : View K F H w d → Views K F H ws ds → Views K F H (w :: ws) (d :: ds)
theorem Views.one {K : PySem.W.Frag} {ws : List V} {d : D} (h : Views K F H ws [d]) : ∃ w, ws = [w] ∧ View K F H w d := by
  cases h with
  | cons h t => cases t; exact ⟨_, rfl, h⟩
theorem Views.two {K : PySem.W.Frag} {ws : List V} {d e : D} (h : Views K F H ws [d, e]) : ∃ w u, ws = [w, u] ∧ View K F H w d ∧ View K F H u e := by
  cases h with
  | cons h t => cases t with
    | cons h2 t2 => cases t2; exact ⟨_, _, rfl, h, h2⟩
theorem prim_len_dict {kvs : List (D × D)} {r : Vl} (e : prim .len [.dict kvs] = some r) : ∃ ds, kvs = [(.none, .tuple ds)] ∧ r = .dat (.int (ds.length : Nat)) := by
  unfold prim at e
  split at e <;> simp_all
theorem len_ok (hK : X.K = G.K) {a : D} {r : Vl} {Q : VK} (e : prim .len [a] = some r) (q : Rel G.K G.T s σ F H) (va : ViewS G.K F H x a) (k : Done G s σ F H r Q) : UC X (.builtin "len") [x] H Q := by
  refine UC.of call_len ?_
  cases a with
  | list ds =>
    cases e
    obtain ⟨p, vs, rfl, h1, r1⟩ := va.list q.sub
    refine ⟨_, vs.length, rfl, .inl ⟨vs, by rw [hK]; exact h1, rfl⟩, k.here q ?_⟩
    rw [r1.length]; exact .int _
  | tuple ds =>
    cases e
    obtain ⟨p, vs, rfl, h1, r1⟩ := (va.view (by intro ds z; cases z)).tup q.sub
    refine ⟨_, vs.length, rfl, .inr ⟨vs, .inl (.inl h1), rfl⟩, k.here q ?_⟩
    rw [r1.length]; exact .int _
  | str z =>
    simp only [prim] at e
    split at e
    · rename_i h
      cases e
      have ez := (va.view (by intro ds z; cases z)).str
      subst ez
      exact ⟨_, _, rfl, ⟨by rw [← lim_eq]; exact h, rfl⟩, k.here q (.int _)⟩
    · cases e
  | dict kvs =>
    obtain ⟨ds, rfl, rfl⟩ := prim_len_dict e
    obtain ⟨p, vs, o, rfl, _, h1, _, _, r1⟩ := (va.view (by intro ds z; cases z)).tag q.sub
    refine ⟨_, vs.length, rfl, .inr ⟨vs, .inl (.inr ⟨o, h1⟩), rfl⟩, k.here q ?_⟩
    rw [r1.length]; exact .int _
  | _ => simp [prim] at e
theorem bools_ok {K : PySem.W.Frag} : ∀ {ds : List D} {bs : List Bool} {vs : List V}, bools ds = some bs → RpAll K F vs ds → vs = bs.map V.bl
  | [], bs, vs, e, r => by
    cases r
    have e : some [] = some bs := e
    cases e; rfl
  | .bool b :: ds, bs, vs, e, r => by
    have e : (bools ds).map (b :: ·) = some bs := e
    obtain ⟨bs', e1, e2⟩ := Option.map_eq_some_iff.mp e
    subst e2
    cases r with
    | cons h t =>
      cases h
      rw [bools_ok e1 t]; rfl
  | .none :: ds, bs, vs, e, r => by simp [bools] at e
  | .int _ :: ds, bs, vs, e, r => by simp [bools] at e
  | .str _ :: ds, bs, vs, e, r => by simp [bools] at e
  | .list _ :: ds, bs, vs, e, r => by simp [bools] at e
  | .tuple _ :: ds, bs, vs, e, r => by simp [bools] at e
  | .dict _ :: ds, bs, vs, e, r => by simp [bools] at e
end
end Fs
set_option Elab.async false
set_option linter.all false
set_option maxRecDepth 100000
set_option maxHeartbeats 2000000
namespace Fs
open PySem PySem.Spec PyProof.Rows L2

/-! ### what an expression is to do -/
section
variable (G : Gl0) (EX : XK) (X : Cx)
def KV (s : S) (σ : L2.St) (H : Hp) (Q : VK) : Vl → S → Hp → Hp → Prop := fun v s' F' H' => ∀ w, VRel G.K G.T s' σ F' H' w v → VNew s σ H w v → Q w H'
/-- x does what r says -/
def HR (r : S → R Vl) (x : Expr) : Prop := ∀ s σ F H Q, Rel G.K G.T s σ F H → PR G EX s σ F H (r s) (KV G s σ H Q) → SE X x σ H Q
def ONew (s : S) (σ : L2.St) (H : Hp) (w : V) : Op → Prop
  | .vl v => VNew s σ H w v
  | .sl _ => True
def KO (s : S) (σ : L2.St) (H : Hp) (Q : VK) : Op → S → Hp → Hp → Prop := fun o s' F' H' => ∀ w, OpRel G.K G.T s' σ F' H' w o → ONew s σ H w o → Q w H'
def HP (r : S → R Op) (x : Expr) : Prop := ∀ s σ F H Q, Rel G.K G.T s σ F H → PR G EX s σ F H (r s) (KO G s σ H Q) → SE X x σ H Q
/-- a test -/
def HT (r : S → R Bool) (x : Expr) : Prop := ∀ s σ F H Q, Rel G.K G.T s σ F H → PR G EX s σ F H (r s) (fun b _ _ H' => Q b H') → ST X x σ H Q
inductive OpsRel (K : PySem.W.Frag) (T : List Tb) (s : S) (σ : L2.St) (F H : Hp) : List V → List Op → Prop
  | nil : OpsRel K T s σ F H [] []
  | cons {w : V} {ws : List V} {o : Op} {os : List Op} : OpRel K T s σ F H w o → OpsRel K T s σ F H ws os → OpsRel K T s σ F H (w :: ws) (o :: os)
/-- the addresses of the new objects -/
def frA : List V → List Op → List Addr
  | .ref l :: ws, .vl (.fr _) :: os => l :: frA ws os
  | _ :: ws, _ :: os => frA ws os
  | _, _ => []
structure OpsNew (s : S) (σ : L2.St) (H : Hp) (ws : List V) (os : List Op) : Prop where
  nd : (frA ws os).Nodup
  new : ∀ l ∈ frA ws os, New s σ H l
def KOs (s : S) (σ : L2.St) (H : Hp) (Q : List V → Hp → Prop) : List Op → S → Hp → Hp → Prop := fun os s' F' H' => ∀ ws, OpsRel G.K G.T s' σ F' H' ws os → OpsNew s σ H ws os → Q ws H'
def HPs (r : S → R (List Op)) (xs : List Expr) : Prop := ∀ s σ F H Q, Rel G.K G.T s σ F H → PR G EX s σ F H (r s) (KOs G s σ H Q) → SA X xs σ H Q
def KDs (s : S) (σ : L2.St) (F H : Hp) (Q : List V → Hp → Prop) : List D → S → Hp → Hp → Prop := fun ds s' F' H' => ∀ ws F2, Go G.T s σ F H s' σ F2 H' → Rel G.K G.T s' σ F2 H' → RpAll G.K F2 ws ds → Q ws H'
def HDs (r : S → R (List D)) (xs : List Expr) : Prop := ∀ s σ F H Q, Rel G.K G.T s σ F H → PR G EX s σ F H (r s) (KDs G s σ F H Q) → SA X xs σ H Q
/-- a starred item -/
def isStar : Expr → Bool
  | .Starred _ _ => true
  | _ => false
end
section
variable {G : Gl0} {EX : XK} {X : Cx} {s s' : S} {σ : L2.St} {F H F' H' : Hp}
theorem starEach_cons {x : Expr} {xs : List Expr} (h : isStar x = false) (env : Env) : starEach (x :: xs) env = (false, eval x env) :: starEach xs env := by
  cases x <;> first | rfl | simp [isStar] at h
theorem OpsRel.go (g : Go G.T s σ F H s' σ F' H') : ∀ {ws : List V} {os : List Op}, OpsRel G.K G.T s σ F H ws os → OpsRel G.K G.T s' σ F' H' ws os
  | _, _, .nil => .nil
  | _, _, .cons h t => .cons (h.go g) (t.go g)
theorem frA_vl {w : V} {v : Vl} {ws : List V} {os : List Op} : frA (w :: ws) (.vl v :: os) = frA [w] [.vl v] ++ frA ws os := by
  cases v with
  | dat d => cases w <;> rfl
  | fr d => cases w <;> rfl
theorem frA_sl {w : V} {i : Nat} {ws : List V} {os : List Op} : frA (w :: ws) (.sl i :: os) = frA ws os := by
  cases w <;> rfl
/-- data from a value: a new object is frozen -/
theorem settle {s0 : S} {σ0 : L2.St} {F0 H0 : Hp} {w : V} {v : Vl} (g : Go G.T s0 σ0 F0 H0 s σ F H) (r : Rel G.K G.T s σ F H) (h : VRel G.K G.T s σ F H w v) (n : VNew s0 σ0 H0 w v) :
    ∃ F1, Go G.T s0 σ0 F0 H0 s σ F1 H ∧ Rel G.K G.T s σ F1 H ∧ Rp G.K F1 w v.d ∧ Sub F F1 := by
  cases v with
  | dat d => exact ⟨F, g, r, h, Sub.refl F⟩
  | fr d =>
    obtain ⟨l, rfl, h1, h2, h3, h4⟩ := h
    unfold MuRel at h4
    split at h4
    · obtain ⟨vs, h5, h6⟩ := h4
      exact ⟨upd F l (.lst vs), g.freeze h1 (n l rfl), r.freeze h5 h3 h2 h1, .lst upd_same (h6.mono (Sub.new h1)), Sub.new h1⟩
    · obtain ⟨vs, h5, h6⟩ := h4
      exact ⟨upd F l (.dK vs), g.freeze h1 (n l rfl), r.freeze h5 h3 h2 h1, .dk upd_same (h6.mono (Sub.new h1)), Sub.new h1⟩
    · obtain ⟨vs, h5, h6⟩ := h4
      exact ⟨upd F l (.dT vs), g.freeze h1 (n l rfl), r.freeze h5 h3 h2 h1, .dt upd_same (h6.mono (Sub.new h1)), Sub.new h1⟩
    · exact h4.elim
theorem KV.mono {s1 : S} {F1 H1 : Hp} {Q : VK} {v : Vl} (g : Go G.T s σ F H s1 σ F1 H1) (h : KV G s σ H Q v s' F' H') : KV G s1 σ H1 Q v s' F' H' := fun w a b => h w a (g.vback b)
/-- the rest of a computation, from a later state -/
theorem PR.next {s1 : S} {F1 H1 : Hp} {r : R Vl} {Q : VK} (g : Go G.T s σ F H s1 σ F1 H1) (h : PR G EX s σ F H r (KV G s σ H Q)) : PR G EX s1 σ F1 H1 r (KV G s1 σ H1 Q) :=
  (h.go g).imp fun _ _ _ _ _ _ k => k.mono g
theorem HR.run {r : S → R Vl} {x : Expr} {β : Type} {f : Vl → S → R β} {k : β → S → Hp → Hp → Prop} {Q : VK} (h : HR G EX X r x) (q : Rel G.K G.T s σ F H) (p : PR G EX s σ F H ((r s).bind f) k)
    (hq : ∀ v s1 F1 H1 w, Go G.T s σ F H s1 σ F1 H1 → Rel G.K G.T s1 σ F1 H1 → VRel G.K G.T s1 σ F1 H1 w v → VNew s σ H w v → PR G EX s σ F H (f v s1) k → Q w H1) : SE X x σ H Q :=
  h s σ F H Q q (p.bindB.imp fun v s1 F1 H1 g r k w a b => hq v s1 F1 H1 w g r a b k)
theorem HR.last {r : S → R Vl} {x : Expr} {Q : VK} (h : HR G EX X r x) (q : Rel G.K G.T s σ F H) (p : PR G EX s σ F H (r s) (KV G s σ H Q)) : SE X x σ H Q := h s σ F H Q q p
theorem HP.run {r : S → R Op} {x : Expr} {β : Type} {f : Op → S → R β} {k : β → S → Hp → Hp → Prop} {Q : VK} (h : HP G EX X r x) (q : Rel G.K G.T s σ F H) (p : PR G EX s σ F H ((r s).bind f) k)
    (hq : ∀ v s1 F1 H1 w, Go G.T s σ F H s1 σ F1 H1 → Rel G.K G.T s1 σ F1 H1 → OpRel G.K G.T s1 σ F1 H1 w v → ONew s σ H w v → PR G EX s σ F H (f v s1) k → Q w H1) : SE X x σ H Q :=
  h s σ F H Q q (p.bindB.imp fun v s1 F1 H1 g r k w a b => hq v s1 F1 H1 w g r a b k)
theorem HT.run {r : S → R Bool} {x : Expr} {β : Type} {f : Bool → S → R β} {k : β → S → Hp → Hp → Prop} {Q : Bool → Hp → Prop} (h : HT G EX X r x) (q : Rel G.K G.T s σ F H) (p : PR G EX s σ F H ((r s).bind f) k)
    (hq : ∀ b s1 F1 H1, Go G.T s σ F H s1 σ F1 H1 → Rel G.K G.T s1 σ F1 H1 → PR G EX s σ F H (f b s1) k → Q b H1) : ST X x σ H Q :=
  h s σ F H Q q (p.bindB.imp fun v s1 F1 H1 g r k => hq v s1 F1 H1 g r k)
/-- an operand -/
theorem ho_of {f : E → S → R Vl} {e : E} {x : Expr} (he : ∀ i, e ≠ .ref i) (h : HR G EX X (f e) x) : HP G EX X (opd f e) x := by
  intro s σ F H Q q p
  have e1 : opd f e s = (f e s).bind fun v s => .ok (.vl v) s := by
    unfold opd
    split
    · rename_i i; exact absurd rfl (he i)
    · rfl
  rw [e1] at p
  exact h.run q p fun v s1 F1 H1 w g r a b k => (k.ok g r) w a b
theorem live_some (q : Rel G.K G.T s σ F H) {i : Nat} (h : live s i = true) : ∃ v, σ[i]? = some (some v) := by
  unfold live at h
  split at h
  · rename_i d e; obtain ⟨v, e, _⟩ := q.dat i d e; exact ⟨v, e⟩
  · rename_i b d e; obtain ⟨v, e, _⟩ := q.mu i b d e; exact ⟨_, e⟩
  · rename_i ns e; obtain ⟨v, e, _⟩ := q.scr i ns e; exact ⟨_, e⟩
  · cases h
theorem ho_ref {f : E → S → R Vl} {i : Nat} {x : Str} {pos : Pos} (hN : X.N[i]? = some x) (hv : Vis X.env.scope x) (hd : (x == ("__debug__" : Str)) = false) (hcd : (x == ("__classdict__" : Str)) = false) : HP G EX X (opd f (.ref i)) (.Name x pos) := by
  intro s σ F H Q q p
  have e1 : opd f (.ref i) s = if live s i then .ok (.sl i) s else .stuck := rfl
  rw [e1] at p
  split at p
  · rename_i h
    obtain ⟨v, e⟩ := live_some q h
    exact SE.of (pe_var hN hv hd hcd) ⟨v, e, (p.here q) v e trivial⟩
  · exact p.elim
theorem hos_nil {f : E → S → R Vl} : HPs G EX X (opds f []) [] := fun s σ F H Q q p => SA.of pa_nil ((p.here q) [] .nil ⟨.nil, fun _ h => nomatch h⟩)
theorem hos_cons {f : E → S → R Vl} {e : E} {es : List E} {x : Expr} {xs : List Expr} (h1 : HP G EX X (opd f e) x) (h2 : HPs G EX X (opds f es) xs) (hs : isStar x = false) : HPs G EX X (opds f (e :: es)) (x :: xs) := by
  intro s σ F H Q q p
  refine SA.of (pa_cons pe_SE pa_SA (starEach_cons hs _)) (h1.run q p fun o s1 F1 H1 w g r a b k => ?_)
  refine h2 s1 σ F1 H1 _ r ((k.bindB.go g).imp fun os s2 F2 H2 g2 r2 k2 ws ha hn => ?_)
  refine (k2.ok (g.trans g2) r2) (w :: ws) (.cons (a.go g2) ha) ?_
  have hn2 : ∀ l ∈ frA ws os, New s σ H l := fun l hl => g.back (hn.new l hl)
  cases o with
  | sl i => exact ⟨by rw [frA_sl]; exact hn.nd, by rw [frA_sl]; exact hn2⟩
  | vl v =>
    have hx : ∀ l, l ∈ frA [w] [.vl v] → w = .ref l ∧ (∃ d, v = .fr d) := fun l hl => by
      cases v with
      | dat d => cases w <;> simp [frA] at hl
      | fr d => cases w <;> simp [frA] at hl; exact ⟨by rw [hl], d, rfl⟩
    refine ⟨?_, ?_⟩
    · rw [frA_vl, List.nodup_append]
      refine ⟨by cases v <;> cases w <;> simp [frA], hn.nd, fun l hl l' hl' z => ?_⟩
      subst z
      obtain ⟨e1, d, e2⟩ := hx l hl
      subst e1 e2
      obtain ⟨l2, e3, h3, h4, h5, h6⟩ := a
      cases e3
      rcases hn.new l hl' with z | z
      · exact h6.there z
      · exact h5 z
    · rw [frA_vl]
      intro l hl
      rcases List.mem_append.mp hl with hl | hl
      · obtain ⟨e1, d, e2⟩ := hx l hl
        subst e1 e2
        exact b l rfl
      · exact hn2 l hl
theorem hds_nil {f : E → S → R Vl} : HDs G EX X (evs f []) [] := fun s σ F H Q q p => SA.of pa_nil ((p.here q) [] F Go.refl q .nil)
theorem hds_cons {f : E → S → R Vl} {e : E} {es : List E} {x : Expr} {xs : List Expr} (h1 : HR G EX X (f e) x) (h2 : HDs G EX X (evs f es) xs) (hs : isStar x = false) : HDs G EX X (evs f (e :: es)) (x :: xs) := by
  intro s σ F H Q q p
  refine SA.of (pa_cons pe_SE pa_SA (starEach_cons hs _)) (h1.run q p fun v s1 F1 H1 w g r a b k => ?_)
  obtain ⟨F2, g2, r2, hp, _⟩ := settle g r a b
  refine h2 s1 σ F2 H1 _ r2 ((k.bindB.go g2).imp fun ds s3 F3 H3 g3 r3 k3 ws F4 g4 r4 ha => ?_)
  exact (k3.ok (g2.trans g4) r4) (w :: ws) F4 (g2.trans g4) r4 (.cons (hp.mono g4.ext) ha)
end
end Fs
set_option Elab.async false
set_option linter.all false
set_option maxRecDepth 100000
set_option maxHeartbeats 2000000
namespace Fs
open PySem PySem.Spec PyProof.Rows L2

theorem R.bind_assoc {α β γ : Type} (r : R α) (f : α → S → R β) (g : β → S → R γ) : (r.bind f).bind g = r.bind fun a s => (f a s).bind g := by
  cases r <;> rfl
section
variable {G : Gl0} {EX : XK} {X : Cx} {s s' : S} {σ : L2.St} {F H F' H' : Hp} {f : E → S → R Vl} {a b : E} {xa xb : Expr}
theorem Done.of {s1 : S} {F1 H1 : Hp} {r : Vl} {Q : VK} (g : Go G.T s σ F H s1 σ F1 H1) (p : PR G EX s σ F H (.ok r s1) (KV G s σ H Q)) : Done G s1 σ F1 H1 r Q :=
  fun w F2 H2 g2 q2 v n => p F2 H2 (g.trans g2) q2 w v (g.vback n)
theorem PR.some {α : Type} {o : Option α} {s1 : S} {k : α → S → Hp → Hp → Prop} (p : PR G EX s σ F H (toR o s1) k) : ∃ r, o = some r ∧ PR G EX s σ F H (.ok r s1) k := by
  cases o with
  | none => exact p.elim
  | some r => exact ⟨r, rfl, p⟩
theorem op2 {β : Type} {g : List Op → S → R β} {k : β → S → Hp → Hp → Prop} {RR : V → V → Hp → Prop} (ha : HP G EX X (opd f a) xa) (hb : HP G EX X (opd f b) xb) (q : Rel G.K G.T s σ F H) (p : PR G EX s σ F H ((opds f [a, b] s).bind g) k)
    (hq : ∀ s2 F2 H2 x y oa ob, Go G.T s σ F H s2 σ F2 H2 → Rel G.K G.T s2 σ F2 H2 → OpRel G.K G.T s2 σ F2 H2 x oa → OpRel G.K G.T s2 σ F2 H2 y ob → PR G EX s σ F H (g [oa, ob] s2) k → RR x y H2) :
    SE X xa σ H fun x H1 => SE X xb σ H1 fun y H2 => RR x y H2 := by
  have e : (opds f [a, b] s).bind g = (opd f a s).bind fun o s => (opd f b s).bind fun o2 s => g [o, o2] s := by
    simp only [opds, R.bind_assoc]; rfl
  rw [e] at p
  refine ha.run q p fun o s1 F1 H1 x g1 r1 a1 _ p1 => ?_
  refine hb s1 σ F1 H1 _ r1 ((p1.bindB.go g1).imp fun o2 s2 F2 H2 g2 r2 k2 y a2 _ => ?_)
  exact hq s2 F2 H2 x y o o2 (g1.trans g2) r2 (a1.go g2) a2 k2
theorem op1 {β : Type} {g : List Op → S → R β} {k : β → S → Hp → Hp → Prop} {RR : V → Hp → Prop} (ha : HP G EX X (opd f a) xa) (q : Rel G.K G.T s σ F H) (p : PR G EX s σ F H ((opds f [a] s).bind g) k)
    (hq : ∀ s1 F1 H1 x oa, Go G.T s σ F H s1 σ F1 H1 → Rel G.K G.T s1 σ F1 H1 → OpRel G.K G.T s1 σ F1 H1 x oa → PR G EX s σ F H (g [oa] s1) k → RR x H1) :
    SE X xa σ H RR := by
  have e : (opds f [a] s).bind g = (opd f a s).bind fun o s => g [o] s := by
    simp only [opds, R.bind_assoc]; rfl
  rw [e] at p
  exact ha.run q p fun o s1 F1 H1 x g1 r1 a1 _ p1 => hq s1 F1 H1 x o g1 r1 a1 p1
theorem looks2 {o1 o2 : Op} {ds : List D} (h : looks s [o1, o2] = some ds) : ∃ d1 d2, ds = [d1, d2] ∧ o1.look s = some d1 ∧ o2.look s = some d2 := by
  unfold looks at h
  split at h
  · rename_i d ds' e1 e2
    unfold looks at e2
    split at e2
    · rename_i d2 ds2 e3 e4
      cases h; cases e2; cases e4
      exact ⟨_, _, rfl, e1, e3⟩
    · cases e2
  · cases h
theorem looks1 {o1 : Op} {ds : List D} (h : looks s [o1] = some ds) : ∃ d1, ds = [d1] ∧ o1.look s = some d1 := by
  unfold looks at h
  split at h
  · rename_i d ds' e1 e2
    cases h; cases e2
    exact ⟨_, rfl, e1⟩
  · cases h
theorem looksS2 {o1 o2 : Op} {ds : List D} (h : looksS s [o1, o2] = some ds) : ∃ d1 d2, ds = [d1, d2] ∧ o1.lookS s = some d1 ∧ o2.lookS s = some d2 := by
  unfold looksS at h
  split at h
  · rename_i d ds' e1 e2
    unfold looksS at e2
    split at e2
    · rename_i d2 ds2 e3 e4
      cases h; cases e2; cases e4
      exact ⟨_, _, rfl, e1, e3⟩
    · cases e2
  · cases h
theorem looksS1 {o1 : Op} {ds : List D} (h : looksS s [o1] = some ds) : ∃ d1, ds = [d1] ∧ o1.lookS s = some d1 := by
  unfold looksS at h
  split at h
  · rename_i d ds' e1 e2
    cases h; cases e2
    exact ⟨_, rfl, e1⟩
  · cases h
theorem withO2 {g : List D → Option Vl} {Q : VK} {RR : V → V → Hp → Prop} (ha : HP G EX X (opd f a) xa) (hb : HP G EX X (opd f b) xb) (q : Rel G.K G.T s σ F H) (p : PR G EX s σ F H (withO f [a, b] s g) (KV G s σ H Q))
    (hq : ∀ s2 F2 H2 x y da db r, Rel G.K G.T s2 σ F2 H2 → View G.K F2 H2 x da → View G.K F2 H2 y db → g [da, db] = some r → Done G s2 σ F2 H2 r Q → RR x y H2) :
    SE X xa σ H fun x H1 => SE X xb σ H1 fun y H2 => RR x y H2 := by
  refine op2 ha hb q p fun s2 F2 H2 x y oa ob g2 r2 h1 h2 p2 => ?_
  try dsimp only at p2
  split at p2
  · rename_i ds e
    obtain ⟨d1, d2, rfl, e1, e2⟩ := looks2 e
    obtain ⟨r, e3, p3⟩ := p2.some
    exact hq s2 F2 H2 x y d1 d2 r r2 (h1.view r2 e1) (h2.view r2 e2) e3 (.of g2 p3)
  · exact p2.elim
theorem withS2 {g : List D → Option Vl} {Q : VK} {RR : V → V → Hp → Prop} (ha : HP G EX X (opd f a) xa) (hb : HP G EX X (opd f b) xb) (q : Rel G.K G.T s σ F H) (p : PR G EX s σ F H (withS f [a, b] s g) (KV G s σ H Q))
    (hq : ∀ s2 F2 H2 x y da db r, Rel G.K G.T s2 σ F2 H2 → ViewS G.K F2 H2 x da → ViewS G.K F2 H2 y db → g [da, db] = some r → Done G s2 σ F2 H2 r Q → RR x y H2) :
    SE X xa σ H fun x H1 => SE X xb σ H1 fun y H2 => RR x y H2 := by
  refine op2 ha hb q p fun s2 F2 H2 x y oa ob g2 r2 h1 h2 p2 => ?_
  try dsimp only at p2
  split at p2
  · rename_i ds e
    obtain ⟨d1, d2, rfl, e1, e2⟩ := looksS2 e
    obtain ⟨r, e3, p3⟩ := p2.some
    exact hq s2 F2 H2 x y d1 d2 r r2 (h1.viewS r2 e1) (h2.viewS r2 e2) e3 (.of g2 p3)
  · exact p2.elim
theorem withO1 {g : List D → Option Vl} {Q : VK} {RR : V → Hp → Prop} (ha : HP G EX X (opd f a) xa) (q : Rel G.K G.T s σ F H) (p : PR G EX s σ F H (withO f [a] s g) (KV G s σ H Q))
    (hq : ∀ s2 F2 H2 x da r, Rel G.K G.T s2 σ F2 H2 → View G.K F2 H2 x da → g [da] = some r → Done G s2 σ F2 H2 r Q → RR x H2) :
    SE X xa σ H RR := by
  refine op1 ha q p fun s2 F2 H2 x oa g2 r2 h1 p2 => ?_
  try dsimp only at p2
  split at p2
  · rename_i ds e
    obtain ⟨d1, rfl, e1⟩ := looks1 e
    obtain ⟨r, e3, p3⟩ := p2.some
    exact hq s2 F2 H2 x d1 r r2 (h1.view r2 e1) e3 (.of g2 p3)
  · exact p2.elim
/-- operands as arguments of a built-in function -/
theorem OpsRel.views (q : Rel G.K G.T s σ F H) : ∀ {ws : List V} {os : List Op} {ds : List D}, OpsRel G.K G.T s σ F H ws os → looks s os = some ds → Views G.K F H ws ds
  | _, _, _, .nil, h => by
    have h : some ([] : List D) = some _ := h
    cases h; exact .nil
  | _, _, ds, .cons h1 t, h => by
    unfold looks at h
    split at h
    · rename_i d ds' e1 e2
      cases h
      exact .cons (h1.view q e1) (t.views q e2)
    · cases h

/-! ### slots -/
theorem get_set {α : Type} {s : List α} {i j : Nat} {x y : α} (h : (s.set i x)[j]? = some y) : (j = i ∧ x = y) ∨ (j ≠ i ∧ s[j]? = some y) := by
  by_cases e : i = j
  · subst e
    rw [List.getElem?_set_self'] at h
    cases q : s[i]? with
    | none => rw [q] at h; cases h
    | some z => rw [q] at h; left; exact ⟨rfl, Option.some.inj h⟩
  · rw [List.getElem?_set_ne e] at h; exact .inr ⟨fun z => e z.symm, h⟩
theorem Rel.unset {K : PySem.W.Frag} {T : List Tb} (r : Rel K T s σ F H) (i : Nat) : Rel K T (s.set i .un) σ F H where
  len := by rw [List.length_set]; exact r.len
  dat := fun j d e => by
    rcases get_set e with ⟨_, z⟩ | ⟨_, z⟩
    · cases z
    · exact r.dat j d z
  mu := fun j b d e => by
    rcases get_set e with ⟨_, z⟩ | ⟨_, z⟩
    · cases z
    · exact r.mu j b d z
  scr := fun j ns e => by
    rcases get_set e with ⟨_, z⟩ | ⟨_, z⟩
    · cases z
    · exact r.scr j ns z
  apart := fun j k b d c e l e1 e2 e3 e4 => by
    rcases get_set e1 with ⟨_, z⟩ | ⟨_, z⟩
    · cases z
    · rcases get_set e2 with ⟨_, z2⟩ | ⟨_, z2⟩
      · cases z2
      · exact r.apart j k b d c e l z z2 e3 e4
  sub := r.sub
  tab := r.tab
theorem Go.unset {T : List Tb} {i : Nat} (h : ∀ d, s[i]? ≠ some (.mu true d)) : Go T s σ F H (s.set i .un) σ F H where
  ext := Sub.refl F
  new := fun _ h => .inl h
  keep := fun _ _ e _ _ => e
  alive := fun _ h => h
  own := fun x ⟨j, b, d, e1, e2⟩ => by
    rcases get_set e1 with ⟨_, z⟩ | ⟨_, z⟩
    · cases z
    · exact .inl ⟨j, b, d, z, e2⟩
  bor := fun j d e => by
    have hj : j ≠ i := fun z => h d (by rw [← z]; exact e)
    exact ⟨⟨d, by rw [List.getElem?_set_ne (fun z => hj z.symm)]; exact e⟩, rfl⟩
/-- an own slot given up -/
theorem unset_own {K : PySem.W.Frag} {T : List Tb} (r : Rel K T s σ F H) {i : Nat} {b : Bool} {d : D} {l : Addr} (e : s[i]? = some (.mu b d)) (e2 : σ[i]? = some (some (.ref l))) : ¬ own (s.set i .un) σ l := fun ⟨j, c, d', e3, e4⟩ => by
  rcases get_set e3 with ⟨_, z⟩ | ⟨hj, z⟩
  · cases z
  · exact hj (r.apart j i c d' b d l z e e4 e2)
theorem Rel.setDat {K : PySem.W.Frag} {T : List Tb} (r : Rel K T s σ F H) {i : Nat} {d : D} {v : V} (e : σ[i]? = some (some v)) (h : Rp K F v d) : Rel K T (s.set i (.dat d)) σ F H where
  len := by rw [List.length_set]; exact r.len
  dat := fun j d' e' => by
    rcases get_set e' with ⟨z, z2⟩ | ⟨_, z⟩
    · cases z2; exact ⟨v, by rw [z]; exact e, h⟩
    · exact r.dat j d' z
  mu := fun j b d e => by
    rcases get_set e with ⟨_, z⟩ | ⟨_, z⟩
    · cases z
    · exact r.mu j b d z
  scr := fun j ns e => by
    rcases get_set e with ⟨_, z⟩ | ⟨_, z⟩
    · cases z
    · exact r.scr j ns z
  apart := fun j k b d c e l e1 e2 e3 e4 => by
    rcases get_set e1 with ⟨_, z⟩ | ⟨_, z⟩
    · cases z
    · rcases get_set e2 with ⟨_, z2⟩ | ⟨_, z2⟩
      · cases z2
      · exact r.apart j k b d c e l z z2 e3 e4
  sub := r.sub
  tab := r.tab
theorem Go.setDat {T : List Tb} {i : Nat} {d : D} (h : ∀ d, s[i]? ≠ some (.mu true d)) : Go T s σ F H (s.set i (.dat d)) σ F H where
  ext := Sub.refl F
  new := fun _ h => .inl h
  keep := fun _ _ e _ _ => e
  alive := fun _ h => h
  own := fun x ⟨j, b, d, e1, e2⟩ => by
    rcases get_set e1 with ⟨_, z⟩ | ⟨_, z⟩
    · cases z
    · exact .inl ⟨j, b, d, z, e2⟩
  bor := fun j d e => by
    have hj : j ≠ i := fun z => h d (by rw [← z]; exact e)
    exact ⟨⟨d, by rw [List.getElem?_set_ne (fun z => hj z.symm)]; exact e⟩, rfl⟩

/-! ### names and constants -/
/-- a name's checks -/
structure NmOk (X : Cx) (i : Nat) (x : Str) : Prop where
  at_ : X.N[i]? = some x
  vis : Vis X.env.scope x
  d : (x == ("__debug__" : Str)) = false
  c : (x == ("__classdict__" : Str)) = false
theorem hr_var {x : Str} {pos : Pos} {i : Nat} (n : NmOk X i x) : HR G EX X (fun s => match s[i]? with
      | some (.dat d) => .ok (.dat d) s
      | some (.mu false d) => .ok (.dat d) (s.set i (.dat d))
      | _ => .stuck) (.Name x pos) := by
  intro s σ F H Q q p
  refine SE.of (pe_var n.at_ n.vis n.d n.c) ?_
  dsimp only at p
  split at p
  · rename_i d e
    obtain ⟨v, e1, e2⟩ := q.dat i d e
    exact ⟨v, e1, (p.here q) v e2 trivial⟩
  · rename_i d e
    obtain ⟨l, e1, e2, e3, e4⟩ := q.mu i _ d e
    refine ⟨_, e1, ?_⟩
    have nb : ∀ d, s[i]? ≠ some (.mu true d) := fun d z => by rw [e] at z; cases z
    have g1 : Go G.T s σ F H (s.set i .un) σ F H := Go.unset nb
    have r1 := q.unset i
    have no := unset_own q e e1
    obtain ⟨F1, g2, r2, hp, _⟩ := settle (v := .fr d) (s0 := s) (σ0 := σ) (F0 := F) (H0 := H) g1 r1 (w := .ref l) ⟨l, rfl, e2, e3, no, e4⟩ (fun l' z => by cases z; exact .inr ⟨i, _, d, e, e1⟩)
    have r3 := r2.setDat (i := i) (d := d) e1 hp
    have g3 : Go G.T (s.set i .un) σ F1 H ((s.set i .un).set i (.dat d)) σ F1 H := Go.setDat fun d z => by
      rcases get_set z with ⟨_, z⟩ | ⟨z, _⟩
      · cases z
      · exact z rfl
    rw [List.set_set] at r3 g3
    exact (p.ok (g2.trans g3) r3) _ hp trivial
  · exact p.elim
theorem hr_take {x : Str} {pos : Pos} {i : Nat} (n : NmOk X i x) : HR G EX X (fun s => match s[i]? with
      | some (.dat d) => .ok (.dat d) (s.set i .un)
      | some (.mu false d) => .ok (.fr d) (s.set i .un)
      | _ => .stuck) (.Name x pos) := by
  intro s σ F H Q q p
  refine SE.of (pe_var n.at_ n.vis n.d n.c) ?_
  dsimp only at p
  split at p
  · rename_i d e
    obtain ⟨v, e1, e2⟩ := q.dat i d e
    have nb : ∀ d, s[i]? ≠ some (.mu true d) := fun d z => by rw [e] at z; cases z
    exact ⟨v, e1, (p.ok (Go.unset nb) (q.unset i)) v e2 trivial⟩
  · rename_i d e
    obtain ⟨l, e1, e2, e3, e4⟩ := q.mu i _ d e
    refine ⟨_, e1, ?_⟩
    have nb : ∀ d, s[i]? ≠ some (.mu true d) := fun d z => by rw [e] at z; cases z
    exact (p.ok (Go.unset nb) (q.unset i)) _ ⟨l, rfl, e2, e3, unset_own q e e1, e4⟩ (fun l' z => by cases z; exact .inr ⟨i, _, d, e, e1⟩)
  · exact p.elim
/-- a constant -/
def constOk : D → PySem.Const → Bool
  | .none, .none => true
  | .bool b, .bool c => b == c
  | .int b, .int c => b == c
  | .str b, .str c => b == c
  | _, _ => false
theorem hr_lit {d : D} {c : PySem.Const} {j : Nat} {pos : Pos} (h : constOk d c = true) : HR G EX X (fun s => .ok (.dat d) s) (.Constant c j pos) := by
  intro s σ F H Q q p
  have k := p.here q
  unfold constOk at h
  split at h
  · exact SE.of pe_non (k _ .non trivial)
  · have h := eq_of_beq h; subst h; exact SE.of pe_bl (k _ (.bl _) trivial)
  · have h := eq_of_beq h; subst h; exact SE.of pe_int (k _ (.int _) trivial)
  · have h := eq_of_beq h; subst h; exact SE.of pe_str (k _ (.str _) trivial)
  · cases h
theorem hr_gint {x : Str} {i : Int} {t : Tok} {pos : Pos} (hg : Gl X x) (hm : X.mg x = some (.int i t)) (hd : (x == ("__debug__" : Str)) = false) : HR G EX X (fun s => .ok (.dat (.int i)) s) (.Name x pos) := by
  intro s σ F H Q q p
  exact SE.of (pe_glob (v := .int i) hg hm ⟨t, rfl⟩ hd) ((p.here q) _ (.int _) trivial)
theorem rp_len {ds : List D} {ws : List V} (h : RpAll G.K F ws ds) : ws.length = ds.length := h.length
theorem hr_tup {es : List E} {xs : List Expr} {k : Nat} {pos : Pos} (h : HDs G EX X (evs f es) xs) (hz : xs.length ≤ sizeLine) (hl : ∀ s ds s', evs f es s = .ok ds s' → ds.length = xs.length) : HR G EX X (fun s => (evs f es s).bind fun ds s => .ok (.dat (.tuple ds)) s) (.Tuple xs k pos) := by
  intro s σ F H Q q p
  refine SE.of (pe_tup pa_SA) (h s σ F H _ q ?_)
  dsimp only at p
  cases e : evs f es s with
  | ok ds s1 =>
    rw [e] at p
    intro F1 H1 g1 r1 ws F2 g2 r2 ha
    refine ⟨by rw [ha.length, hl s ds s1 e]; exact hz, fun t ht => ?_⟩
    exact p _ _ (g2.trans (Go.newF r2 ht)) (r2.newF ht) _ (.tup upd_same (ha.mono (Sub.new (r2.fresh ht)))) trivial
  | exc nm s1 => rw [e] at p; exact p
  | stuck => rw [e] at p; exact p.elim
theorem hr_lst {es : List E} {xs : List Expr} {pos : Pos} (h : HDs G EX X (evs f es) xs) (hz : xs.length ≤ sizeLine) (hl : ∀ s ds s', evs f es s = .ok ds s' → ds.length = xs.length) : HR G EX X (fun s => (evs f es s).bind fun ds s => .ok (.fr (.list ds)) s) (.List xs pos) := by
  intro s σ F H Q q p
  refine SE.of (pe_lst pa_SA) (h s σ F H _ q ?_)
  dsimp only at p
  cases e : evs f es s with
  | ok ds s1 =>
    rw [e] at p
    intro F1 H1 g1 r1 ws F2 g2 r2 ha
    refine ⟨by rw [ha.length, hl s ds s1 e]; exact hz, fun t ht => ?_⟩
    refine p _ _ (g2.trans (Go.alloc ht)) (r2.new ht) _ ⟨t, rfl, r2.fresh ht, r2.notab ht, r2.noown ht, ws, upd_same, ha⟩ fun l' z => ?_
    cases z
    exact g2.back (.inl ht)
  | exc nm s1 => rw [e] at p; exact p
  | stuck => rw [e] at p; exact p.elim
theorem evs_len : ∀ (es : List E) (s : S) (ds : List D) (s' : S), evs f es s = .ok ds s' → ds.length = es.length
  | [], s, ds, s', h => by
    have h : R.ok [] s = .ok ds s' := h
    cases h; rfl
  | e :: es, s, ds, s', h => by
    unfold evs at h
    cases q : f e s with
    | ok v s1 =>
      rw [q] at h
      have h : (evs f es s1).bind (fun ds s => R.ok (v.d :: ds) s) = .ok ds s' := h
      cases q2 : evs f es s1 with
      | ok ds2 s2 =>
        rw [q2] at h
        have h : R.ok (v.d :: ds2) s2 = .ok ds s' := h
        cases h
        simp [evs_len es s1 ds2 s' q2]
      | exc nm s2 => rw [q2] at h; cases h
      | stuck => rw [q2] at h; cases h
    | exc nm s1 => rw [q] at h; cases h
    | stuck => rw [q] at h; cases h
end
end Fs
set_option Elab.async false
set_option linter.all false
set_option maxRecDepth 100000
set_option maxHeartbeats 2000000
namespace Fs
open PySem PySem.Spec PyProof.Rows L2
section
variable {G : Gl0} {EX : XK} {X : Cx} {s s' : S} {σ : L2.St} {F H F' H' : Hp} {f : E → S → R Vl} {a b c d : E} {xa xb xc xd : Expr} {pos : Pos} {n : Nat}
/-! ### operators -/
theorem hr_bin (hK : X.K = G.K) (op : BOp) (ha : HP G EX X (opd f a) xa) (hb : HP G EX X (opd f b) xb) : HR G EX X (fun s => withO f [a, b] s fun
      | [x, y] => binop op x y
      | _ => none) (.BinOp xa (bop op) xb pos) := by
  intro s σ F H Q q p
  refine SE.of (pe_op op_U2 pe_SE pe_SE) (withO2 ha hb q p fun s2 F2 H2 x y da db r r2 v1 v2 e k => ?_)
  exact binop_ok hK op e r2 v1 v2 k
theorem hr_neg (ha : HP G EX X (opd f a) xa) : HR G EX X (fun s => withO f [a] s fun
      | [.int i] => some (.dat (.int (-i)))
      | _ => none) (.UnaryOp .USub xa pos) := by
  intro s σ F H Q q p
  refine SE.of (pe_un un_neg pe_SE) (withO1 ha q p fun s2 F2 H2 x da r r2 v1 e k => ?_)
  split at e
  · rename_i i e2
    cases e; cases e2
    exact ⟨i, v1.int, k.here r2 (.int _)⟩
  · cases e
theorem hr_cmp (hr : Room n X.A) (hK : X.K = G.K) (op : COp) (ha : HP G EX X (opd f a) xa) (hb : HP G EX X (opd f b) xb) (hm : behindInMarks (cop op) xb = false) : HR G EX X (fun s => withO f [a, b] s fun
      | [x, y] => lift (cmpD op x y)
      | _ => none) (.Compare xa [cop op] [xb] pos) := by
  intro s σ F H Q q p
  refine SE.of (pe_cmpR op_U2 pe_SE pe_SE hm) (withO2 ha hb q p fun s2 F2 H2 x y da db r r2 v1 v2 e k => ?_)
  obtain ⟨z, e1, e2⟩ := Option.map_eq_some_iff.mp (show (cmpD op da db).map (fun b => Vl.dat (.bool b)) = some r from e)
  subst e2
  exact cmp_ok hr hK op e1 r2 v1 v2 k
/-- tests -/
theorem ht_of {r : S → R Vl} {x : Expr} (h : HR G EX X r x) (he : ∀ whole, isTrue x X.env whole = (do let v ← whole; standAt x.pos; holding [v] (truthy v))) : HT G EX X (fun s => tst (r s)) x := by
  intro s σ F H Q q p
  refine ST.of (pt_val pe_SE he) (h.run q p fun v s1 F1 H1 w g r1 a b k => ?_)
  split at k
  · rename_i z
    cases a
    exact ⟨z, rfl, k.ok g r1⟩
  · exact k.elim
theorem ht_cmp (hr : Room n X.A) (hK : X.K = G.K) (op : COp) (ha : HP G EX X (opd f a) xa) (hb : HP G EX X (opd f b) xb) (hm : behindInMarks (cop op) xb = false) : HT G EX X (fun s => tst (withO f [a, b] s fun
      | [x, y] => lift (cmpD op x y)
      | _ => none)) (.Compare xa [cop op] [xb] pos) := by
  intro s σ F H Q q p
  refine ST.of (pt_cmpR op_U2 pe_SE pe_SE hm) ?_
  have p2 : PR G EX s σ F H (withO f [a, b] s fun
      | [x, y] => lift (cmpD op x y)
      | _ => none) (KV G s σ H fun w H' => ∃ k, w = .bl k ∧ Q k H') := by
    refine p.bindB.imp fun v s1 F1 H1 g r1 k w hw hvn => ?_
    clear hvn
    split at k
    · rename_i z
      cases hw
      exact ⟨z, rfl, k.ok g r1⟩
    · exact k.elim
  refine withO2 ha hb q p2 fun s2 F2 H2 x y da db r r2 v1 v2 e k => ?_
  obtain ⟨z, e1, e2⟩ := Option.map_eq_some_iff.mp (show (cmpD op da db).map (fun b => Vl.dat (.bool b)) = some r from e)
  subst e2
  exact cmp_ok hr hK op e1 r2 v1 v2 k
def isNon : D → Bool
  | .none => true
  | _ => false
theorem View.non_iff {w : V} {d : D} (h : View G.K F H w d) : decide (w = .non) = isNon d := by
  cases d with
  | none => rw [h.none]; rfl
  | bool _ => rw [h.bool]; rfl
  | int _ => rw [h.int]; rfl
  | str _ => rw [h.str]; rfl
  | list _ => rcases h with h | ⟨l, e, _⟩
              · cases h; rfl
              · rw [e]; rfl
  | tuple _ => rcases h with h | ⟨l, e, _⟩
               · cases h; rfl
               · rw [e]; rfl
  | dict _ => rcases h with h | ⟨l, e, _⟩
              · cases h <;> rfl
              · rw [e]; rfl
theorem hr_isN {j : Nat} {p' : Pos} (ha : HP G EX X (opd f a) xa) : HR G EX X (fun s => withO f [a] s fun
      | [.none] => some (.dat (.bool true))
      | [_] => some (.dat (.bool false))
      | _ => none) (.Compare xa [.Is] [.Constant .none j p'] pos) := by
  intro s σ F H Q q p
  refine SE.of (pe_cmp (pc_isN pe_SE)) (withO1 ha q p fun s2 F2 H2 x da r r2 v1 e k => ?_)
  have hn := v1.non_iff
  show Q (.bl (decide (x = .non))) H2
  rw [hn]
  split at e
  · rename_i e2; cases e; cases e2; exact k.here r2 (.bl _)
  · rename_i d' hne e2
    cases e; cases e2
    cases da with
    | none => exact absurd rfl hne
    | _ => exact k.here r2 (.bl _)
  · cases e
theorem hr_notN {j : Nat} {p' : Pos} (ha : HP G EX X (opd f a) xa) : HR G EX X (fun s => withO f [a] s fun
      | [.none] => some (.dat (.bool false))
      | [_] => some (.dat (.bool true))
      | _ => none) (.Compare xa [.IsNot] [.Constant .none j p'] pos) := by
  intro s σ F H Q q p
  refine SE.of (pe_cmp (pc_notN pe_SE)) (withO1 ha q p fun s2 F2 H2 x da r r2 v1 e k => ?_)
  have hn := v1.non_iff
  show Q (.bl (!decide (x = .non))) H2
  rw [hn]
  split at e
  · rename_i e2; cases e; cases e2; exact k.here r2 (.bl _)
  · rename_i d' hne e2
    cases e; cases e2
    cases da with
    | none => exact absurd rfl hne
    | _ => exact k.here r2 (.bl _)
  · cases e
theorem ht_isN {j : Nat} {p' : Pos} (ha : HP G EX X (opd f a) xa) : HT G EX X (fun s => tst (withO f [a] s fun
      | [.none] => some (.dat (.bool true))
      | [_] => some (.dat (.bool false))
      | _ => none)) (.Compare xa [.Is] [.Constant .none j p'] pos) := by
  intro s σ F H Q q p
  refine ST.of (pt_cmp (pc_isN pe_SE)) ?_
  have p2 := p.bindB.imp (k' := KV G s σ H fun w H' => ∃ c, w = .bl c ∧ Q c H') fun v s1 F1 H1 g r1 k w hw hvn => by
    clear hvn
    split at k
    · rename_i z
      cases hw
      exact ⟨z, rfl, k.ok g r1⟩
    · exact k.elim
  refine withO1 ha q p2 fun s2 F2 H2 x da r r2 v1 e k => ?_
  have hn := v1.non_iff
  show ∃ c, V.bl (decide (x = .non)) = .bl c ∧ Q c H2
  rw [hn]
  split at e
  · rename_i e2; cases e; cases e2; exact k.here r2 (.bl _)
  · rename_i d' hne e2
    cases e; cases e2
    cases da with
    | none => exact absurd rfl hne
    | _ => exact k.here r2 (.bl _)
  · cases e
theorem ht_notN {j : Nat} {p' : Pos} (ha : HP G EX X (opd f a) xa) : HT G EX X (fun s => tst (withO f [a] s fun
      | [.none] => some (.dat (.bool false))
      | [_] => some (.dat (.bool true))
      | _ => none)) (.Compare xa [.IsNot] [.Constant .none j p'] pos) := by
  intro s σ F H Q q p
  refine ST.of (pt_cmp (pc_notN pe_SE)) ?_
  have p2 := p.bindB.imp (k' := KV G s σ H fun w H' => ∃ c, w = .bl c ∧ Q c H') fun v s1 F1 H1 g r1 k w hw hvn => by
    clear hvn
    split at k
    · rename_i z
      cases hw
      exact ⟨z, rfl, k.ok g r1⟩
    · exact k.elim
  refine withO1 ha q p2 fun s2 F2 H2 x da r r2 v1 e k => ?_
  have hn := v1.non_iff
  show ∃ c, V.bl (!decide (x = .non)) = .bl c ∧ Q c H2
  rw [hn]
  split at e
  · rename_i e2; cases e; cases e2; exact k.here r2 (.bl _)
  · rename_i d' hne e2
    cases e; cases e2
    cases da with
    | none => exact absurd rfl hne
    | _ => exact k.here r2 (.bl _)
  · cases e
/-! ### and, or, not, if -/
/-- a value that is to be a bool -/
theorem HR.bool {r : S → R Vl} {x : Expr} {β : Type} {g : Bool → S → R β} {k : β → S → Hp → Hp → Prop} {Q : VK} (h : HR G EX X r x) (q : Rel G.K G.T s σ F H) (p : PR G EX s σ F H ((tst (r s)).bind g) k)
    (hq : ∀ z s1 F1 H1, Go G.T s σ F H s1 σ F1 H1 → Rel G.K G.T s1 σ F1 H1 → PR G EX s σ F H (g z s1) k → Q (.bl z) H1) : SE X x σ H Q := by
  unfold tst at p
  rw [R.bind_assoc] at p
  refine h.run q p fun v s1 F1 H1 w g1 r1 a hvn k1 => ?_
  clear hvn
  split at k1
  · rename_i z
    cases a
    exact hq z s1 F1 H1 g1 r1 k1
  · exact k1.elim
theorem hr_not {r : S → R Vl} (h : HR G EX X r xa) : HR G EX X (fun s => (tst (r s)).bind fun b s => .ok (.dat (.bool !b)) s) (.UnaryOp .Not xa pos) := by
  intro s σ F H Q q p
  exact SE.of (pe_not pe_SE) (h.bool q p fun z s1 F1 H1 g1 r1 k1 => ⟨z, rfl, (k1.ok g1 r1) _ (.bl _) trivial⟩)
theorem ht_not {r : S → R Vl} (h : HT G EX X (fun s => tst (r s)) xa) : HT G EX X (fun s => tst ((tst (r s)).bind fun b s => .ok (.dat (.bool !b)) s)) (.UnaryOp .Not xa pos) := by
  intro s σ F H Q q p
  have e : tst ((tst (r s)).bind fun b s => .ok (.dat (.bool !b)) s) = (tst (r s)).bind fun b s => .ok (!b) s := by
    show ((tst (r s)).bind _).bind _ = _
    rw [R.bind_assoc]; rfl
  dsimp only at p
  rw [e] at p
  exact ST.of (pt_not pt_ST) (h.run q p fun z s1 F1 H1 g1 r1 k1 => k1.ok g1 r1)
theorem hr_one {r : S → R Vl} {o : BoolOp} (h : HR G EX X r xa) : HR G EX X r (.BoolOp o [xa] pos) := fun s σ F H Q q p => SE.of (pe_one pe_SE) (h s σ F H Q q p)
theorem isTrue_whole {o : BoolOp} {vs : List Expr} (w w' : Sem Value) (env : Env) : isTrue (.BoolOp o vs pos) env w = isTrue (.BoolOp o vs pos) env w' := by
  simp only [PySem.isTrue]
theorem pw_of {o : BoolOp} {vs : List Expr} {t : TT} (h : PT X (.BoolOp o vs pos) t) : PW X (.BoolOp o vs pos) t := ⟨fun w pins s σ H Q I q => by
  rw [isTrue_whole w (eval (.BoolOp o vs pos) X.env)]
  exact h.run pins s σ H Q I q⟩
theorem ht_one {r : S → R Bool} {o : BoolOp} (h : HT G EX X r xa) : HT G EX X r (.BoolOp o [xa] pos) := fun s σ F H Q q p => by
  cases o with
  | And => exact ST.of (pw_and1 pt_ST).pt (h s σ F H Q q p)
  | Or => exact ST.of (pw_or1 pt_ST).pt (h s σ F H Q q p)
theorem hr_and {r1 r2 : S → R Vl} {rest : List Expr} (h1 : HR G EX X r1 xa) (h2 : HR G EX X r2 (.BoolOp .And (xb :: rest) pos)) : HR G EX X (fun s => (tst (r1 s)).bind fun k s => (match k with
      | true => (tst (r2 s)).bind fun k s => .ok (.dat (.bool k)) s
      | false => .ok (.dat (.bool false)) s)) (.BoolOp .And (xa :: xb :: rest) pos) := by
  intro s σ F H Q q p
  refine SE.of (pe_and pe_SE pe_SE) (h1.bool q p fun z s1 F1 H1 g1 q1 k1 => ⟨z, rfl, ?_⟩)
  cases z with
  | true =>
    rw [if_pos rfl]
    exact h2.bool q1 (k1.go g1) fun z2 s2 F2 H2 g2 q2 k2 => (k2.ok g2 q2) _ (.bl _) trivial
  | false =>
    rw [if_neg Bool.false_ne_true]
    exact (k1.ok g1 q1) _ (.bl _) trivial
theorem hr_or {r1 r2 : S → R Vl} {rest : List Expr} (h1 : HR G EX X r1 xa) (h2 : HR G EX X r2 (.BoolOp .Or (xb :: rest) pos)) : HR G EX X (fun s => (tst (r1 s)).bind fun k s => (match k with
      | true => .ok (.dat (.bool true)) s
      | false => (tst (r2 s)).bind fun k s => .ok (.dat (.bool k)) s)) (.BoolOp .Or (xa :: xb :: rest) pos) := by
  intro s σ F H Q q p
  refine SE.of (pe_or pe_SE pe_SE) (h1.bool q p fun z s1 F1 H1 g1 q1 k1 => ⟨z, rfl, ?_⟩)
  cases z with
  | false =>
    rw [if_neg Bool.false_ne_true]
    exact h2.bool q1 (k1.go g1) fun z2 s2 F2 H2 g2 q2 k2 => (k2.ok g2 q2) _ (.bl _) trivial
  | true =>
    rw [if_pos rfl]
    exact (k1.ok g1 q1) _ (.bl _) trivial
theorem tst_bool {r : R Bool} : tst (r.bind fun k s => R.ok (Vl.dat (.bool k)) s) = r := by
  cases r <;> rfl
theorem ht_and {r1 r2 : S → R Vl} {rest : List Expr} (h1 : HT G EX X (fun s => tst (r1 s)) xa) (h2 : HT G EX X (fun s => tst (r2 s)) (.BoolOp .And (xb :: rest) pos)) : HT G EX X (fun s => tst ((tst (r1 s)).bind fun k s => (match k with
      | true => (tst (r2 s)).bind fun k s => .ok (.dat (.bool k)) s
      | false => .ok (.dat (.bool false)) s))) (.BoolOp .And (xa :: xb :: rest) pos) := by
  intro s σ F H Q q p
  dsimp only at p
  have e : tst ((tst (r1 s)).bind fun k s => (match k with
      | true => (tst (r2 s)).bind fun k s => .ok (.dat (.bool k)) s
      | false => .ok (.dat (.bool false)) s)) = (tst (r1 s)).bind fun k s => (match k with
      | true => tst (r2 s)
      | false => .ok false s) := by
    cases tst (r1 s) with
    | ok k s2 => cases k with
      | true => exact tst_bool
      | false => rfl
    | exc _ _ => rfl
    | stuck => rfl
  rw [e] at p
  refine ST.of (pw_and pt_ST (pw_of pt_ST)).pt (h1.run q p fun z s1 F1 H1 g1 q1 k1 => ?_)
  cases z with
  | true =>
    rw [if_pos rfl]
    exact h2 _ _ _ _ _ q1 (k1.go g1)
  | false =>
    rw [if_neg Bool.false_ne_true]
    exact k1.ok g1 q1
theorem ht_or {r1 r2 : S → R Vl} {rest : List Expr} (h1 : HT G EX X (fun s => tst (r1 s)) xa) (h2 : HT G EX X (fun s => tst (r2 s)) (.BoolOp .Or (xb :: rest) pos)) : HT G EX X (fun s => tst ((tst (r1 s)).bind fun k s => (match k with
      | true => .ok (.dat (.bool true)) s
      | false => (tst (r2 s)).bind fun k s => .ok (.dat (.bool k)) s))) (.BoolOp .Or (xa :: xb :: rest) pos) := by
  intro s σ F H Q q p
  dsimp only at p
  have e : tst ((tst (r1 s)).bind fun k s => (match k with
      | true => .ok (.dat (.bool true)) s
      | false => (tst (r2 s)).bind fun k s => .ok (.dat (.bool k)) s)) = (tst (r1 s)).bind fun k s => (match k with
      | true => .ok true s
      | false => tst (r2 s)) := by
    cases tst (r1 s) with
    | ok k s2 => cases k with
      | false => exact tst_bool
      | true => rfl
    | exc _ _ => rfl
    | stuck => rfl
  rw [e] at p
  refine ST.of (pw_or pt_ST (pw_of pt_ST)).pt (h1.run q p fun z s1 F1 H1 g1 q1 k1 => ?_)
  cases z with
  | false =>
    rw [if_neg Bool.false_ne_true]
    exact h2 _ _ _ _ _ q1 (k1.go g1)
  | true =>
    rw [if_pos rfl]
    exact k1.ok g1 q1
theorem hr_ife {r1 r2 r3 : S → R Vl} (h1 : HT G EX X (fun s => tst (r1 s)) xa) (h2 : HR G EX X r2 xb) (h3 : HR G EX X r3 xc) : HR G EX X (fun s => (tst (r1 s)).bind fun k s => (match k with
      | true => r2 s
      | false => r3 s)) (.IfExp xa xb xc pos) := by
  intro s σ F H Q q p
  refine SE.of (pe_ifExp pt_ST pe_SE pe_SE) (h1.run q p fun z s1 F1 H1 g1 q1 k1 => ?_)
  cases z with
  | true =>
    rw [if_pos rfl]
    exact h2 _ _ _ _ _ q1 (k1.next g1)
  | false =>
    rw [if_neg Bool.false_ne_true]
    exact h3 _ _ _ _ _ q1 (k1.next g1)
/-! ### subscripts -/
def isSlice : Expr → Bool
  | .Slice _ _ _ _ => true
  | _ => false
theorem plainIx_of {x : Expr} (h : isSlice x = false) : PlainIx x := by
  intro o i
  cases x <;> first | rfl | simp [isSlice] at h
theorem hr_idx (hK : X.K = G.K) (ha : HP G EX X (opd f a) xa) (hb : HP G EX X (opd f b) xb) (hs : isSlice xb = false) : HR G EX X (fun s => withS f [a, b] s fun
      | [x, y] => (idxD x y).map Vl.dat
      | _ => none) (.Subscript xa xb pos) := by
  intro s σ F H Q q p
  refine SE.of (pe_ix ix_D pe_SE pe_SE (plainIx_of hs)) (withS2 ha hb q p fun s2 F2 H2 x y da db r r2 v1 v2 e k => ?_)
  obtain ⟨z, e1, e2⟩ := Option.map_eq_some_iff.mp e
  subst e2
  exact idx_ok hK e1 r2 v1 v2 k
/-- a part of a slice -/
def part (f : E → S → R Vl) (o : Option E) (s : S) : R (Option Int) := match o with
  | none => R.ok none s
  | some e => (f e s).bind fun v s => (match v with
    | .dat (.int i) => .ok (some i) s
    | _ => .stuck)
def HPart (G : Gl0) (EX : XK) (X : Cx) (r : S → R (Option Int)) (o : Option Expr) (t : TO) : Prop := PO X o t ∧ ∀ s σ F H (Q : Option Int → Hp → Prop), Rel G.K G.T s σ F H → PR G EX s σ F H (r s) (fun b _ _ H' => Q b H') → t σ H Q
theorem hpart_none : HPart G EX X (part f none) none tNoPart := ⟨po_none, fun s σ F H Q q p => p.here q⟩
theorem hpart_some (h : HR G EX X (f a) xa) : HPart G EX X (part f (some a)) (some xa) (tPart (SE X xa)) := ⟨po_some pe_SE, fun s σ F H Q q p => by
  refine h.run q p fun v s1 F1 H1 w g1 r1 hv hvn k1 => ?_
  clear hvn
  split at k1
  · rename_i i
    cases hv
    exact ⟨i, rfl, k1.ok g1 r1⟩
  · exact k1.elim⟩
theorem hr_slc {lo hi : Option E} {xl xh : Option Expr} {tl th : TO} {p2 : Pos} (hK : X.K = G.K) (ha : HP G EX X (opd f a) xa) (hl : HPart G EX X (part f lo) xl tl) (hh : HPart G EX X (part f hi) xh th) : HR G EX X (fun s => (opds f [a] s).bind fun os s =>
      (part f lo s).bind fun l s => (part f hi s).bind fun h s => (match looksS s os with
        | some [d] => toR (slcD d l h) s
        | _ => .stuck)) (.Subscript xa (.Slice xl xh none p2) pos) := by
  intro s σ F H Q q p
  refine SE.of (pe_slice sl_D pe_SE hl.1 hh.1) (op1 ha q p fun s1 F1 H1 x oa g1 r1 h1 k1 => ?_)
  refine hl.2 s1 σ F1 H1 _ r1 ((k1.bindB.go g1).imp fun l s2 F2 H2 g2 r2 k2 => ?_)
  refine hh.2 s2 σ F2 H2 _ r2 ((k2.bindB.go (g1.trans g2)).imp fun u s3 F3 H3 g3 r3 k3 => ?_)
  have gg := (g1.trans g2).trans g3
  have h3 := h1.go (g2.trans g3)
  split at k3
  · rename_i d' e
    obtain ⟨d1, e1, e2⟩ := looksS1 e
    cases e1
    obtain ⟨r, e3, p3⟩ := k3.some
    exact slc_ok hK e3 r3 (h3.viewS r3 e2) (.of gg p3)
  · exact k3.elim
theorem hr_rev {k : Nat} {p1 p2 p3 : Pos} (hK : X.K = G.K) (ha : HP G EX X (opd f a) xa) : HR G EX X (fun s => withO f [a] s fun
      | [.list xs] => some (.fr (.list xs.reverse))
      | _ => none) (.Subscript xa (.Slice none none (some (.UnaryOp .USub (.Constant (.int 1) k p1) p2)) p3) pos) := by
  intro s σ F H Q q p
  refine SE.of (pe_revL pe_SE) (withO1 ha q p fun s2 F2 H2 x da r r2 v1 e k => ?_)
  split at e
  · rename_i xs e2
    cases e; cases e2
    obtain ⟨p, vs, rfl, h1, h2⟩ := v1.list r2.sub
    exact ⟨p, vs, rfl, .inl (.inl h1), k.lst r2 h2.reverse⟩
  · cases e
/-! ### chains -/
theorem cmpU {op : COp} {x y : V} {da db : D} {z : Bool} {Q : VK} (hr : Room n X.A) (hK : X.K = G.K) (e : cmpD op da db = some z) (q : Rel G.K G.T s σ F H) (va : View G.K F H x da) (vb : View G.K F H y db)
    (k : ∀ F' H', Go G.T s σ F H s σ F' H' → Rel G.K G.T s σ F' H' → Q (.bl z) H') : U2 X (compareOp (cop op)) x y H Q :=
  cmp_ok hr hK op e q va vb fun w F' H' g r hv _ => by cases hv; exact k F' H' g r
theorem hr_ch2 (hr : Room n X.A) (hK : X.K = G.K) (o1 o2 : COp) (ha : HR G EX X (f a) xa) (hb : HR G EX X (f b) xb) (hc : HR G EX X (f c) xc) (hm : lastMarks [cop o1, cop o2] [xb, xc] = false) : HR G EX X (fun s => (f a s).bind fun x s => (f b s).bind fun y s => (match cmpD o1 x.d y.d with
      | some true => (f c s).bind fun z s => toR (lift (cmpD o2 y.d z.d)) s
      | some false => .ok (.dat (.bool false)) s
      | none => .stuck)) (.Compare xa [cop o1, cop o2] [xb, xc] pos) := by
  intro s σ F H Q q p
  refine SE.of (pe_chain op_U2 op_U2 pe_SE pe_SE pe_SE hm) (ha.run q p fun v s1 F1 H1 x g1 r1 a1 _ k1 => ?_)
  refine hb s1 σ F1 H1 _ r1 ((k1.bindB.go g1).imp fun u s2 F2 H2 g2 r2 k2 y a2 _ => ?_)
  have gg := g1.trans g2
  split at k2
  · rename_i e
    refine cmpU hr hK e r2 (a1.go g2).view a2.view fun F3 H3 g3 r3 => ⟨true, rfl, ?_⟩
    rw [if_pos rfl]
    refine hc s2 σ F3 H3 _ r3 ((k2.bindB.go (gg.trans g3)).imp fun t s4 F4 H4 g4 r4 k4 w a4 _ => ?_)
    obtain ⟨r, e3, p3⟩ := k4.some
    obtain ⟨z, e1, e2⟩ := Option.map_eq_some_iff.mp (show (cmpD o2 u.d t.d).map (fun b => Vl.dat (.bool b)) = some r from e3)
    subst e2
    exact cmp_ok hr hK o2 e1 r4 ((a2.go (g3.trans g4)).view) a4.view (.of ((gg.trans g3).trans g4) p3)
  · rename_i e
    refine cmpU hr hK e r2 (a1.go g2).view a2.view fun F3 H3 g3 r3 => ⟨false, rfl, ?_⟩
    rw [if_neg Bool.false_ne_true]
    exact (k2.ok (gg.trans g3) r3) _ (.bl _) trivial
  · exact k2.elim
theorem ht_ch2 (hr : Room n X.A) (hK : X.K = G.K) (o1 o2 : COp) (ha : HR G EX X (f a) xa) (hb : HR G EX X (f b) xb) (hc : HR G EX X (f c) xc) (hm : lastMarks [cop o1, cop o2] [xb, xc] = false) : HT G EX X (fun s => tst ((f a s).bind fun x s => (f b s).bind fun y s => (match cmpD o1 x.d y.d with
      | some true => (f c s).bind fun z s => toR (lift (cmpD o2 y.d z.d)) s
      | some false => .ok (.dat (.bool false)) s
      | none => .stuck))) (.Compare xa [cop o1, cop o2] [xb, xc] pos) := by
  intro s σ F H Q q p
  refine ST.of (pt_chain op_U2 op_U2 pe_SE pe_SE pe_SE hm) ?_
  have p2 := p.bindB.imp (k' := KV G s σ H fun w H' => ∃ c, w = .bl c ∧ Q c H') fun v s1 F1 H1 g r1 k w hw hvn => by
    clear hvn
    split at k
    · rename_i z
      cases hw
      exact ⟨z, rfl, k.ok g r1⟩
    · exact k.elim
  refine ha.run q p2 fun v s1 F1 H1 x g1 r1 a1 _ k1 => ?_
  refine hb s1 σ F1 H1 _ r1 ((k1.bindB.go g1).imp fun u s2 F2 H2 g2 r2 k2 y a2 _ => ?_)
  have gg := g1.trans g2
  split at k2
  · rename_i e
    refine cmpU hr hK e r2 (a1.go g2).view a2.view fun F3 H3 g3 r3 => ⟨true, rfl, ?_⟩
    rw [if_pos rfl]
    refine hc s2 σ F3 H3 _ r3 ((k2.bindB.go (gg.trans g3)).imp fun t s4 F4 H4 g4 r4 k4 w a4 _ => ?_)
    obtain ⟨r, e3, p3⟩ := k4.some
    obtain ⟨z, e1, e2⟩ := Option.map_eq_some_iff.mp (show (cmpD o2 u.d t.d).map (fun b => Vl.dat (.bool b)) = some r from e3)
    subst e2
    exact cmp_ok hr hK o2 e1 r4 ((a2.go (g3.trans g4)).view) a4.view (.of ((gg.trans g3).trans g4) p3)
  · rename_i e
    refine cmpU hr hK e r2 (a1.go g2).view a2.view fun F3 H3 g3 r3 => ⟨false, rfl, ?_⟩
    rw [if_neg Bool.false_ne_true]
    exact (k2.ok (gg.trans g3) r3) _ (.bl _) trivial
  · exact k2.elim
end
end Fs
set_option Elab.async false
set_option linter.all false
set_option maxRecDepth 100000
set_option maxHeartbeats 2000000
namespace Fs
open PySem PySem.Spec PyProof.Rows L2
section
variable {G : Gl0} {EX : XK} {X : Cx} {s s' : S} {σ : L2.St} {F H F' H' : Hp} {f : E → S → R Vl} {n : Nat}
theorem rpAll_dp {K : PySem.W.Frag} (hs : Sub F H) {vs : List V} {ds : List D} (h : RpAll K F vs ds) (z : ∀ d ∈ ds, NoD d) : DpAll K H vs ds := RpAll.dp hs h z
/-! ### the least, the greatest; sorting -/
theorem alikes_of {xs : List D} (h : alikes xs = true) : PySem.W.AlikeAll xs ∧ PyData.depthAll xs ≤ dp ∧ (∀ x ∈ xs, x.depth ≤ dp) := by
  unfold alikes at h
  simp only [Bool.and_eq_true, List.all_eq_true] at h
  obtain ⟨⟨h1, h2⟩, h3⟩ := h
  refine ⟨⟨fun x hx y hy => h3 x hx y hy, fun x hx z => ?_⟩, okD_depthAll _ xs h1, fun x hx => okD_depth _ _ (h1 x hx)⟩
  have := h2 x hx
  rw [z] at this; cases this
theorem alikes_no {xs : List D} (h : alikes xs = true) : ∀ x ∈ xs, NoD x := by
  unfold alikes at h
  simp only [Bool.and_eq_true, List.all_eq_true] at h
  exact fun x hx => ⟨_, h.1.1 x hx⟩
theorem getD_at {xs : List D} {i : Nat} (h : i < xs.length) : xs[i]? = some (xs.getD i .none) := by
  rw [List.getD_eq_getElem?_getD, List.getElem?_eq_getElem h]; rfl
theorem minmax_list (hr : Room n X.A) (hc : X.calm = true) (hK : X.K = G.K) {w : V} {x : D} {xs : List D} (mx : Bool) {Q : VK} (q : Rel G.K G.T s σ F H) (v : View G.K F H w (.list (x :: xs))) (h : alikes (x :: xs) = true)
    (d : Done G s σ F H (.dat (if mx then PySem.W.maxD x xs else PySem.W.minD x xs)) Q) : UC X (.builtin (if mx then "max" else "min")) [w] H Q := by
  obtain ⟨ha, hd, _⟩ := alikes_of h
  obtain ⟨a, vs, rfl, h1, h2⟩ := v.list q.sub
  intro pins σ' st us I r
  obtain ⟨its, rv, pl, hz⟩ := I.list (xs := vs) (.inl (.inl h1))
  rw [Vals.ref1 r]
  obtain ⟨as, hrd⟩ := Dp.readsAll I (x :: xs) vs its (by rw [hK]; exact rpAll_dp q.sub h2 (alikes_no h)) rv
  have hu := hr.un
  have hdp : dp = 12 := rfl
  have fin : ∀ (bt : Nat → Nat → Bool) (z : D) (v : Value) (h' : Heap) (tk : Nat), its.toArray[argBest bt xs.length]? = some v → ((x :: xs)[argBest bt xs.length]? = some z) → z = (if mx then PySem.W.maxD x xs else PySem.W.minD x xs) → (∀ b o, st.heap.get? b = some o → h'.get? b = some o) →
      EP X pins σ' Q v { st with heap := h', toks := tk } := fun bt z v h' tk e1 e2 e3 hk => by
    obtain ⟨w', e4, e5⟩ := h2.get e2
    obtain ⟨u', e6, e7⟩ := rv.get e4
    have e8 : its[argBest bt xs.length]? = some v := by simpa using e1
    rw [e6] at e8; cases e8
    exact ⟨w', H, I.kept hk, e7, d.here q (by rw [← e3]; exact e5)⟩
  have hn : its.toArray.size = xs.length + 1 := by
    rw [List.size_toArray, ← rv.length, h2.length]; rfl
  cases mx with
  | true =>
    refine call_max_walkH (PySem.W.iter_listW (A := X.A.in1) (I.ok.hd hc) pl.isList fun s₂ e W stt hfp hw hk => ?_)
    refine ⟨_, _, _, _, _, _, _, st.heap, _, rfl, W, stt, hfp, by omega, hw, hk, PySem.W.cmpIn_gt (A := X.A.in1) (by simpa using hrd) ha (by show X.A.units + 1 + _ < _; omega), fun v s' hP m => ?_⟩
    obtain ⟨h', tk, rfl, hk'⟩ := PySem.W.moved_old e rfl m
    have hP : its.toArray[argBest _ (its.toArray.size - 1)]? = some v := hP
    rw [hn] at hP
    obtain ⟨b1, b2⟩ := PySem.W.argBest_fold (fun a b => PySem.W.dataLt b a) .none x xs xs.length (Nat.le_refl _)
    rw [List.take_length] at b2
    exact fin _ _ v h' tk hP (getD_at (Nat.lt_succ_of_le b1)) b2 hk'
  | false =>
    refine call_min_walkH (PySem.W.iter_listW (A := X.A.in1) (I.ok.hd hc) pl.isList fun s₂ e W stt hfp hw hk => ?_)
    refine ⟨_, _, _, _, _, _, _, st.heap, _, rfl, W, stt, hfp, by omega, hw, hk, PySem.W.cmpIn_lt (A := X.A.in1) (by simpa using hrd) ha (by show X.A.units + 1 + _ < _; omega), fun v s' hP m => ?_⟩
    obtain ⟨h', tk, rfl, hk'⟩ := PySem.W.moved_old e rfl m
    have hP : its.toArray[argBest _ (its.toArray.size - 1)]? = some v := hP
    rw [hn] at hP
    obtain ⟨b1, b2⟩ := PySem.W.argBest_fold (fun a b => PySem.W.dataLt a b) .none x xs xs.length (Nat.le_refl _)
    rw [List.take_length] at b2
    exact fin _ _ v h' tk hP (getD_at (Nat.lt_succ_of_le b1)) b2 hk'
theorem minmax_tup0 (hr : Room n X.A) (hc : X.calm = true) (hK : X.K = G.K) {w : V} {x : D} {xs : List D} (mx : Bool) {Q : VK} (q : Rel G.K G.T s σ F H) (v : ∃ a vs, w = .ref a ∧ Rd H a (.tup vs) ∧ RpAll G.K F vs (x :: xs)) (h : alikes (x :: xs) = true)
    (d : Done G s σ F H (.dat (if mx then PySem.W.maxD x xs else PySem.W.minD x xs)) Q) : UC X (.builtin (if mx then "max" else "min")) [w] H Q := by
  obtain ⟨ha, hd, _⟩ := alikes_of h
  obtain ⟨a, vs, rfl, h1, h2⟩ := v
  intro pins σ' st us I r
  obtain ⟨its, rv, pl, hz⟩ := I.tuple (xs := vs) (.inl h1)
  rw [Vals.ref1 r]
  obtain ⟨as, hrd⟩ := Dp.readsAll I (x :: xs) vs its (by rw [hK]; exact rpAll_dp q.sub h2 (alikes_no h)) rv
  have hu := hr.un
  have hdp : dp = 12 := rfl
  have fin : ∀ (bt : Nat → Nat → Bool) (z : D) (v : Value) (h' : Heap) (tk : Nat), its.toArray[argBest bt xs.length]? = some v → ((x :: xs)[argBest bt xs.length]? = some z) → z = (if mx then PySem.W.maxD x xs else PySem.W.minD x xs) → (∀ b o, st.heap.get? b = some o → h'.get? b = some o) →
      EP X pins σ' Q v { st with heap := h', toks := tk } := fun bt z v h' tk e1 e2 e3 hk => by
    obtain ⟨w', e4, e5⟩ := h2.get e2
    obtain ⟨u', e6, e7⟩ := rv.get e4
    have e8 : its[argBest bt xs.length]? = some v := by simpa using e1
    rw [e6] at e8; cases e8
    exact ⟨w', H, I.kept hk, e7, d.here q (by rw [← e3]; exact e5)⟩
  have hn : its.toArray.size = xs.length + 1 := by
    rw [List.size_toArray, ← rv.length, h2.length]; rfl
  cases mx with
  | true =>
    refine call_max_walkH (PySem.W.iter_tupleW (A := X.A.in1) (I.ok.hd hc) (show st.heap.IsTuple a its.toArray from pl) fun s₂ e W stt hfp hw hk => ?_)
    refine ⟨_, _, _, _, _, _, _, st.heap, _, rfl, W, stt, hfp, by omega, hw, hk, PySem.W.cmpIn_gt (A := X.A.in1) (by simpa using hrd) ha (by show X.A.units + 1 + _ < _; omega), fun v s' hP m => ?_⟩
    obtain ⟨h', tk, rfl, hk'⟩ := PySem.W.moved_old e rfl m
    have hP : its.toArray[argBest _ (its.toArray.size - 1)]? = some v := hP
    rw [hn] at hP
    obtain ⟨b1, b2⟩ := PySem.W.argBest_fold (fun a b => PySem.W.dataLt b a) .none x xs xs.length (Nat.le_refl _)
    rw [List.take_length] at b2
    exact fin _ _ v h' tk hP (getD_at (Nat.lt_succ_of_le b1)) b2 hk'
  | false =>
    refine call_min_walkH (PySem.W.iter_tupleW (A := X.A.in1) (I.ok.hd hc) (show st.heap.IsTuple a its.toArray from pl) fun s₂ e W stt hfp hw hk => ?_)
    refine ⟨_, _, _, _, _, _, _, st.heap, _, rfl, W, stt, hfp, by omega, hw, hk, PySem.W.cmpIn_lt (A := X.A.in1) (by simpa using hrd) ha (by show X.A.units + 1 + _ < _; omega), fun v s' hP m => ?_⟩
    obtain ⟨h', tk, rfl, hk'⟩ := PySem.W.moved_old e rfl m
    have hP : its.toArray[argBest _ (its.toArray.size - 1)]? = some v := hP
    rw [hn] at hP
    obtain ⟨b1, b2⟩ := PySem.W.argBest_fold (fun a b => PySem.W.dataLt a b) .none x xs xs.length (Nat.le_refl _)
    rw [List.take_length] at b2
    exact fin _ _ v h' tk hP (getD_at (Nat.lt_succ_of_le b1)) b2 hk'
theorem minmax_tup (hr : Room n X.A) (hc : X.calm = true) (hK : X.K = G.K) {w : V} {x : D} {xs : List D} (mx : Bool) {Q : VK} (q : Rel G.K G.T s σ F H) (v : View G.K F H w (.tuple (x :: xs))) (h : alikes (x :: xs) = true)
    (d : Done G s σ F H (.dat (if mx then PySem.W.maxD x xs else PySem.W.minD x xs)) Q) : UC X (.builtin (if mx then "max" else "min")) [w] H Q := by
  obtain ⟨a, vs, e, h1, h2⟩ := v.tup q.sub
  exact minmax_tup0 hr hc hK mx q ⟨a, vs, e, .inl h1, h2⟩ h d
theorem minmax_tag (hr : Room n X.A) (hc : X.calm = true) (hK : X.K = G.K) {w : V} {x : D} {xs : List D} (mx : Bool) {Q : VK} (q : Rel G.K G.T s σ F H) (v : View G.K F H w (.dict [(.none, .tuple (x :: xs))])) (h : alikes (x :: xs) = true)
    (d : Done G s σ F H (.dat (if mx then PySem.W.maxD x xs else PySem.W.minD x xs)) Q) : UC X (.builtin (if mx then "max" else "min")) [w] H Q := by
  obtain ⟨a, vs, o, e, _, h1, _, _, h2⟩ := v.tag q.sub
  exact minmax_tup0 hr hc hK mx q ⟨a, vs, e, .inr ⟨o, h1⟩, h2⟩ h d
theorem vals_ea {R : Value → D → Prop} {vs : List V} {ds : List D} {us : List Value} (h2 : RpAll G.K F vs ds) (rv : Vals vs us) (h : ∀ v d u, Rp G.K F v d → RelV v u → R u d) : PySem.W.EachIs R us ds := by
  induction rv generalizing ds with
  | nil => cases h2; exact .nil
  | cons r t ih => cases h2 with
    | cons a b => exact .cons (h _ _ _ a r) (ih b)
theorem vals_eaN {R : Value → D → Prop} {vs : List V} {ds : List D} {us : List Value} (h2 : RpAll G.K F vs ds) (z : ∀ d ∈ ds, NoD d) (rv : Vals vs us) (h : ∀ v d u, Rp G.K F v d → NoD d → RelV v u → R u d) : PySem.W.EachIs R us ds := by
  induction rv generalizing ds with
  | nil => cases h2; exact .nil
  | cons r t ih => cases h2 with
    | cons a b => exact .cons (h _ _ _ a (z _ List.mem_cons_self) r) (ih b fun d hd => z d (List.mem_cons_of_mem _ hd))
theorem ea_back {us : List Value} {ds : List D} (h : PySem.W.EachIs (fun u d => ∃ v, RelV v u ∧ Rp G.K F v d) us ds) : ∃ vs, Vals vs us ∧ RpAll G.K F vs ds := by
  induction h with
  | nil => exact ⟨[], .nil, .nil⟩
  | cons a t ih =>
    obtain ⟨v, r, p⟩ := a
    obtain ⟨vs, rs, ps⟩ := ih
    exact ⟨v :: vs, .cons r rs, .cons p ps⟩
theorem sortsAt_one {P : Program} {w : World} {A : Around} {st : Shared} {u : Value} {d : D} (h : ∃ as, Reads st.heap u d as) (hal : PySem.W.alike d d = true) (hn : d ≠ .none) (hu : A.units + d.depth < cLine) : PySem.W.SortsAt P w A st (PySem.W.dataKind st.heap [d]) [u] := by
  have hal' : PySem.W.AllAlike [d] := fun x hx y hy => by
    rw [List.mem_singleton] at hx hy; rw [hx, hy]; exact hal
  refine ⟨fun v hv => ?_, general', fun E x y a b Q ha hb hq => ?_, fun h2 => absurd h2 (by simp)⟩
  · rw [List.mem_singleton] at hv
    subst hv
    obtain ⟨as, r⟩ := h
    exact ⟨_, PySem.W.dataKind_some hal' (List.mem_singleton.mpr rfl) r⟩
  · obtain ⟨d1, as, hd1, ra, rfl⟩ := PySem.W.dataKind_inv ha
    obtain ⟨d2, bs, hd2, rb, rfl⟩ := PySem.W.dataKind_inv hb
    rw [List.mem_singleton] at hd1 hd2
    subst hd1; subst hd2
    have e : keyLt' general' x y = oneLt' false x y := rfl
    rw [e]
    exact PySem.W.oneLt_alike (fun z => nomatch z) ra rb hal hn (by rw [Nat.min_self]; exact hu) hq
theorem sorted_ok (hr : Room n X.A) (hK : X.K = G.K) {w : V} {xs : List D} {Q : VK} (q : Rel G.K G.T s σ F H) (v : View G.K F H w (.list xs)) (h : sortable xs = true)
    (d : Done G s σ F H (.fr (.list (sortD xs))) Q) : UC X (.builtin "sorted") [w] H Q := by
  unfold sortable at h
  simp only [Bool.and_eq_true, Bool.or_eq_true, decide_eq_true_eq] at h
  obtain ⟨⟨h0, hk⟩, hz⟩ := h
  obtain ⟨ha, hd, hdd⟩ := alikes_of h0
  obtain ⟨a, vs, rfl, h1, h2⟩ := v.list q.sub
  intro pins σ' st us I r
  obtain ⟨its, rv, pl, hz2⟩ := I.list (xs := vs) (.inl (.inl h1))
  rw [Vals.ref1 r]
  have hu := hr.un
  have hdp : dp = 12 := rfl
  have eR : PySem.W.EachIs (fun u d => ∃ v, RelV v u ∧ Rp G.K F v d) its xs := vals_ea h2 rv fun v d u a b => ⟨v, b, a⟩
  have eD : PySem.W.EachIs (fun u (d : D) => ∃ as, Reads st.heap u (id d) as) its xs := vals_eaN h2 (alikes_no h0) rv fun v d u a z b => Dp.reads I d v u (by rw [hK]; exact a.dp q.sub z) b
  have hal : PySem.W.AllAlike (xs.map id) := by rw [List.map_id]; exact fun x hx y hy => ha.1 x hx y hy
  have fin : ∀ out : List Value, PySem.W.EachIs (fun u d => ∃ v, RelV v u ∧ Rp G.K F v d) out (sortD xs) → EP X pins σ' Q (.ref (st.heap.objs.size + 1)) { st with heap := sortedAll st.heap its out.toArray } := fun out he => by
    obtain ⟨zs, rz, pz⟩ := ea_back he
    obtain ⟨ep, he'⟩ := PyProof.Rows.sortedAll_at st.heap its out.toArray
    have hlen : zs.length ≤ sizeLine := by
      rw [pz.length]
      have e : (sortD xs).length = xs.length := by unfold sortD; exact List.length_mergeSort _
      rw [e, ← lim_eq]; exact hz
    exact ⟨.ref _, upd H (st.heap.objs.size + 1) (.lst zs), I.laid (t' := st.toks) (fun _ _ => PyProof.Rows.sortedAll_old) (Nat.le_succ _) ⟨hlen, out, ep, rz, he'⟩, rfl, d.lst q pz _ (I.hok.fresh (Nat.le_succ _))⟩
  have hL : xs.length ≤ sizeLine := by rw [← lim_eq]; exact hz
  have hb : ∀ b, b ∈ xs → X.A.units + 2 + (id b : D).depth < cLine := fun b hb => by
    have := hdd b hb
    show X.A.units + 2 + b.depth < _
    omega
  rcases hk with hk | hk | hk
  · -- at most one
    cases xs with
    | nil => exact PySem.W.sorted_data (enc := id) pl.isList eR eD hal (.inl fun d hd => by simp at hd) hL hb fun out _ he => fin out he
    | cons x xs =>
      cases xs with
      | cons y ys => simp at hk
      | nil =>
        cases eD with
        | cons r1 t1 =>
          cases t1
          rename_i u
          obtain ⟨as, r1⟩ := r1
          have hone : x ∈ [x] := List.mem_singleton.mpr rfl
          have hax := ha.1 x hone x hone
          have hS : PySem.W.SortsAt X.prog X.w X.A.in1.in1 { st with heap := PySem.W.sortingHeap (PySem.W.copyHeap st.heap [u]) (st.heap.objs.size + 1) [u] } (PySem.W.dataKind (PySem.W.sortingHeap (PySem.W.copyHeap st.heap [u]) (st.heap.objs.size + 1) [u]) [x]) [u] :=
            sortsAt_one ⟨as, PyProof.Rows.Reads.keeps (fun _ _ => PySem.W.sorting_copy_old) r1⟩ hax (ha.2 x hone) (by have := hb x hone; show X.A.units + 1 + 1 + x.depth < _; exact this)
          refine PySem.W.sorted_vals (vs := [u]) pl.isList hS hL (fin _ ?_)
          exact PySem.W.sortVals_data (h' := PySem.W.sortingHeap (PySem.W.copyHeap st.heap [u]) (st.heap.objs.size + 1) [u]) (enc := id) (bs := [x]) false eR (.cons ⟨as, PyProof.Rows.Reads.keeps (fun _ _ => PySem.W.sorting_copy_old) r1⟩ .nil) hal
  · refine PySem.W.sorted_data (enc := id) pl.isList eR eD hal ?_ hL hb fun out _ he => fin out he
    rw [List.map_id]
    refine .inl fun d hd => ?_
    have := List.all_eq_true.mp hk d hd
    cases d with
    | tuple ys => cases ys with
      | nil => cases this
      | cons y ys => exact ⟨y, ys, rfl⟩
    | _ => cases this
  · refine PySem.W.sorted_data (enc := id) pl.isList eR eD hal ?_ hL hb fun out _ he => fin out he
    rw [List.map_id]
    refine .inr fun d hd => ⟨ha.2 d hd, fun ys e => ?_⟩
    have := List.all_eq_true.mp hk d hd
    rw [e] at this
    cases this
end
end Fs
set_option Elab.async false
set_option linter.all false
set_option maxRecDepth 100000
set_option maxHeartbeats 2000000
namespace Fs
open PySem PySem.Spec PyProof.Rows L2
/-! ### any, all of a tuple of bools -/
def rAnyT (K : PySem.W.Frag) (al : Bool) : List V → Hp → VK → Prop := fun vs H Q => ∃ (t : Addr) (bs : List Bool), vs = [.ref t] ∧ SqT K H t (bs.map V.bl) ∧ Q (.bl (if al = true then bs.all id else bs.any id)) H
section
variable {X : Cx}
theorem iter_t {prog : Program} {w : World} {A : Around} {E : Value → Shared → Prop} {s : Shared} {t : Addr} {its : Array Value} {P : Value → Shared → Prop} (ht : s.heap.IsTuple t its)
    (h : ∀ s2 : Shared, s2 = { s with heap := s.heap.push { cls := .type "tuple_iterator", data := .fields #[.ref t, .int 0 0] } } → s2.heap.IsTupleIter s.heap.objs.size t 0 → s2.heap.IsTuple t its → t ≠ s.heap.objs.size → P (.ref s.heap.objs.size) s2) :
    wpAny (model prog w) A (pyIter (.ref t)) P E s := by
  have hlt : t < s.heap.objs.size := by
    obtain ⟨_, e, _⟩ := ht
    exact Heap.lt_size e
  refine wpAny_pyIter_tuple ht (h _ rfl ⟨_, Heap.get?_push_size _ rfl, rfl, rfl⟩ (ht.push _) (Nat.ne_of_lt hlt))
theorem cr_allT (hc : X.calm = true) : CallR X (.builtin "all") (rAnyT X.K true) := by
  intro pins s σ H vs us Q I r ⟨t, bs, e, hs, q⟩
  subst e
  obtain ⟨its, rv, hl, _⟩ := I.tuple hs
  rw [Vals.ref1 r]
  have hb := rv.bls
  refine call_all_walk (iter_t (its := its.toArray) hl fun s2 e2 h1 h2 hne => ?_)
  subst e2
  refine ⟨_, _, _, _, _, _, _, rfl, Walks.tuple (A := X.A.in1) (I.ok.hd hc) _ t hne its.toArray, ⟨h1, h2⟩, truth_bools hb, fun h' tk hk => ?_⟩
  have I2 := Inv.kept (t' := tk) I fun b o eo => hk b o (fun hm => by
    rcases List.mem_cons.mp hm with z | z
    · exact absurd (z ▸ Heap.lt_size eo) (Nat.lt_irrefl _)
    · cases z) (Heap.get?_push_of_some _ eo)
  refine ⟨.bl _, H, I2, ?_, q⟩
  show Value.bool _ = Value.bool _
  rw [if_pos rfl, ← L2.all_range, hb, List.size_toArray, List.length_map]
theorem cr_anyT (hc : X.calm = true) : CallR X (.builtin "any") (rAnyT X.K false) := by
  intro pins s σ H vs us Q I r ⟨t, bs, e, hs, q⟩
  subst e
  obtain ⟨its, rv, hl, _⟩ := I.tuple hs
  rw [Vals.ref1 r]
  have hb := rv.bls
  refine call_any_walk (iter_t (its := its.toArray) hl fun s2 e2 h1 h2 hne => ?_)
  subst e2
  refine ⟨_, _, _, _, _, _, _, rfl, Walks.tuple (A := X.A.in1) (I.ok.hd hc) _ t hne its.toArray, ⟨h1, h2⟩, truth_bools hb, fun h' tk hk => ?_⟩
  have I2 := Inv.kept (t' := tk) I fun b o eo => hk b o (fun hm => by
    rcases List.mem_cons.mp hm with z | z
    · exact absurd (z ▸ Heap.lt_size eo) (Nat.lt_irrefl _)
    · cases z) (Heap.get?_push_of_some _ eo)
  refine ⟨.bl _, H, I2, ?_, q⟩
  show Value.bool _ = Value.bool _
  rw [if_neg Bool.false_ne_true, ← L2.any_range, hb, List.size_toArray, List.length_map]
end
end Fs
set_option Elab.async false
set_option linter.all false
set_option maxRecDepth 100000
set_option maxHeartbeats 2000000
namespace Fs
open PySem PySem.Spec PyProof.Rows L2
section
variable {G : Gl0} {EX : XK} {X : Cx} {s s' : S} {σ : L2.St} {F H F' H' : Hp} {f : E → S → R Vl} {n : Nat}
/-- a tuple made of a list: it is known whole -/
theorem call_tupZ : CallR X (.type "tuple") (fun as B K => ∃ p ys, as = [.ref p] ∧ SqL X.K B p ys ∧ ∀ (l : Addr) (o : Obj), B l = none → o.cls = .type "tuple" → o.dict = none → K (.ref l) (upd B l (.frz o (.tup ys)))) := by
  intro pins st τ B as us K I rr hh
  obtain ⟨p, ys, rfl, hq, kk⟩ := hh
  obtain ⟨u, rfl, ru⟩ := vals1 rr
  cases ru
  obtain ⟨its, rv, pl, hz⟩ := I.list hq
  have hn := rv.length
  refine call_tuple_list pl.isList (fun hp keeps => ?_) (by rw [List.size_toArray]; omega)
  have J := I.kept (t' := st.toks) keeps
  let ob : Obj := { cls := .type "tuple", data := .seq its.toArray }
  have J2 : Inv X pins τ (upd B hp.objs.size (.frz ob (.tup ys))) { st with heap := hp.push ob } :=
    J.laid (t' := st.toks) (o := .frz ob (.tup ys)) (fun b o e => Heap.get?_push_of_some _ e) (Nat.le_refl _) ⟨Heap.get?_push_size _ rfl, hz, its, rv, IsTup.new _ _⟩
  exact ⟨.ref hp.objs.size, _, J2, rfl, kk _ ob (J.hok.fresh (Nat.le_refl _)) rfl rfl⟩
/-- what the text calls -/
def primN : Pr → Str
  | .abs => "abs" | .int => "int" | .len => "len" | .max2 => "max" | .max1 => "max" | .min2 => "min" | .min1 => "min" | .sorted => "sorted" | .tuple => "tuple" | .list => "list" | .any => "any" | .all => "all"
  | .str => "str" | .dict => "dict" | .lenset => "len" | .sortset => "sorted" | .tagT => "tuple"
def primV : Pr → Value
  | .abs => .builtin "abs" | .int => .type "int" | .len => .builtin "len" | .max2 => .builtin "max" | .max1 => .builtin "max" | .min2 => .builtin "min" | .min1 => .builtin "min" | .sorted => .builtin "sorted" | .tuple => .type "tuple"
  | .list => .type "list" | .any => .builtin "any" | .all => .builtin "all" | .str => .type "str" | .dict => .type "dict" | .lenset => .builtin "len" | .sortset => .builtin "sorted" | .tagT => .type "tuple"
/-- a plain one -/
def plainP : Pr → Bool
  | .str => false | .dict => false | .lenset => false | .sortset => false | .len => false
  | _ => true
theorem prim_ok (hr : Room n X.A) (hc : X.calm = true) (hK : X.K = G.K) {p : Pr} {ws : List V} {ds : List D} {r : Vl} {Q : VK} (hp : plainP p = true) (e : prim p ds = some r) (q : Rel G.K G.T s σ F H) (vw : Views G.K F H ws ds) (k : Done G s σ F H r Q) : UC X (primV p) ws H Q := by
  unfold prim at e
  split at e
  · cases e
    obtain ⟨w, rfl, v⟩ := vw.one
    have ev := v.int; subst ev
    rename_i i
    refine UC.of call_abs ⟨i, rfl, k.here q ?_⟩
    have e : (if i < 0 then -i else i) = (i.natAbs : Int) := by split <;> omega
    rw [e]; exact .int _
  · cases e
    obtain ⟨w, rfl, v⟩ := vw.one
    have ev := v.int; subst ev
    exact UC.of call_int1 (.inl ⟨_, rfl, k.here q (.int _)⟩)
  · cases e
    obtain ⟨w, rfl, v⟩ := vw.one
    have ev := v.bool; subst ev
    exact UC.of call_int1 (.inr ⟨_, rfl, k.here q (.int _)⟩)
  · cases hp
  · cases hp
  · cases hp
  · cases e
    obtain ⟨w, u, rfl, v, v2⟩ := vw.two
    have ev := v.int; subst ev
    have ev := v2.int; subst ev
    exact UC.of (call_max2 hc) ⟨_, _, rfl, k.here q (.int _)⟩
  · cases e
    obtain ⟨w, u, rfl, v, v2⟩ := vw.two
    have ev := v.int; subst ev
    have ev := v2.int; subst ev
    exact UC.of (call_min2 hc) ⟨_, _, rfl, k.here q (.int _)⟩
  · split at e
    · rename_i h
      cases e
      obtain ⟨w, rfl, v⟩ := vw.one
      exact minmax_list hr hc hK true q v h k
    · cases e
  · split at e
    · rename_i h
      cases e
      obtain ⟨w, rfl, v⟩ := vw.one
      exact minmax_tup hr hc hK true q v h k
    · cases e
  · split at e
    · rename_i h
      cases e
      obtain ⟨w, rfl, v⟩ := vw.one
      exact minmax_list hr hc hK false q v h k
    · cases e
  · split at e
    · rename_i h
      cases e
      obtain ⟨w, rfl, v⟩ := vw.one
      exact minmax_tup hr hc hK false q v h k
    · cases e
  · split at e
    · rename_i h
      cases e
      obtain ⟨w, rfl, v⟩ := vw.one
      exact sorted_ok hr hK q v h k
    · cases e
  · cases e
    obtain ⟨w, rfl, v⟩ := vw.one
    obtain ⟨a, vs, rfl, h1, h2⟩ := v.list q.sub
    exact UC.of call_tuple_of ⟨a, vs, rfl, .inl ⟨.inl (.inl h1), k.tup q h2⟩⟩
  · cases e
    obtain ⟨w, rfl, v⟩ := vw.one
    have vF := v.tupF
    obtain ⟨a, vs, rfl, h1, h2⟩ := v.tup q.sub
    exact UC.of call_tuple_of ⟨a, vs, rfl, .inr ⟨.inl (.inl h1), k.here q vF⟩⟩
  · cases e
    obtain ⟨w, rfl, v⟩ := vw.one
    obtain ⟨a, vs, rfl, h1, h2⟩ := v.list q.sub
    exact UC.of call_list_of ⟨a, vs, rfl, .inl (.inl (.inl h1)), k.lst q h2⟩
  · cases e
    obtain ⟨w, rfl, v⟩ := vw.one
    obtain ⟨a, vs, rfl, h1, h2⟩ := v.tup q.sub
    exact UC.of call_list_of ⟨a, vs, rfl, .inr (.inl (.inl h1)), k.lst q h2⟩
  · obtain ⟨bs, e1, e2⟩ := Option.map_eq_some_iff.mp e
    subst e2
    obtain ⟨w, rfl, v⟩ := vw.one
    obtain ⟨a, vs, rfl, h1, h2⟩ := v.list q.sub
    have e3 := bools_ok e1 h2
    subst e3
    exact UC.of (cr_any hc) ⟨a, bs, rfl, .inl (.inl h1), k.here q (.bl _)⟩
  · obtain ⟨bs, e1, e2⟩ := Option.map_eq_some_iff.mp e
    subst e2
    obtain ⟨w, rfl, v⟩ := vw.one
    obtain ⟨a, vs, rfl, h1, h2⟩ := v.list q.sub
    have e3 := bools_ok e1 h2
    subst e3
    exact UC.of (cr_all hc) ⟨a, bs, rfl, .inl (.inl h1), k.here q (.bl _)⟩
  · obtain ⟨bs, e1, e2⟩ := Option.map_eq_some_iff.mp e
    subst e2
    obtain ⟨w, rfl, v⟩ := vw.one
    obtain ⟨a, vs, rfl, h1, h2⟩ := v.tup q.sub
    have e3 := bools_ok e1 h2
    subst e3
    exact UC.of (cr_anyT hc) ⟨a, bs, rfl, .inl (.inl h1), k.here q (.bl _)⟩
  · obtain ⟨bs, e1, e2⟩ := Option.map_eq_some_iff.mp e
    subst e2
    obtain ⟨w, rfl, v⟩ := vw.one
    obtain ⟨a, vs, rfl, h1, h2⟩ := v.tup q.sub
    have e3 := bools_ok e1 h2
    subst e3
    exact UC.of (cr_allT hc) ⟨a, bs, rfl, .inl (.inl h1), k.here q (.bl _)⟩
  · cases e
    obtain ⟨w, rfl, v⟩ := vw.one
    obtain ⟨a, vs, rfl, h1, h2⟩ := v.list q.sub
    exact UC.of call_tupZ ⟨a, vs, rfl, .inl (.inl h1), k.tag q h2⟩
  · cases hp
  · split at e
    · rename_i h
      cases e
      obtain ⟨w, rfl, v⟩ := vw.one
      exact minmax_tag hr hc hK true q v h k
    · cases e
  · split at e
    · rename_i h
      cases e
      obtain ⟨w, rfl, v⟩ := vw.one
      exact minmax_tag hr hc hK false q v h k
    · cases e
  · cases hp
  · cases e
/-! len(set(xs)) of ints -/
theorem ints_of {ds : List D} {vs : List V} (h : ds.all isInt = true) (r : RpAll G.K F vs ds) : ∃ ns : List Int, ds = ns.map .int ∧ vs = ns.map V.int := by
  induction ds generalizing vs with
  | nil => cases r; exact ⟨[], rfl, rfl⟩
  | cons d ds ih =>
    rw [List.all_cons, Bool.and_eq_true] at h
    cases r with
    | cons a t =>
      obtain ⟨ns, e1, e2⟩ := ih h.2 t
      cases d with
      | int i => cases a; exact ⟨i :: ns, by rw [e1]; rfl, by rw [e2]; rfl⟩
      | _ => exact absurd h.1 (by simp [isInt])
theorem once_ints (ns acc : List Int) : ((ns.map PyData.int).foldl stepD (acc.map .int)) = (ns.foldl PyProof.Rows.step_dedup acc).map .int := by
  induction ns generalizing acc with
  | nil => rfl
  | cons n ns ih =>
    rw [List.map_cons, List.foldl_cons, List.foldl_cons, ← ih]
    congr 1
    unfold stepD PyProof.Rows.step_dedup
    have e : ((acc.map PyData.int).any fun y => PyData.eqv y (.int n)) = acc.any (· == n) := by
      rw [List.any_map]
      congr 1
    rw [e]
    split
    · rfl
    · rw [List.map_append]; rfl
theorem firstMet_all (ns : List Int) : firstMet (fun i => ns.getD i 0) ns.length = ns.foldl PyProof.Rows.step_dedup [] := by
  unfold firstMet
  congr 1
  apply List.ext_getElem
  · simp
  · intro i h1 h2
    simp only [List.getElem_map, List.getElem_range]
    rw [List.getD_eq_getElem?_getD, List.getElem?_eq_getElem h2]; rfl
/-! .. of tuples of ints -/
theorem q0_int (a b : Int) : PyData.eqv (.int a) (.int b) = decide (a = b) := by
  simp only [PyData.eqv]
  by_cases h : a = b <;> simp [h]
theorem q0_all : ∀ a b : List Int, PyData.eqvAll (a.map .int) (b.map .int) = decide (a = b)
  | [], [] => by simp [PyData.eqvAll]
  | [], _ :: _ => by simp [PyData.eqvAll]
  | _ :: _, [] => by simp [PyData.eqvAll]
  | x :: a, y :: b => by
    have ih := q0_all a b
    simp only [List.map_cons, PyData.eqvAll, q0_int, ih]
    by_cases h1 : x = y <;> by_cases h2 : a = b <;> simp [h1, h2]
def q0T (r : List Int) : D := .tuple (r.map .int)
theorem q0_tup (a b : List Int) : PyData.eqv (q0T a) (q0T b) = decide (a = b) := by
  simp only [q0T, PyData.eqv, q0_all]
def stepR (acc : List (List Int)) (r : List Int) : List (List Int) := if r ∈ acc then acc else acc ++ [r]
theorem once_rows : ∀ (rs acc : List (List Int)), ((rs.map q0T).foldl stepD (acc.map q0T)) = (rs.foldl stepR acc).map q0T
  | [], _ => rfl
  | r :: rs, acc => by
    rw [List.map_cons, List.foldl_cons, List.foldl_cons, ← once_rows rs (stepR acc r)]
    congr 1
    unfold stepD stepR
    have e : ((acc.map q0T).any fun y => PyData.eqv y (q0T r)) = decide (r ∈ acc) := by
      rw [List.any_map, Bool.eq_iff_iff, List.any_eq_true, decide_eq_true_eq]
      constructor
      · rintro ⟨y, hy, e⟩
        simp only [Function.comp, q0_tup, decide_eq_true_eq] at e
        rw [← e]; exact hy
      · intro h; exact ⟨r, h, by simp [q0_tup]⟩
    rw [e]
    by_cases h : r ∈ acc
    · rw [decide_eq_true h, if_pos rfl, if_pos h]
    · rw [decide_eq_false h, if_neg (by simp), if_neg h, List.map_append]; rfl
theorem stepR_ok : ∀ (rs acc : List (List Int)), acc.Nodup → (rs.foldl stepR acc).Nodup ∧ ∀ r, r ∈ rs.foldl stepR acc ↔ r ∈ acc ∨ r ∈ rs
  | [], acc, h => ⟨h, fun r => by simp⟩
  | r :: rs, acc, h => by
    rw [List.foldl_cons]
    by_cases c : r ∈ acc
    · rw [show stepR acc r = acc from if_pos c]
      obtain ⟨a, b⟩ := stepR_ok rs acc h
      refine ⟨a, fun x => ?_⟩
      rw [b x, List.mem_cons]
      constructor
      · rintro (z | z); exact .inl z; exact .inr (.inr z)
      · rintro (z | z | z); exact .inl z; exact .inl (z ▸ c); exact .inr z
    · rw [show stepR acc r = acc ++ [r] from if_neg c]
      obtain ⟨a, b⟩ := stepR_ok rs (acc ++ [r]) (by
        rw [List.nodup_append]
        exact ⟨h, by simp, fun x hx y hy e => c (by rw [List.mem_singleton.mp hy] at e; rw [← e]; exact hx)⟩)
      refine ⟨a, fun x => ?_⟩
      rw [b x, List.mem_append, List.mem_singleton, List.mem_cons, or_assoc]
theorem q0_len {α : Type} [DecidableEq α] : ∀ {r l : List α}, r.Nodup → (∀ x ∈ r, x ∈ l) → r.length ≤ l.length
  | [], l, _, _ => by simp
  | x :: r, l, hn, hs => by
    have hx := hs x List.mem_cons_self
    have h1 := List.nodup_cons.mp hn
    have := q0_len (r := r) (l := l.erase x) h1.2 fun y hy => by
      have hne : y ≠ x := fun e => h1.1 (e ▸ hy)
      exact (List.mem_erase_of_ne hne).mpr (hs y (List.mem_cons_of_mem _ hy))
    rw [List.length_erase_of_mem hx] at this
    have := List.length_pos_of_mem hx
    simp; omega
theorem once_count {rs L : List (List Int)} (hn : L.Nodup) (h1 : ∀ r ∈ L, r ∈ rs) (h2 : ∀ r ∈ rs, r ∈ L) : (once (rs.map q0T)).length = L.length := by
  have e : once (rs.map q0T) = (rs.foldl stepR []).map q0T := once_rows rs []
  obtain ⟨a, b⟩ := stepR_ok rs [] List.nodup_nil
  rw [e, List.length_map]
  have l1 := q0_len (l := L) a fun x hx => by
    rcases (b x).mp hx with z | z
    · cases z
    · exact h2 x z
  have l2 := q0_len (l := rs.foldl stepR []) hn fun x hx => (b x).mpr (.inr (h1 x hx))
  omega
theorem tups_of {ds : List D} {vs : List V} (h : ds.all isTupI = true) (r : RpAll G.K F vs ds) : ∃ ks : List (Addr × List Int), ds = (ks.map (·.2)).map q0T ∧ vs = ks.map (fun p => V.ref p.1) ∧ ∀ p ∈ ks, F p.1 = some (.tup (p.2.map V.int)) := by
  induction ds generalizing vs with
  | nil => cases r; exact ⟨[], rfl, rfl, fun _ h => nomatch h⟩
  | cons d ds ih =>
    rw [List.all_cons, Bool.and_eq_true] at h
    cases r with
    | cons a t =>
      obtain ⟨ks, e1, e2, e3⟩ := ih h.2 t
      cases d with
      | tuple ys =>
        cases a with
        | tup hF hr =>
          obtain ⟨ns, e4, e5⟩ := ints_of (show ys.all isInt = true from h.1) hr
          rename_i b vs'
          refine ⟨(b, ns) :: ks, by rw [e1, e4]; rfl, by rw [e2]; rfl, fun p hp => ?_⟩
          rcases List.mem_cons.mp hp with rfl | hp
          · rw [hF, e5]
          · exact e3 p hp
      | _ => exact absurd h.1 (by simp [isTupI])
def tLS (X : Cx) (ta : TE) (rr : V → Hp → VK → Prop) : TE := fun σ H Q => ta σ H fun x H1 => rr x H1 Q
theorem pe_lenset {nn : Nat} {a : Expr} {ta : TE} {p p2 q pos : Pos} (hr : Room nn X.A) (hc : X.calm = true) (hg : Gl X "len") (hm : X.mg "len" = none) (hg2 : Gl X "set") (hm2 : X.mg "set" = none) (ha : PE X a ta)
    (na : starEach [a] X.env = (false, eval a X.env) :: starEach [] X.env) : PE X (.Call (.Name "len" p) [.Call (.Name "set" p2) [a] [] q] [] pos)
      (fun σ H Q => ta σ H fun x H1 => (∃ (l : Addr) (ns : List Int), x = .ref l ∧ SqL X.K H1 l (ns.map V.int) ∧ ns.length ≤ 4000 ∧ Q (.int (ns.foldl PyProof.Rows.step_dedup []).length) H1) ∨
        ∃ (l : Addr) (ks : List (Addr × List Int)), x = .ref l ∧ SqL X.K H1 l (ks.map fun p => V.ref p.1) ∧ (∀ p ∈ ks, SqT X.K H1 p.1 (p.2.map V.int)) ∧ ks.length < 64 ∧ Q (.int (once ((ks.map (·.2)).map q0T)).length) H1) := by
  have hu := hr.units
  refine ⟨fun pins s σ H Q I h => ?_⟩
  refine Call_ (ld_blt I hg hm PySem.boot_len ?_)
  refine PyProof.Rows.callWith_builtin1 (PyProof.Rows.args_cons ?_ rfl) rfl rfl
  refine Call_ (ld_blt I hg2 hm2 PyProof.Rows.boot_set ?_)
  refine PyProof.Rows.callWith_type1 (PyProof.Rows.args_cons (thn (ha.run pins s σ H _ I h) fun v s1 ⟨x, H1, I1, r1, q1⟩ => PyProof.Rows.args_nil ?_) na) na rfl
  rcases q1 with ⟨l, ns, rfl, hq, hl, q1⟩ | ⟨l, ks, rfl, hq, hk, hl, q1⟩
  case inr =>
    cases r1
    obtain ⟨its, rv, pl, hz⟩ := I1.list hq
    refine call_set_tups (P := X.prog) (w := X.w) ks (I1.ok.hd hc) pl.isList (by simpa using refs_of_vals rv) (fun p hp => I1.isT (hk p hp)) hl (by show X.A.units + 3 < cLine; omega) fun h' tk L es ep t R g k => ?_
    refine PyProof.Rows.args_nil ?_
    obtain ⟨o, ho, hex, hd⟩ := R.ob
    have I2 : Inv X pins σ H1 { s1 with heap := h', toks := tk } := I1.kept k
    have hcnt : (once ((ks.map (·.2)).map q0T)).length = L.length := by
      rw [once_count (L := L.map (·.2)) R.nd (fun r hr => ?_) (fun r hr => ?_), List.length_map]
      · obtain ⟨p, hp, rfl⟩ := List.mem_map.mp hr
        exact List.mem_map.mpr ⟨p, List.mem_of_mem_take (g.sub p hp), rfl⟩
      · obtain ⟨p, hp, rfl⟩ := List.mem_map.mp hr
        exact g.all p (by rw [List.take_length]; exact hp)
    have hn : es.size = L.length := SetTR.size (s := { s1 with heap := h', toks := tk }) R
    have hf := SetTR.fits (s := { s1 with heap := h', toks := tk }) R
    have hfew := R.few
    exact call_len_set ho hex hd hf (by rw [hn]; omega) ⟨.int _, H1, I2.tok _, ⟨_, by rw [hn, hcnt]⟩, q1⟩
  cases r1
  obtain ⟨its, r, pl, hz⟩ := I1.list hq
  have hlen : its.toArray.size = ns.length := by rw [List.size_toArray, ← r.length, List.length_map]
  refine call_set_list (I1.ok.hd hc) pl.isList (by simpa using RZ.intsAre_vals r) (by rw [hlen]; unfold scanBound; omega) fun h' tk hS hk => ?_
  refine PyProof.Rows.args_nil ?_
  rw [hlen, firstMet_all] at hS
  obtain ⟨o, es, ep, t, ho, hex, hd, _, _, _, hf, hn⟩ := hS
  have I2 : Inv X pins σ H1 { s1 with heap := h', toks := tk } := I1.kept fun b o e => hk b o (Heap.lt_size e) e
  have hle : (ns.foldl PyProof.Rows.step_dedup []).length ≤ ns.length := PyProof.Rows.foldl_step_dedup_nil_length_le ns
  exact call_len_set ho hex hd hf (by rw [hn]; omega) ⟨.int _, H1, I2.tok _, ⟨_, by rw [hn]⟩, q1⟩
end
end Fs
set_option Elab.async false
set_option linter.all false
set_option maxRecDepth 100000
set_option maxHeartbeats 2000000
namespace Fs
open PySem PySem.Spec PyProof.Rows L2
section
variable {G : Gl0} {EX : XK} {X : Cx} {s s' : S} {σ : L2.St} {F H F' H' : Hp} {f : E → S → R Vl} {n : Nat} {a : E} {xa : Expr} {pos p : Pos}
theorem boot_prim (q : Pr) : bootBuiltins (primN q) = some (primV q) := by
  cases q <;> decide +kernel
/-- a name that the module leaves to the builtins -/
structure BtOk (X : Cx) (x : Str) : Prop where
  gl : Gl X x
  mg : X.mg x = none
theorem noStar_back (env : Env) : ∀ {xs : List Expr}, xs.any isStar = false → (backTo pos (starEach xs env)).any (·.1) = false
  | [], _ => rfl
  | x :: xs, h => by
    rw [List.any_cons, Bool.or_eq_false_iff] at h
    rw [starEach_cons h.1]
    show (false || (backTo pos (starEach xs env)).any (·.1)) = false
    rw [noStar_back env h.2]; rfl
theorem primN_ok (q : Pr) : primN q ≠ "__name__" ∧ (primN q == ("__debug__" : Str)) = false := by cases q <;> decide
theorem pe_prim {q : Pr} (b : BtOk X (primN q)) {x : Expr} {xs : List Expr} (h1 : isStar x = false) (h2 : xs.any isStar = false) : PE X (.Call (.Name (primN q) p) (x :: xs) [] pos) (tCB (UC X (primV q)) (SA X (x :: xs))) := by
  obtain ⟨e1, e2⟩ := primN_ok q
  have hb := boot_prim q
  have k : ∀ id, primV q = .builtin id → PE X (.Call (.Name (primN q) p) (x :: xs) [] pos) (tCB (UC X (primV q)) (SA X (x :: xs))) := fun id e => by
    rw [e] at hb ⊢
    exact pe_callB call_UC b.gl b.mg hb pa_SA e1 e2 (starEach_cons h1 _) (noStar_back _ h2)
  have k2 : ∀ id, primV q = .type id → PE X (.Call (.Name (primN q) p) (x :: xs) [] pos) (tCB (UC X (primV q)) (SA X (x :: xs))) := fun id e => by
    rw [e] at hb ⊢
    exact pe_callTy call_UC b.gl b.mg hb pa_SA e1 e2 (starEach_cons h1 _) (noStar_back _ h2)
  cases q <;> first | exact k _ rfl | exact k2 _ rfl
theorem hr_prim (hr : Room n X.A) (hc : X.calm = true) (hK : X.K = G.K) {q : Pr} (hp : plainP q = true) (b : BtOk X (primN q)) {es : List E} {x : Expr} {xs : List Expr} (h : HPs G EX X (opds f es) (x :: xs)) (h1 : isStar x = false) (h2 : xs.any isStar = false) :
    HR G EX X (fun s => withO f es s (prim q)) (.Call (.Name (primN q) p) (x :: xs) [] pos) := by
  intro s σ F H Q r0 pp
  refine SE.of (pe_prim b h1 h2) (h s σ F H _ r0 (pp.bindB.imp fun os s1 F1 H1 g1 r1 k1 ws ho hn => ?_))
  split at k1
  · rename_i ds e
    obtain ⟨r, e3, p3⟩ := k1.some
    exact prim_ok hr hc hK hp e3 r1 (ho.views r1 e) (.of g1 p3)
  · exact k1.elim
theorem hr_len (hK : X.K = G.K) (b : BtOk X "len") (h : HP G EX X (opd f a) xa) (h1 : isStar xa = false) : HR G EX X (fun s => withS f [a] s (prim .len)) (.Call (.Name "len" p) [xa] [] pos) := by
  intro s σ F H Q r0 pp
  refine SE.of (pe_prim (q := .len) b h1 rfl) ?_
  refine SA.of (pa_cons pe_SE pa_nil (starEach_cons h1 _)) (op1 h r0 pp fun s1 F1 H1 x oa g1 r1 ho k1 => ?_)
  split at k1
  · rename_i ds e
    obtain ⟨d, rfl, e1⟩ := looksS1 e
    obtain ⟨r, e3, p3⟩ := k1.some
    exact len_ok hK e3 r1 (ho.viewS r1 e1) (.of g1 p3)
  · exact k1.elim
theorem hr_lenset {nn : Nat} {p2 p3 : Pos} (hr : Room nn X.A) (hc : X.calm = true) (hK : X.K = G.K) (b : BtOk X "len") (b2 : BtOk X "set") (h : HP G EX X (opd f a) xa) (h1 : isStar xa = false) : HR G EX X (fun s => withO f [a] s (prim .lenset)) (.Call (.Name "len" p) [.Call (.Name "set" p2) [xa] [] p3] [] pos) := by
  intro s σ F H Q r0 pp
  refine SE.of (pe_lenset hr hc b.gl b.mg b2.gl b2.mg pe_SE (starEach_cons h1 _)) (withO1 h r0 pp fun s2 F2 H2 x da r r2 v1 e k => ?_)
  unfold prim at e
  split at e <;> first | (rename_i hz; cases hz; done) | skip
  all_goals first | (rename_i hz _; cases hz; done) | skip
  · rename_i xs _ hz
    cases hz
    split at e
    · rename_i hh
      rw [Bool.and_eq_true] at hh
      cases e
      obtain ⟨l, vs, rfl, e1, e2⟩ := v1.list r2.sub
      obtain ⟨ns, rfl, rfl⟩ := ints_of hh.1 e2
      have hl := of_decide_eq_true hh.2
      rw [List.length_map] at hl
      refine .inl ⟨l, ns, rfl, .inl (.inl e1), hl, k.here r2 ?_⟩
      have e4 := once_ints ns []
      have e5 : once (ns.map PyData.int) = (ns.foldl PyProof.Rows.step_dedup []).map .int := e4
      rw [e5, List.length_map]
      exact .int _
    · split at e
      · rename_i hh
        rw [Bool.and_eq_true] at hh
        cases e
        obtain ⟨l, vs, rfl, e1, e2⟩ := v1.list r2.sub
        obtain ⟨ks, e3, rfl, e4⟩ := tups_of hh.1 e2
        have hl := of_decide_eq_true hh.2
        rw [e3, List.length_map, List.length_map] at hl
        refine .inr ⟨l, ks, rfl, .inl (.inl e1), fun p hp => .inl (.inl (r2.sub _ _ (e4 p hp))), hl, k.here r2 ?_⟩
        rw [e3]
        exact .int _
      · cases e
  · cases e
/-! isinstance -/
def tyN : Ty → String
  | .int => "int" | .bool => "bool" | .tup => "tuple" | .str => "str" | .lst => "list"
def tyS : Ty → Str
  | .int => "int" | .bool => "bool" | .tup => "tuple" | .str => "str" | .lst => "list"
theorem boot_ty (t : Ty) : bootBuiltins (tyS t) = some (.type (tyN t)) ∧ tyS t ≠ "__name__" ∧ (tyS t == ("__debug__" : Str)) = false := by
  cases t <;> exact ⟨by decide +kernel, by decide, by decide⟩
def dTy : D → String
  | .none => "NoneType" | .bool _ => "bool" | .int _ => "int" | .str _ => "str" | .list _ => "list" | .tuple _ => "tuple" | .dict [(.none, .tuple _)] => "tuple" | .dict _ => "dict"
theorem kit_d (t : Ty) (d : D) : kitB (dTy d) (tyN t) = some (isTy t d) := by
  have k1 : ∀ t : Ty, kitB "NoneType" (tyN t) = some (isTy t .none) := fun t => by cases t <;> decide +kernel
  have k2 : ∀ t : Ty, kitB "bool" (tyN t) = some (isTy t (.bool true)) := fun t => by cases t <;> decide +kernel
  have k3 : ∀ t : Ty, kitB "int" (tyN t) = some (isTy t (.int 0)) := fun t => by cases t <;> decide +kernel
  have k4 : ∀ t : Ty, kitB "str" (tyN t) = some (isTy t (.str ⟨#[]⟩)) := fun t => by cases t <;> decide +kernel
  have k5 : ∀ t : Ty, kitB "list" (tyN t) = some (isTy t (.list [])) := fun t => by cases t <;> decide +kernel
  have k6 : ∀ t : Ty, kitB "tuple" (tyN t) = some (isTy t (.tuple [])) := fun t => by cases t <;> decide +kernel
  have k7 : ∀ t : Ty, kitB "dict" (tyN t) = some (isTy t (.dict [])) := fun t => by cases t <;> decide +kernel
  cases d with
  | none => exact k1 t
  | bool b => have := k2 t; cases t <;> exact this
  | int b => have := k3 t; cases t <;> exact this
  | str b => have := k4 t; cases t <;> exact this
  | list b => have := k5 t; cases t <;> exact this
  | tuple b => have := k6 t; cases t <;> exact this
  | dict b =>
    by_cases hb : ∃ xs, b = [(.none, .tuple xs)]
    · obtain ⟨xs, rfl⟩ := hb
      have := k6 t; cases t <;> exact this
    · have e1 : dTy (.dict b) = "dict" := by
        unfold dTy
        split <;> simp_all
      have e2 : isTy t (.dict b) = isTy t (.dict []) := by
        cases t <;> (unfold isTy; split <;> simp_all)
      rw [e1, e2]; exact k7 t
theorem view_ty {w : V} {d : D} (q : Sub F H) (v : View G.K F H w d) : TyX G.K H w (.type (dTy d)) := by
  cases d with
  | none => rw [v.none]; exact .base .non
  | bool b => rw [v.bool]; exact .base (.bl _)
  | int b => rw [v.int]; exact .base (.int _)
  | str b => rw [v.str]; exact .base (.str _)
  | list ds => obtain ⟨a, vs, rfl, h, _⟩ := v.list q; exact .base (.lst h)
  | tuple ds => obtain ⟨a, vs, rfl, h, _⟩ := v.tup q; exact .base (.tup h)
  | dict ds =>
    rcases v with h | ⟨l, e, _, h⟩
    · cases h with
      | dk h _ => exact .base (.dK (q _ _ h))
      | dt h _ => exact .base (.dT (q _ _ h))
      | tag h c _ _ => exact .fTuple (q _ _ h)
    · subst e
      unfold MuRel at h
      split at h
      · rename_i z; cases z
      · rename_i z; cases z; obtain ⟨ks, h, _⟩ := h; exact .base (.dK h)
      · rename_i z; cases z; obtain ⟨ks, h, _⟩ := h; exact .base (.dT h)
      · exact h.elim
theorem hr_isi {t : Ty} {p2 : Pos} (hK : X.K = G.K) (b : BtOk X "isinstance") (b2 : BtOk X (tyS t)) (h : HP G EX X (opd f a) xa) (h1 : isStar xa = false) : HR G EX X (fun s => withO f [a] s fun
      | [x] => some (.dat (.bool (isTy t x)))
      | _ => none) (.Call (.Name "isinstance" p) [xa, .Name (tyS t) p2] [] pos) := by
  intro s σ F H Q r0 pp
  obtain ⟨e1, e2, e3⟩ := boot_ty t
  refine SE.of (pe_callB call_isi b.gl b.mg PyProof.Rows.boot_isinstance (pa_cons pe_SE (pa_cons (pe_bltn (v := .ty (tyN t)) b2.gl b2.mg e1 rfl e2 e3) pa_nil) (starEach_cons h1 _)) (by decide) (by decide) (starEach_cons h1 _)) ?_
  refine withO1 h r0 pp fun s2 F2 H2 x da r r2 v1 e k => ?_
  cases e
  exact ⟨x, .ty (tyN t), .type (dTy da), .type (tyN t), _, rfl, .ty _, by rw [hK]; exact view_ty r2.sub v1, kit_ty (kit_d t da), k.here r2 (.bl _)⟩
end
end Fs
set_option Elab.async false
set_option linter.all false
set_option maxRecDepth 100000
set_option maxHeartbeats 2000000
namespace Fs
open PySem PySem.Spec PyProof.Rows L2

/-! ### arguments, by place -/
theorem args_at {s : S} : ∀ {os : List Op} {as : List Sl}, args s os = some as → as.length = os.length ∧ ∀ (i : Nat) (a : Sl), as[i]? = some a → ∃ o, os[i]? = some o ∧ o.arg s = some a
  | [], as, h => by
    have h : some ([] : List Sl) = some as := h
    cases h
    exact ⟨rfl, fun i a e => by simp at e⟩
  | o :: os, as, h => by
    unfold args at h
    split at h
    · rename_i d ds e1 e2
      cases h
      obtain ⟨h1, h2⟩ := args_at e2
      refine ⟨by simp [h1], fun i a e => ?_⟩
      cases i with
      | zero => simp at e; subst e; exact ⟨o, rfl, e1⟩
      | succ i => obtain ⟨o', e3, e4⟩ := h2 i a (by simpa using e); exact ⟨o', by simpa using e3, e4⟩
    · cases h
theorem OpsRel.len {K : PySem.W.Frag} {T : List Tb} {s : S} {σ : L2.St} {F H : Hp} : ∀ {ws : List V} {os : List Op}, OpsRel K T s σ F H ws os → ws.length = os.length
  | _, _, .nil => rfl
  | _, _, .cons _ t => by simp [t.len]
theorem OpsRel.at_ {K : PySem.W.Frag} {T : List Tb} {s : S} {σ : L2.St} {F H : Hp} : ∀ {ws : List V} {os : List Op}, OpsRel K T s σ F H ws os → ∀ (i : Nat) (o : Op), os[i]? = some o → ∃ w, ws[i]? = some w ∧ OpRel K T s σ F H w o
  | _, _, .nil, i, o, h => by simp at h
  | _, _, .cons h t, 0, o, e => by simp at e; subst e; exact ⟨_, rfl, h⟩
  | _, _, .cons h t, i + 1, o, e => by
    obtain ⟨w, e1, e2⟩ := t.at_ i o (by simpa using e)
    exact ⟨w, by simpa using e1, e2⟩
theorem frA_mem : ∀ {ws : List V} {os : List Op} {i : Nat} {l : Addr} {d : D}, ws[i]? = some (.ref l) → os[i]? = some (.vl (.fr d)) → l ∈ frA ws os
  | [], _, i, _, _, h, _ => by simp at h
  | _ :: _, [], i, _, _, _, h => by simp at h
  | w :: ws, o :: os, 0, l, d, h1, h2 => by
    simp at h1 h2; subst h1; subst h2
    exact List.mem_cons_self
  | w :: ws, o :: os, i + 1, l, d, h1, h2 => by
    have ih := frA_mem (ws := ws) (os := os) (i := i) (l := l) (d := d) (by simpa using h1) (by simpa using h2)
    cases o with
    | sl j => rw [frA_sl]; exact ih
    | vl v => rw [frA_vl]; exact List.mem_append_right _ ih
theorem frA_inj : ∀ {ws : List V} {os : List Op} {i j : Nat} {l : Addr} {d e : D}, (frA ws os).Nodup → ws[i]? = some (.ref l) → os[i]? = some (.vl (.fr d)) → ws[j]? = some (.ref l) → os[j]? = some (.vl (.fr e)) → i = j
  | [], _, i, _, _, _, _, _, h, _, _, _ => by simp at h
  | _ :: _, [], i, _, _, _, _, _, _, h, _, _ => by simp at h
  | w :: ws, o :: os, 0, 0, l, d, e, nd, h1, h2, h3, h4 => rfl
  | w :: ws, o :: os, 0, j + 1, l, d, e, nd, h1, h2, h3, h4 => by
    simp at h1 h2; subst h1; subst h2
    have m := frA_mem (ws := ws) (os := os) (i := j) (l := l) (d := e) (by simpa using h3) (by simpa using h4)
    have nd : (l :: frA ws os).Nodup := nd
    exact absurd m (List.nodup_cons.mp nd).1
  | w :: ws, o :: os, i + 1, 0, l, d, e, nd, h1, h2, h3, h4 => by
    simp at h3 h4; subst h3; subst h4
    have m := frA_mem (ws := ws) (os := os) (i := i) (l := l) (d := d) (by simpa using h1) (by simpa using h2)
    have nd : (l :: frA ws os).Nodup := nd
    exact absurd m (List.nodup_cons.mp nd).1
  | w :: ws, o :: os, i + 1, j + 1, l, d, e, nd, h1, h2, h3, h4 => by
    have nd' : (frA ws os).Nodup := by
      cases o with
      | sl k => rw [frA_sl] at nd; exact nd
      | vl v => rw [frA_vl] at nd; exact (List.nodup_append.mp nd).2.1
    have := frA_inj (i := i) (j := j) (l := l) (d := d) (e := e) nd' (by simpa using h1) (by simpa using h2) (by simpa using h3) (by simpa using h4)
    omega
theorem lent_mem {s : S} : ∀ {os : List Op} {i k : Nat} {b : Bool} {d : D}, os[i]? = some (.sl k) → s[k]? = some (.mu b d) → k ∈ lent s os
  | [], i, _, _, _, h, _ => by simp at h
  | o :: os, 0, k, b, d, h, e => by
    simp at h; subst h
    unfold lent; rw [e]; exact List.mem_cons_self
  | o :: os, i + 1, k, b, d, h, e => by
    have ih := lent_mem (os := os) (i := i) (by simpa using h) e
    unfold lent
    split
    · cases ‹_ :: _ = []›
    · rename_i j os' z
      cases z
      split
      · exact List.mem_cons_of_mem _ ih
      · exact ih
    · rename_i o' os' _ z
      cases z
      exact ih
theorem lent_cons {s : S} {o : Op} {os : List Op} (nd : (lent s (o :: os)).Nodup) : (lent s os).Nodup ∧ ∀ k b d, o = .sl k → s[k]? = some (.mu b d) → k ∉ lent s os := by
  cases o with
  | vl v => exact ⟨nd, fun k b d e => nomatch e⟩
  | sl j =>
    unfold lent at nd
    split at nd
    · rename_i b d e
      obtain ⟨h1, h2⟩ := List.nodup_cons.mp nd
      exact ⟨h2, fun k b' d' z _ => by cases z; exact h1⟩
    · rename_i hne
      refine ⟨nd, fun k b d z e => ?_⟩
      cases z
      exact absurd e (hne b d)
theorem lent_inj {s : S} : ∀ {os : List Op} {i j k : Nat} {b : Bool} {d : D}, (lent s os).Nodup → os[i]? = some (.sl k) → os[j]? = some (.sl k) → s[k]? = some (.mu b d) → i = j
  | [], i, _, _, _, _, _, h, _, _ => by simp at h
  | o :: os, 0, 0, k, b, d, nd, h1, h2, e => rfl
  | o :: os, 0, j + 1, k, b, d, nd, h1, h2, e => by
    simp at h1; subst h1
    exact absurd (lent_mem (os := os) (i := j) (by simpa using h2) e) ((lent_cons nd).2 k b d rfl e)
  | o :: os, i + 1, 0, k, b, d, nd, h1, h2, e => by
    simp at h2; subst h2
    exact absurd (lent_mem (os := os) (i := i) (by simpa using h1) e) ((lent_cons nd).2 k b d rfl e)
  | o :: os, i + 1, j + 1, k, b, d, nd, h1, h2, e => by
    have := lent_inj (os := os) (i := i) (j := j) (k := k) (lent_cons nd).1 (by simpa using h1) (by simpa using h2) e
    omega
theorem lent_set {s : S} {i : Nat} {b : Bool} {d d' : D} (h : s[i]? = some (.mu b d)) : ∀ os : List Op, lent (s.set i (.mu b d')) os = lent s os
  | [] => rfl
  | .vl v :: os => lent_set h os
  | .sl j :: os => by
    have hi : i < s.length := (List.getElem?_eq_some_iff.mp h).1
    unfold lent
    rw [lent_set h os]
    by_cases e : i = j
    · subst e
      rw [List.getElem?_set_self hi, h]
    · rw [List.getElem?_set_ne e]
/-- what comes back -/
theorem back_ok : ∀ {os : List Op} {bs : List Sl} {s s2 : S}, (lent s os).Nodup → back os bs s = some s2 →
    s2.length = s.length ∧ (∀ k, k ∉ lent s os → s2[k]? = s[k]?) ∧ ∀ (i k : Nat) (b : Bool) (d : D), os[i]? = some (.sl k) → s[k]? = some (.mu b d) → ∃ d', bs[i]? = some (.mu true d') ∧ s2[k]? = some (.mu b d')
  | [], bs, s, s2, nd, h => by
    have h : some s = some s2 := h
    cases h
    exact ⟨rfl, fun k _ => rfl, fun i k b d e => by simp at e⟩
  | o :: os, [], s, s2, nd, h => by cases h
  | .vl v :: os, b :: bs, s, s2, nd, h => by
    obtain ⟨h1, h2, h3⟩ := back_ok (os := os) (bs := bs) (s := s) (s2 := s2) nd h
    refine ⟨h1, h2, fun i k c d e1 e2 => ?_⟩
    cases i with
    | zero => simp at e1
    | succ i => obtain ⟨d', e3, e4⟩ := h3 i k c d (by simpa using e1) e2; exact ⟨d', by simpa using e3, e4⟩
  | .sl j :: os, b :: bs, s, s2, nd, h => by
    obtain ⟨nd', hno⟩ := lent_cons nd
    unfold back at h
    split at h
    · rename_i k d0 d e1
      have hj : j < s.length := (List.getElem?_eq_some_iff.mp e1).1
      obtain ⟨h1, h2, h3⟩ := back_ok (os := os) (bs := bs) (s := s.set j (.mu k d)) (s2 := s2) (by rw [lent_set e1]; exact nd') h
      have hjn := hno j k d0 rfl e1
      rw [lent_set e1] at h2
      have hl : lent s (.sl j :: os) = j :: lent s os := by
        show (match s[j]? with
          | some (.mu _ _) => j :: lent s os
          | _ => lent s os) = _
        rw [e1]
      refine ⟨by rw [h1, List.length_set], fun m hm => ?_, fun i m c e e2 e3 => ?_⟩
      · rw [hl] at hm
        have hm1 : m ≠ j := fun z => hm (by rw [z]; exact List.mem_cons_self)
        rw [h2 m (fun z => hm (List.mem_cons_of_mem _ z)), List.getElem?_set_ne (fun z => hm1 z.symm)]
      · cases i with
        | zero =>
          simp at e2; subst e2
          rw [e1] at e3; cases e3
          exact ⟨d, rfl, by rw [h2 j hjn, List.getElem?_set_self hj]⟩
        | succ i =>
          have e2' : os[i]? = some (.sl m) := by simpa using e2
          have hm1 : m ≠ j := fun z => hjn (by rw [← z]; exact lent_mem e2' e3)
          obtain ⟨d', e4, e5⟩ := h3 i m c e e2' (by rw [List.getElem?_set_ne (fun z => hm1 z.symm)]; exact e3)
          exact ⟨d', by simpa using e4, e5⟩
    · cases h
    · rename_i hne1 hne2
      have hnm : ∀ c e, s[j]? ≠ some (.mu c e) := fun c e z => by first | exact hne1 c e z | exact hne2 c e z
      have hl : lent s (.sl j :: os) = lent s os := by
        show (match s[j]? with
          | some (.mu _ _) => j :: lent s os
          | _ => lent s os) = _
        split
        · rename_i c e z; exact absurd z (hnm c e)
        · rfl
      obtain ⟨h1, h2, h3⟩ := back_ok (os := os) (bs := bs) (s := s) (s2 := s2) nd' h
      refine ⟨h1, fun m hm => h2 m (by rw [hl] at hm; exact hm), fun i m c e e2 e3 => ?_⟩
      cases i with
      | zero => simp at e2; subst e2; exact absurd e3 (hnm c e)
      | succ i => obtain ⟨d', e4, e5⟩ := h3 i m c e (by simpa using e2) e3; exact ⟨d', by simpa using e4, e5⟩
end Fs
set_option Elab.async false
set_option linter.all false
set_option maxRecDepth 100000
set_option maxHeartbeats 2000000
namespace Fs
open PySem PySem.Spec PyProof.Rows L2

/-! ### a function's promise -/
def in0 (np ns : Nat) (as : List Sl) : S := as ++ List.replicate (ns - np) .un
def inV (np ns : Nat) (vs : List V) : L2.St := vs.map some ++ List.replicate (ns - np) none
def FSp (G : Gl0) (C : CT) (f np ns : Nat) : Sp := fun vs H Q E => vs.length = np ∧ np ≤ ns ∧ ∃ (F : Hp) (as : List Sl), as.length = np ∧ Rel G.K G.T (in0 np ns as) (inV np ns vs) F H ∧
  match C f as with
  | .ok v bs => ∀ s' σ' w F' H', Go G.T (in0 np ns as) (inV np ns vs) F H s' σ' F' H' → Rel G.K G.T s' σ' F' H' → s'.take np = bs → VRel G.K G.T s' σ' F' H' w v → VNew (in0 np ns as) (inV np ns vs) H w v → Q w H'
  | .exc nm bs => ∀ s' σ' x d F' H', nm = .str x → Go G.T (in0 np ns as) (inV np ns vs) F H s' σ' F' H' → Rel G.K G.T s' σ' F' H' → s'.take np = bs → H' d = some (.xd [("name", .str x)]) → H d = none → E (.ref G.C) (some d) H'
  | .stuck => False
section
variable {G : Gl0} {EX : XK} {X : Cx} {s s1 : S} {σ : L2.St} {F H F1 H1 : Hp} {n np ns f : Nat} {ws : List V} {os : List Op} {as : List Sl}
theorem in0_at {i : Nat} {a : Sl} (hl : as.length = np) (h : (in0 np ns as)[i]? = some a) (ha : a ≠ .un) : i < np ∧ as[i]? = some a := by
  unfold in0 at h
  by_cases hi : i < as.length
  · rw [List.getElem?_append_left hi] at h; exact ⟨by omega, h⟩
  · rw [List.getElem?_append_right (by omega), List.getElem?_replicate] at h
    split at h
    · cases h; exact absurd rfl ha
    · cases h
theorem inV_at {i : Nat} {w : V} (h : ws[i]? = some w) : (inV np ns ws)[i]? = some (some w) := by
  have hi := (List.getElem?_eq_some_iff.mp h).1
  unfold inV
  rw [List.getElem?_append_left (by simpa using hi), List.getElem?_map, h]; rfl
/-- what an argument's slot is -/
theorem arg_cases {w : V} {o : Op} {b : Bool} {d : D} (h : o.arg s1 = some (.mu b d)) (r : OpRel G.K G.T s1 σ F1 H1 w o) :
    (b = false ∧ o = .vl (.fr d)) ∨ (b = true ∧ ∃ k c, o = .sl k ∧ s1[k]? = some (.mu c d) ∧ σ[k]? = some (some w)) := by
  cases o with
  | vl v => cases v with
    | dat _ => cases h
    | fr d' => cases h; exact .inl ⟨rfl, rfl⟩
  | sl k =>
    unfold Op.arg at h
    simp only at h
    split at h
    · cases h
    · rename_i c d' e; cases h; exact .inr ⟨rfl, k, c, rfl, e, r⟩
    · cases h
    · cases h
theorem arg_dat {w : V} {o : Op} {d : D} (q : Rel G.K G.T s1 σ F1 H1) (h : o.arg s1 = some (.dat d)) (r : OpRel G.K G.T s1 σ F1 H1 w o) : Rp G.K F1 w d := by
  cases o with
  | vl v => cases v with
    | dat _ => cases h; exact r
    | fr d' => cases h
  | sl k =>
    unfold Op.arg at h
    simp only at h
    split at h
    · rename_i d' e
      cases h
      obtain ⟨v, e1, e2⟩ := q.dat k _ e
      have r : σ[k]? = some (some w) := r
      rw [r] at e1; cases e1; exact e2
    · cases h
    · cases h
    · cases h
theorem arg_scr {w : V} {o : Op} {ns : List Int} (q : Rel G.K G.T s1 σ F1 H1) (h : o.arg s1 = some (.scr ns)) (r : OpRel G.K G.T s1 σ F1 H1 w o) : ∃ l, w = .ref l ∧ SqL G.K F1 l (ns.map V.int) := by
  cases o with
  | vl v => cases v with
    | dat _ => cases h
    | fr d' => cases h
  | sl k =>
    unfold Op.arg at h
    simp only at h
    split at h
    · cases h
    · cases h
    · rename_i ns' e
      cases h
      obtain ⟨l, e1, e2⟩ := q.scr k _ e
      have r : σ[k]? = some (some w) := r
      rw [r] at e1; cases e1; exact ⟨l, rfl, e2⟩
    · cases h
/-- the callee's owned objects: lent ones, new ones -/
theorem own_in (hl : as.length = np) (ha : args s1 os = some as) (ho : OpsRel G.K G.T s1 σ F1 H1 ws os) {l : Addr} (h : own (in0 np ns as) (inV np ns ws) l) :
    ∃ (i : Nat) (d : D), i < np ∧ as[i]? ≠ none ∧ ws[i]? = some (.ref l) ∧ ((as[i]? = some (.mu false d) ∧ os[i]? = some (.vl (.fr d))) ∨ (as[i]? = some (.mu true d) ∧ ∃ k c, os[i]? = some (.sl k) ∧ s1[k]? = some (.mu c d) ∧ σ[k]? = some (some (.ref l)))) := by
  obtain ⟨i, b, d, e1, e2⟩ := h
  obtain ⟨hi, e3⟩ := in0_at hl e1 (by intro z; cases z)
  obtain ⟨o, e4, e5⟩ := (args_at ha).2 i _ e3
  obtain ⟨w, e6, e7⟩ := ho.at_ i o e4
  rw [inV_at e6] at e2
  cases e2
  refine ⟨i, d, hi, by rw [e3]; simp, e6, ?_⟩
  rcases arg_cases e5 e7 with ⟨rfl, rfl⟩ | ⟨rfl, k, c, rfl, e8, e9⟩
  · exact .inl ⟨e3, e4⟩
  · exact .inr ⟨e3, k, c, e4, e8, e9⟩
theorem rel_in (hl : as.length = np) (hn : np ≤ ns) (q : Rel G.K G.T s1 σ F1 H1) (ho : OpsRel G.K G.T s1 σ F1 H1 ws os) (hnw : (frA ws os).Nodup) (ha : args s1 os = some as) (hlent : (lent s1 os).Nodup) : Rel G.K G.T (in0 np ns as) (inV np ns ws) F1 H1 := by
  have hws : ws.length = np := by rw [ho.len, ← (args_at ha).1, hl]
  refine ⟨by unfold in0 inV; simp [hl, hws], fun i d e => ?_, fun i b d e => ?_, fun i z e => ?_, fun i j b d c e l e1 e2 e3 e4 => ?_, q.sub, q.tab⟩
  · obtain ⟨hi, e3⟩ := in0_at hl e (by intro z; cases z)
    obtain ⟨o, e4, e5⟩ := (args_at ha).2 i _ e3
    obtain ⟨w, e6, e7⟩ := ho.at_ i o e4
    exact ⟨w, inV_at e6, arg_dat q e5 e7⟩
  · obtain ⟨hi, e3⟩ := in0_at hl e (by intro z; cases z)
    obtain ⟨o, e4, e5⟩ := (args_at ha).2 i _ e3
    obtain ⟨w, e6, e7⟩ := ho.at_ i o e4
    rcases arg_cases e5 e7 with ⟨rfl, rfl⟩ | ⟨rfl, k, c, rfl, e8, e9⟩
    · obtain ⟨l, rfl, h1, h2, h3, h4⟩ := e7
      exact ⟨l, inV_at e6, h1, h2, h4⟩
    · obtain ⟨l, h0, h1, h2, h3⟩ := q.mu k c d e8
      rw [e9] at h0; cases h0
      exact ⟨l, inV_at e6, h1, h2, h3⟩
  · obtain ⟨hi, e3⟩ := in0_at hl e (by intro z; cases z)
    obtain ⟨o, e4, e5⟩ := (args_at ha).2 i _ e3
    obtain ⟨w, e6, e7⟩ := ho.at_ i o e4
    obtain ⟨l, rfl, h⟩ := arg_scr q e5 e7
    exact ⟨l, inV_at e6, h⟩
  · obtain ⟨hi, e1⟩ := in0_at hl e1 (by intro z; cases z)
    obtain ⟨hj, e2⟩ := in0_at hl e2 (by intro z; cases z)
    obtain ⟨o, e5, e6⟩ := (args_at ha).2 i _ e1
    obtain ⟨w, e7, e8⟩ := ho.at_ i o e5
    obtain ⟨o', e5', e6'⟩ := (args_at ha).2 j _ e2
    obtain ⟨w', e7', e8'⟩ := ho.at_ j o' e5'
    rw [inV_at e7] at e3; rw [inV_at e7'] at e4
    cases e3; cases e4
    rcases arg_cases e6 e8 with ⟨rfl, rfl⟩ | ⟨rfl, k, c, rfl, x1, x2⟩
    · rcases arg_cases e6' e8' with ⟨rfl, rfl⟩ | ⟨rfl, k', c', rfl, y1, y2⟩
      · exact frA_inj hnw e7 e5 e7' e5'
      · obtain ⟨l2, z0, _, _, z3, _⟩ := e8
        cases z0
        exact absurd ⟨k', c', e, y1, y2⟩ z3
    · rcases arg_cases e6' e8' with ⟨rfl, rfl⟩ | ⟨rfl, k', c', rfl, y1, y2⟩
      · obtain ⟨l2, z0, _, _, z3, _⟩ := e8'
        cases z0
        exact absurd ⟨k, c, d, x1, x2⟩ z3
      · have hk := q.apart k k' c d c' e l x1 y1 x2 y2
        subst hk
        exact lent_inj hlent e5 e5' x1
/-- what holds behind a call -/
theorem after_call (g1 : Go G.T s σ F H s1 σ F1 H1) (q : Rel G.K G.T s1 σ F1 H1) (ho : OpsRel G.K G.T s1 σ F1 H1 ws os) (hnw : OpsNew s σ H ws os) (ha : args s1 os = some as) (hlent : (lent s1 os).Nodup) (hl : as.length = np) (hn : np ≤ ns)
    {s' : S} {σ' : L2.St} {F' H' : Hp} {s2 : S} (g : Go G.T (in0 np ns as) (inV np ns ws) F1 H1 s' σ' F' H') (r : Rel G.K G.T s' σ' F' H') (hb : back os (s'.take np) s1 = some s2) :
    Go G.T s σ F H s2 σ F' H' ∧ Rel G.K G.T s2 σ F' H' ∧ (∀ w v, VRel G.K G.T s' σ' F' H' w v → VNew (in0 np ns as) (inV np ns ws) H1 w v → VRel G.K G.T s2 σ F' H' w v ∧ VNew s σ H w v) := by
  obtain ⟨b1, b2, b3⟩ := back_ok hlent hb
  have hlen := args_at ha
  -- a slot that is not lent
  have keepS : ∀ (k : Nat), (∀ (b : Bool) (d : D), s1[k]? ≠ some (.mu b d)) → s2[k]? = s1[k]? := fun k hk => b2 k fun hm => by
    have : ∀ os : List Op, k ∈ lent s1 os → ∃ b d, s1[k]? = some (.mu b d) := fun os => by
      induction os with
      | nil => intro h; simp [lent] at h
      | cons o os ih =>
        intro h
        cases o with
        | vl v => exact ih h
        | sl j =>
          unfold lent at h
          split at h
          · rename_i b d e
            rcases List.mem_cons.mp h with z | z
            · rw [z]; exact ⟨b, d, e⟩
            · exact ih z
          · exact ih h
    obtain ⟨b, d, e⟩ := this os hm
    exact hk b d e
  have lentOs : ∀ (os : List Op) (k : Nat), k ∈ lent s1 os → ∃ i : Nat, os[i]? = some (Op.sl k) := fun os k => by
    induction os with
    | nil => intro h; simp [lent] at h
    | cons o os ih =>
      intro h
      cases o with
      | vl v => obtain ⟨i, e⟩ := ih h; exact ⟨i + 1, by simpa using e⟩
      | sl j =>
        unfold lent at h
        split at h
        · rcases List.mem_cons.mp h with z | z
          · exact ⟨0, by rw [z]; rfl⟩
          · obtain ⟨i, e⟩ := ih z; exact ⟨i + 1, by simpa using e⟩
        · obtain ⟨i, e⟩ := ih h; exact ⟨i + 1, by simpa using e⟩
  -- s2's slots
  have muBack : ∀ (k : Nat) (b : Bool) (d : D), s2[k]? = some (.mu b d) → ∃ d0, s1[k]? = some (.mu b d0) := fun k b d e => by
    by_cases hk : k ∈ lent s1 os
    · obtain ⟨i, hi⟩ := lentOs os k hk
      cases q1 : s1[k]? with
      | none =>
        have : s2.length = s1.length := b1
        have h1 := (List.getElem?_eq_some_iff.mp e).1
        have h2 := List.getElem?_eq_none_iff.mp q1
        omega
      | some z =>
        cases z with
        | mu c d0 =>
          obtain ⟨d', _, e2⟩ := b3 i k c d0 hi q1
          rw [e2] at e; cases e
          exact ⟨d0, rfl⟩
        | un => rw [keepS k (fun b d z => by rw [q1] at z; cases z), q1] at e; cases e
        | dat _ => rw [keepS k (fun b d z => by rw [q1] at z; cases z), q1] at e; cases e
        | scr _ => rw [keepS k (fun b d z => by rw [q1] at z; cases z), q1] at e; cases e
    · rw [b2 k hk] at e; exact ⟨d, e⟩
  have datBack : ∀ (k : Nat) (z : Sl), s2[k]? = some z → (∀ b d, z ≠ .mu b d) → s1[k]? = some z := fun k z e hz => by
    cases q1 : s1[k]? with
    | none =>
      have h1 := (List.getElem?_eq_some_iff.mp e).1
      have h2 := List.getElem?_eq_none_iff.mp q1
      omega
    | some y =>
      cases y with
      | mu c d0 =>
        by_cases hk : k ∈ lent s1 os
        · obtain ⟨i, hi⟩ := lentOs os k hk
          obtain ⟨d', _, e2⟩ := b3 i k c d0 hi q1
          rw [e2] at e; cases e
          exact absurd rfl (hz c d')
        · rw [b2 k hk, q1] at e; cases e; exact absurd rfl (hz c d0)
      | un => rw [keepS k (fun b d z => by rw [q1] at z; cases z), q1] at e; exact e
      | dat _ => rw [keepS k (fun b d z => by rw [q1] at z; cases z), q1] at e; exact e
      | scr _ => rw [keepS k (fun b d z => by rw [q1] at z; cases z), q1] at e; exact e
  have own2 : ∀ l, own s2 σ l → own s1 σ l := fun l ⟨k, b, d, e1, e2⟩ => by
    obtain ⟨d0, e3⟩ := muBack k b d e1
    exact ⟨k, b, d0, e3, e2⟩
  have ownNew : ∀ l, own (in0 np ns as) (inV np ns ws) l → New s σ H l := fun l h => by
    obtain ⟨i, d, hi, _, e1, h⟩ := own_in hl ha ho h
    rcases h with ⟨_, e2⟩ | ⟨_, k, c, e2, e3, e4⟩
    · exact hnw.new l (frA_mem e1 e2)
    · exact g1.back (.inr ⟨k, c, d, e3, e4⟩)
  have alive1 : ∀ a, H1 a = none → H a = none := fun a h => by
    cases z : H a with
    | none => rfl
    | some o => exact absurd h (g1.alive a (by rw [z]; simp))
  -- a slot not lent, its object is not the callee's
  have notOwn : ∀ (k : Nat) (b : Bool) (d : D) (l : Addr), s1[k]? = some (.mu b d) → σ[k]? = some (some (.ref l)) → k ∉ lent s1 os → ¬ own (in0 np ns as) (inV np ns ws) l := fun k b d l e1 e2 hk h => by
    obtain ⟨i, d', hi, _, e3, h⟩ := own_in hl ha ho h
    rcases h with ⟨_, e4⟩ | ⟨_, k', c, e4, e5, e6⟩
    · obtain ⟨w, e6, e7⟩ := ho.at_ i _ e4
      rw [e3] at e6; cases e6
      obtain ⟨l2, z0, _, _, z3, _⟩ := e7
      cases z0
      exact z3 ⟨k, b, d, e1, e2⟩
    · have := q.apart k k' b d c d' l e1 e5 e2 e6
      subst this
      exact hk (lent_mem e4 e5)
  have G2 : Go G.T s σ F H s2 σ F' H' := by
    refine ⟨g1.ext.trans g.ext, fun a h => ?_, fun a o h n t => ?_, fun a h => g.alive a (g1.alive a h), fun a h => g1.own a (own2 a h), fun i d h => ?_⟩
    · rcases g.new a h with h | h | h | h
      · exact g1.new a h
      · exact .inr (.inl (alive1 a h))
      · exact .inr ((ownNew a h).imp id .inl)
      · exact .inr (g1.tupB h)
    · refine g.keep a o (g1.keep a o h n t) (fun z => ?_) t
      rcases ownNew a z with z | z
      · rw [h] at z; cases z
      · exact n z
    · obtain ⟨⟨d', e⟩, _⟩ := g1.bor i d h
      refine ⟨?_, rfl⟩
      by_cases hk : i ∈ lent s1 os
      · obtain ⟨j, hj⟩ := lentOs os i hk
        obtain ⟨d2, _, e2⟩ := b3 j i true d' hj e
        exact ⟨d2, e2⟩
      · exact ⟨d', by rw [b2 i hk]; exact e⟩
  have R2 : Rel G.K G.T s2 σ F' H' := by
    refine ⟨by rw [b1]; exact q.len, fun i d e => ?_, fun i b d e => ?_, fun i z e => ?_, fun i j b d c e l e1 e2 e3 e4 => ?_, r.sub, r.tab⟩
    · obtain ⟨v, e1, e2⟩ := q.dat i d (datBack i _ e (fun _ _ z => nomatch z))
      exact ⟨v, e1, e2.mono g.ext⟩
    · obtain ⟨d0, e0⟩ := muBack i b d e
      obtain ⟨l, h1, h2, h3, h4⟩ := q.mu i b d0 e0
      by_cases hk : i ∈ lent s1 os
      · obtain ⟨j, hj⟩ := lentOs os i hk
        obtain ⟨d', e5, e6⟩ := b3 j i b d0 hj e0
        rw [e6] at e; cases e
        -- the callee's slot j
        have hjn : j < np := by
          have h1 := (List.getElem?_eq_some_iff.mp e5).1
          rw [List.length_take] at h1
          omega
        rw [List.getElem?_take_of_lt hjn] at e5
        obtain ⟨l', h5, h6, h7, h8⟩ := r.mu j true d e5
        obtain ⟨w, x1, x2⟩ := ho.at_ j _ hj
        have x2 : σ[i]? = some (some w) := x2
        rw [h1] at x2; cases x2
        have hja : as[j]? = some (.mu true d0) := by
          have hlt : j < as.length := by omega
          obtain ⟨o, y1, y2⟩ := hlen.2 j _ (List.getElem?_eq_getElem hlt)
          rw [hj] at y1; cases y1
          unfold Op.arg at y2
          simp only [e0] at y2
          rw [List.getElem?_eq_getElem hlt]; exact y2.symm
        have hin : (in0 np ns as)[j]? = some (.mu true d0) := by
          unfold in0
          rw [List.getElem?_append_left (by omega)]; exact hja
        have hs := (g.bor j d0 hin).2
        rw [inV_at x1, h5] at hs
        cases hs
        exact ⟨l, h1, h6, h7, h8⟩
      · rw [b2 i hk] at e
        rw [e0] at e; cases e
        obtain ⟨h6, h7, h8⟩ := g.mu h2 h3 (notOwn i b d l e0 h1 hk) h4
        exact ⟨l, h1, h6, h3, h8⟩
    · obtain ⟨l, e1, e2⟩ := q.scr i z (datBack i _ e (fun _ _ z => nomatch z))
      exact ⟨l, e1, g.ext.l e2⟩
    · obtain ⟨d0, y1⟩ := muBack i b d e1
      obtain ⟨d1, y2⟩ := muBack j c e e2
      exact q.apart i j b d0 c d1 l y1 y2 e3 e4
  refine ⟨G2, R2, fun w v h hv => ?_⟩
  cases v with
  | dat d => exact ⟨h, trivial⟩
  | fr d =>
    obtain ⟨l, rfl, h1, h2, h3, h4⟩ := h
    have hnl := hv l rfl
    refine ⟨⟨l, rfl, h1, h2, fun z => ?_, h4⟩, fun l' e => ?_⟩
    · have z1 := own2 l z
      rcases hnl with y | y
      · obtain ⟨k, b, d', x1, x2⟩ := z1
        obtain ⟨l2, x3, _, _, x4⟩ := q.mu k b d' x1
        rw [x2] at x3; cases x3
        exact x4.there y
      · obtain ⟨i, d', hi, _, e1, y⟩ := own_in hl ha ho y
        rcases y with ⟨_, e2⟩ | ⟨e2, k, c, e3, e4, e5⟩
        · obtain ⟨w, e6, e7⟩ := ho.at_ i _ e2
          rw [e1] at e6; cases e6
          obtain ⟨l2, z0, _, _, z3, _⟩ := e7
          cases z0
          exact z3 z1
        · have hin : (in0 np ns as)[i]? = some (.mu true d') := by
            unfold in0
            rw [List.getElem?_append_left (by omega)]; exact e2
          obtain ⟨⟨d2, x1⟩, x2⟩ := g.bor i d' hin
          rw [inV_at e1] at x2
          exact h3 ⟨i, true, d2, x1, x2⟩
    · cases e
      rcases hnl with y | y
      · exact .inl (alive1 l y)
      · exact ownNew l y
/-- the call as the promise asks -/
theorem call_ok {C : CT} {Q : VK} (g1 : Go G.T s σ F H s1 σ F1 H1) (q : Rel G.K G.T s1 σ F1 H1) (ho : OpsRel G.K G.T s1 σ F1 H1 ws os) (hnw : OpsNew s σ H ws os) (hlo : os.length = np) (hn : np ≤ ns)
    (p : PR G EX s σ F H (doCall C f os s1) (KV G s σ H Q)) : FSp G C f np ns ws H1 Q EX := by
  unfold doCall at p
  cases ha : args s1 os with
  | none => rw [ha] at p; exact p.elim
  | some as =>
    rw [ha] at p
    simp only at p
    have hl : as.length = np := by rw [(args_at ha).1, hlo]
    by_cases hlent : (lent s1 os).Nodup
    · rw [if_pos hlent] at p
      refine ⟨by rw [ho.len, hlo], hn, F1, as, hl, rel_in hl hn q ho hnw.nd ha hlent, ?_⟩
      cases hc : C f as with
      | ok v bs =>
        rw [hc] at p
        try dsimp only at p ⊢
        intro s' σ' w F' H' g r hb hv hvn
        cases hbk : back os bs s1 with
        | none => rw [hbk] at p; exact p.elim
        | some s2 =>
          rw [hbk] at p
          subst hb
          obtain ⟨G2, R2, k⟩ := after_call g1 q ho hnw ha hlent hl hn g r hbk
          obtain ⟨h1, h2⟩ := k w v hv hvn
          exact (p.ok G2 R2) w h1 h2
      | exc nm bs =>
        rw [hc] at p
        try dsimp only at p ⊢
        intro s' σ' x d F' H' hx g r hb hd hd0
        cases hbk : back os bs s1 with
        | none => rw [hbk] at p; exact p.elim
        | some s2 =>
          rw [hbk] at p
          subst hb
          obtain ⟨G2, R2, k⟩ := after_call g1 q ho hnw ha hlent hl hn g r hbk
          refine p x d F' H' hx G2 R2 hd ?_
          cases z : H d with
          | none => rfl
          | some o => exact absurd hd0 (g1.alive d (by rw [z]; simp))
      | stuck => rw [hc] at p; exact p.elim
    · rw [if_neg hlent] at p
      exact p.elim
end
end Fs
set_option Elab.async false
set_option linter.all false
set_option maxRecDepth 100000
set_option maxHeartbeats 2000000
namespace Fs
open PySem PySem.Spec PyProof.Rows L2

/-! ### a call of a def -/
section
variable {G : Gl0} {EX : XK} {X : Cx} {s s1 : S} {σ : L2.St} {F H F1 H1 : Hp} {f : E → S → R Vl} {pos p : Pos}
def SK (X : Cx) (kws : List Keyword) : TA := fun σ H Q => ∀ pos pins s, Inv X pins σ H s → wpAny (model X.prog X.w) X.A (evalAll ((backToKw pos (keywordEach kws X.env)).map (·.2))) (AP X pins σ Q) X.xe s
theorem pk_SK {kws : List Keyword} : PK X kws (SK X kws) := ⟨fun pos pins s _ _ _ I h => h pos pins s I⟩
theorem SK.of {kws : List Keyword} {t : TA} {Q : List V → Hp → Prop} (h : PK X kws t) (q : t σ H Q) : SK X kws σ H Q := fun pos pins s I => h.run pos pins s σ H Q I q
/-- positional ones, then keywords -/
def SAK (X : Cx) : List Expr → List Keyword → TA
  | [], kws => SK X kws
  | x :: xs, kws => fun σ H Q => SE X x σ H fun w H1 => SAK X xs kws σ H1 fun ws H2 => Q (w :: ws) H2
theorem sak_sa {kws : List Keyword} : ∀ {xs : List Expr} {σ : L2.St} {H : Hp} {Q : List V → Hp → Prop}, xs.any isStar = false → SAK X xs kws σ H Q → SA X xs σ H fun vs H1 => vs.length = xs.length ∧ SK X kws σ H1 fun zs H2 => Q (vs ++ zs) H2
  | [], σ, H, Q, _, h => SA.of pa_nil ⟨rfl, h⟩
  | x :: xs, σ, H, Q, hs, h => by
    rw [List.any_cons, Bool.or_eq_false_iff] at hs
    refine SA.of (pa_cons pe_SE pa_SA (starEach_cons hs.1 _)) (SE.imp h fun w H1 h => ?_)
    intro pos pins st I
    refine thn (sak_sa hs.2 h pos pins st I) fun us s2 ⟨vs, H2, I2, r, hl, q⟩ => ⟨vs, H2, I2, r, by simp [hl], q⟩
theorem opds_len : ∀ (es : List E) (s : S) (ds : List Op) (s' : S), opds f es s = .ok ds s' → ds.length = es.length
  | [], s, ds, s', h => by
    have h : R.ok [] s = .ok ds s' := h
    cases h; rfl
  | e :: es, s, ds, s', h => by
    unfold opds at h
    cases q : opd f e s with
    | ok v s1 =>
      rw [q] at h
      have h : (opds f es s1).bind (fun ds s => R.ok (v :: ds) s) = .ok ds s' := h
      cases q2 : opds f es s1 with
      | ok ds2 s2 =>
        rw [q2] at h
        have h : R.ok (v :: ds2) s2 = .ok ds s' := h
        cases h
        simp [opds_len es s1 ds2 s' q2]
      | exc nm s2 => rw [q2] at h; cases h
      | stuck => rw [q2] at h; cases h
    | exc nm s1 => rw [q] at h; cases h
    | stuck => rw [q] at h; cases h
def HPk (G : Gl0) (EX : XK) (X : Cx) (r : S → R (List Op)) (xs : List Expr) (kws : List Keyword) : Prop := ∀ s σ F H Q, Rel G.K G.T s σ F H → PR G EX s σ F H (r s) (KOs G s σ H Q) → SAK X xs kws σ H Q
theorem hpk_nil : HPk G EX X (opds f []) [] [] := fun s σ F H Q q p => SK.of pk_nil ((p.here q) [] .nil ⟨.nil, fun _ h => nomatch h⟩)
/-- the step common to both -/
theorem opds_step {e : E} {es : List E} {x : Expr} {Q : List V → Hp → Prop} {R2 : V → Hp → Prop} (h1 : HP G EX X (opd f e) x) (q : Rel G.K G.T s σ F H) (p : PR G EX s σ F H (opds f (e :: es) s) (KOs G s σ H Q))
    (hq : ∀ s1 F1 H1 w, Rel G.K G.T s1 σ F1 H1 → PR G EX s1 σ F1 H1 (opds f es s1) (KOs G s1 σ H1 fun ws H2 => Q (w :: ws) H2) → R2 w H1) : SE X x σ H R2 := by
  refine h1.run q p fun o s1 F1 H1 w g r a b k => ?_
  refine hq s1 F1 H1 w r ((k.bindB.go g).imp fun os s2 F2 H2 g2 r2 k2 ws ha hn => ?_)
  refine (k2.ok (g.trans g2) r2) (w :: ws) (.cons (a.go g2) ha) ?_
  have hn2 : ∀ l ∈ frA ws os, New s σ H l := fun l hl => g.back (hn.new l hl)
  cases o with
  | sl i => exact ⟨by rw [frA_sl]; exact hn.nd, by rw [frA_sl]; exact hn2⟩
  | vl v =>
    have hx : ∀ l, l ∈ frA [w] [.vl v] → w = .ref l ∧ (∃ d, v = .fr d) := fun l hl => by
      cases v with
      | dat d => cases w <;> simp [frA] at hl
      | fr d => cases w <;> simp [frA] at hl; exact ⟨by rw [hl], d, rfl⟩
    refine ⟨?_, ?_⟩
    · rw [frA_vl, List.nodup_append]
      refine ⟨by cases v <;> cases w <;> simp [frA], hn.nd, fun l hl l' hl' z => ?_⟩
      subst z
      obtain ⟨e1, d, e2⟩ := hx l hl
      subst e1 e2
      obtain ⟨l2, e3, h3, h4, h5, h6⟩ := a
      cases e3
      rcases hn.new l hl' with z | z
      · exact h6.there z
      · exact h5 z
    · rw [frA_vl]
      intro l hl
      rcases List.mem_append.mp hl with hl | hl
      · obtain ⟨e1, d, e2⟩ := hx l hl
        subst e1 e2
        exact b l rfl
      · exact hn2 l hl
theorem hpk_cons {e : E} {es : List E} {x : Expr} {xs : List Expr} {kws : List Keyword} (h1 : HP G EX X (opd f e) x) (h2 : HPk G EX X (opds f es) xs kws) : HPk G EX X (opds f (e :: es)) (x :: xs) kws := by
  intro s σ F H Q q p
  exact opds_step h1 q p fun s1 F1 H1 w r pp => h2 s1 σ F1 H1 _ r pp
theorem hpk_kw {e : E} {es : List E} {x : Expr} {kws : List Keyword} {nm : Option Str} {kp : Pos} (h1 : HP G EX X (opd f e) x) (h2 : HPk G EX X (opds f es) [] kws) : HPk G EX X (opds f (e :: es)) [] (⟨nm, x, kp⟩ :: kws) := by
  intro s σ F H Q q p
  exact SK.of (pk_cons pe_SE pk_SK) (opds_step h1 q p fun s1 F1 H1 w r pp => h2 s1 σ F1 H1 _ r pp)
/-! the callee -/
/-- how the parameters are bound: the first m by place, the rest by name -/
def Bd (K : PySem.W.Frag) (fd : FuncData) (ps : List Str) (m : Nat) : Prop := ∀ (s : Shared) (us ws : List Value), K.In s.heap → us.length = m → us.length + ws.length = ps.length → BindsTo s fd ⟨us, (ps.drop m).zip ws⟩ (ps.zip (us ++ ws))
/-- a def as its callers see it -/
structure FnFact (G : Gl0) (C : CT) (lv : Nat) (P : Program) (w : World) (K : PySem.W.Frag) (mg : Str → Option Value) (base : Heap) (fi : Nat) (name : Str) (np : Nat) (ps : List Str) (ms : List Nat) : Prop where
  ex : ∃ (fa : Addr) (fd : FuncData) (ns : Nat), mg name = some (.ref fa) ∧ PySem.W.keepIn K (.ref fa) = true ∧ np ≤ ns ∧ ps.length = np ∧ FnOk P w K mg base (L2.CX P w) lv fa fd ps (FSp G C fi np ns) ∧ ∀ m ∈ ms, Bd K fd ps m
theorem run_fb {pins : List (Addr × Obj)} {st : Shared} {Q : VK} {us ws : List Value} {vs zs : List V} {CX : CXT} {k m : Nat} {fa : Addr} {fd : FuncData} {ps : List Str} {sp : Sp} {E : XK} (FF : FnOk X.prog X.w X.K X.mg X.base CX k fa fd ps sp) (hr : Room k X.A) (hb : Bd X.K fd ps m) (hm : us.length = m) (hx : Passes CX X E)
    (I : Inv X pins σ H st) (r : Vals vs us) (rz : Vals zs ws) (h : sp (vs ++ zs) H Q E) : wpAny (model X.prog X.w) X.A (PySem.call (.ref fa) us ((ps.drop m).zip ws)) (EP X pins σ Q) X.xe st := by
  have r2 : Vals (vs ++ zs) (us ++ ws) := r.append rz
  have hl : (us ++ ws).length = ps.length := by rw [← r2.length]; exact FF.len _ _ _ _ h
  refine wpAny_call (codeAny_mono (FF.run X.A X.stack st H ⟨us, (ps.drop m).zip ws⟩ (us ++ ws) (vs ++ zs) Q E hr I.env0 (hb st us ws I.kIn hm (by rw [List.length_append] at hl; exact hl)) r2 h) fun r s' hq => ?_)
  cases r with
  | error e => exact hx pins σ H st e s' I hq
  | ok fl =>
    cases fl with
    | ret u => exact I.after hq
    | next => exact False.elim hq
    | brk => exact False.elim hq
    | cont => exact False.elim hq
/-- the keywords' names -/
def kwN (kws : List Keyword) : List (Option Str) := kws.map fun k => k.1
theorem kw_all (env : Env) {ks : List Str} : ∀ {kws : List Keyword} {ks : List Str}, kwN kws = ks.map some → (backToKw pos (keywordEach kws env)).all (·.1.isSome) = true ∧ (backToKw pos (keywordEach kws env)).filterMap (·.1) = ks ∧ (backToKw pos (keywordEach kws env)).any (·.1.isNone) = false
  | [], [], _ => ⟨rfl, rfl, rfl⟩
  | [], _ :: _, h => by simp [kwN] at h
  | ⟨nm, x, kp⟩ :: kws, [], h => by simp [kwN] at h
  | ⟨nm, x, kp⟩ :: kws, k :: ks, h => by
    simp only [kwN, List.map_cons, List.cons.injEq] at h
    obtain ⟨rfl, h⟩ := h
    obtain ⟨h1, h2, h3⟩ := kw_all env (kws := kws) (ks := ks) h
    refine ⟨?_, ?_, ?_⟩
    · show (true && (backToKw pos (keywordEach kws env)).all (·.1.isSome)) = true
      rw [h1]; rfl
    · show k :: (backToKw pos (keywordEach kws env)).filterMap (·.1) = _
      rw [h2]
    · show (false || (backToKw pos (keywordEach kws env)).any (·.1.isNone)) = false
      rw [h3]; rfl
theorem hr_call {C : CT} {lv fi np : Nat} {x : Str} {ps : List Str} {ms : List Nat} {es : List E} {xs : List Expr} {kws : List Keyword} (FF : FnFact G C lv X.prog X.w X.K X.mg X.base fi x np ps ms) (hr : Room lv X.A) (hg : Gl X x) (hd : (x == ("__debug__" : Str)) = false) (tk : Takes X fun c d _ H => EX c d H)
    (h : HPk G EX X (opds f es) xs kws) (hs : xs.any isStar = false) (hm : xs.length ∈ ms) (hk : kwN kws = (ps.drop xs.length).map some) (hl : es.length = np) :
    HR G EX X (fun s => (opds f es s).bind fun os s => doCall C fi os s) (.Call (.Name x p) xs kws pos) := by
  intro s σ F H Q q pp
  obtain ⟨fa, fd, ns, hmg, hkp, hn, hps, hF, hB⟩ := FF.ex
  have hx : Passes (L2.CX X.prog X.w) X EX := passes_call tk fun _ _ _ _ h => h
  have hA : SAK X xs kws σ H fun ws H1 => FSp G C fi np ns ws H1 Q EX := by
    refine h s σ F H _ q ?_
    dsimp only at pp
    cases e : opds f es s with
    | ok os s1 =>
      rw [e] at pp
      intro F1 H1 g1 r1 ws ho hnw
      exact call_ok g1 r1 ho hnw (by rw [opds_len es s os s1 e, hl]) hn pp
    | exc nm s1 => rw [e] at pp; exact pp
    | stuck => rw [e] at pp; exact pp.elim
  intro pins st I
  obtain ⟨k1, k2, k3⟩ := kw_all (pos := pos) X.env (ks := []) hk
  refine wpAny_Call_Name_kw (ld_glob I hg hmg ?_ hd)
  cases xs with
  | nil =>
    refine PySem.W.callWith_KW0 (h₀ := X.base) I.ok.mod.kin hkp k1 (thn (hA pos pins st I) fun ws s2 ⟨zs, H2, I2, rz, q2⟩ => ⟨I2.kIn, ?_⟩) k3
    rw [k2]
    exact run_fb (us := []) (vs := []) hF hr (hB _ hm) rfl hx I2 .nil rz q2
  | cons x0 xs =>
    have hA2 := sak_sa hs hA
    have hs' := hs
    rw [List.any_cons, Bool.or_eq_false_iff] at hs'
    refine PySem.W.callWith_KW (h₀ := X.base) I.ok.mod.kin hkp k1 (thn (hA2 pos pins st I) fun us s1 ⟨vs, H1, I1, r, hlen, q1⟩ => ?_) ?_ (starEach_cons hs'.1 _)
    · refine thn (q1 pos pins s1 I1) fun ws s2 ⟨zs, H2, I2, rz, q2⟩ => ⟨I2.kIn, ?_⟩
      rw [k2]
      exact run_fb hF hr (hB _ hm) (by rw [← hlen]; exact r.length.symm) hx I2 r rz q2
    · rw [noStar_back _ hs, k3]; rfl
end
end Fs
set_option Elab.async false
set_option linter.all false
set_option maxRecDepth 100000
set_option maxHeartbeats 2000000
namespace Fs
open PySem PySem.Spec PyProof.Rows L2

/-! ### slots set, wiped, restored -/
section
variable {K : PySem.W.Frag} {T : List Tb} {s s' s0 : S} {σ σ' σ0 : L2.St} {F H F' H' F0 H0 : Hp}
theorem Rel.setV (r : Rel K T s σ F H) {w : V} {v : Vl} (h : VRel K T s σ F H w v) (i : Nat) : Rel K T (s.set i v.sl) (σ.set i (some w)) F H := by
  by_cases hi : i < s.length
  case neg =>
    rw [List.set_eq_of_length_le (by omega), List.set_eq_of_length_le (by rw [← r.len]; omega)]
    exact r
  have hl : i < σ.length := by rw [← r.len]; exact hi
  have gσ : ∀ j, j ≠ i → (σ.set i (some w))[j]? = σ[j]? := fun j hj => List.getElem?_set_ne fun z => hj z.symm
  have gi : (σ.set i (some w))[i]? = some (some w) := List.getElem?_set_self hl
  refine ⟨by simp [r.len], fun j d e => ?_, fun j b d e => ?_, fun j ns e => ?_, fun j k b d c e l e1 e2 e3 e4 => ?_, r.sub, r.tab⟩
  · rcases get_set e with ⟨rfl, z⟩ | ⟨hj, z⟩
    · cases v with
      | dat d' => cases z; exact ⟨w, gi, h⟩
      | fr d' => cases z
    · rw [gσ j hj]; exact r.dat j d z
  · rcases get_set e with ⟨rfl, z⟩ | ⟨hj, z⟩
    · cases v with
      | dat d' => cases z
      | fr d' =>
        cases z
        obtain ⟨l, rfl, h1, h2, h3, h4⟩ := h
        exact ⟨l, gi, h1, h2, h4⟩
    · rw [gσ j hj]; exact r.mu j b d z
  · rcases get_set e with ⟨rfl, z⟩ | ⟨hj, z⟩
    · cases v <;> cases z
    · rw [gσ j hj]; exact r.scr j ns z
  · rcases get_set e1 with ⟨rfl, z⟩ | ⟨hj, z⟩
    · rcases get_set e2 with ⟨rfl, z2⟩ | ⟨hk, z2⟩
      · rfl
      · cases v with
        | dat d' => cases z
        | fr d' =>
          cases z
          rw [gi] at e3; cases e3
          obtain ⟨l', z3, h1, h2, h3, h4⟩ := h
          cases z3
          rw [gσ k hk] at e4
          exact absurd ⟨k, c, e, z2, e4⟩ h3
    · rcases get_set e2 with ⟨rfl, z2⟩ | ⟨hk, z2⟩
      · cases v with
        | dat d' => cases z2
        | fr d' =>
          cases z2
          rw [gi] at e4; cases e4
          obtain ⟨l', z3, h1, h2, h3, h4⟩ := h
          cases z3
          rw [gσ j hj] at e3
          exact absurd ⟨j, b, d, z, e3⟩ h3
      · rw [gσ j hj] at e3
        rw [gσ k hk] at e4
        exact r.apart j k b d c e l z z2 e3 e4
theorem free_nb {i : Nat} (h : free s i = true) : (∀ d, s[i]? ≠ some (.mu true d)) ∧ i < s.length := by
  unfold free at h
  split at h
  · cases h
  · cases h
  · rename_i x hx _ e
    exact ⟨fun d z => by rw [e] at z; cases z; exact hx _ rfl, (List.getElem?_eq_some_iff.mp e).1⟩
  · cases h
theorem Go.setV (g : Go T s0 σ0 F0 H0 s σ F H) {w : V} {v : Vl} (hn : VNew s0 σ0 H0 w v) {i : Nat} (hf : ∀ d, s[i]? ≠ some (.mu true d)) : Go T s0 σ0 F0 H0 (s.set i v.sl) (σ.set i (some w)) F H where
  ext := g.ext
  new := g.new
  keep := g.keep
  alive := g.alive
  own := fun a ⟨j, b, d, e1, e2⟩ => by
    rcases get_set e1 with ⟨rfl, z⟩ | ⟨hj, z⟩
    · cases v with
      | dat d' => cases z
      | fr d' =>
        have hl : j < σ.length := by
          have := (List.getElem?_eq_some_iff.mp e2).1
          simpa using this
        rw [List.getElem?_set_self hl] at e2
        cases e2
        exact (hn a rfl).symm
    · rw [List.getElem?_set_ne (fun z => hj z.symm)] at e2
      exact g.own a ⟨j, b, d, z, e2⟩
  bor := fun j d e => by
    obtain ⟨⟨d', e'⟩, e2⟩ := g.bor j d e
    have hj : j ≠ i := fun z => hf d' (by rw [← z]; exact e')
    exact ⟨⟨d', by rw [List.getElem?_set_ne (fun z => hj z.symm)]; exact e'⟩, by rw [List.getElem?_set_ne (fun z => hj z.symm)]; exact e2⟩
theorem wipe_at : ∀ (I : List Nat) (s : S) (j : Nat), (wipe I s)[j]? = if j ∈ I then s[j]?.map (fun _ => Sl.un) else s[j]?
  | [], s, j => by simp [wipe]
  | i :: I, s, j => by
    have ih := wipe_at I (s.set i .un) j
    have e : wipe (i :: I) s = wipe I (s.set i .un) := rfl
    rw [e, ih]
    by_cases hj : j = i
    · subst hj
      have e2 : (s.set j .un)[j]? = s[j]?.map (fun _ => Sl.un) := by rw [List.getElem?_set_self']; cases s[j]? <;> rfl
      rw [e2, if_pos List.mem_cons_self]
      cases s[j]? <;> simp
    · rw [List.getElem?_set_ne (fun z => hj z.symm)]
      by_cases hI : j ∈ I
      · rw [if_pos hI, if_pos (List.mem_cons_of_mem _ hI)]
      · rw [if_neg hI, if_neg (by simp [hj, hI])]
theorem wipe_len (I : List Nat) : ∀ s : S, (wipe I s).length = s.length := by
  induction I with
  | nil => intro s; rfl
  | cons i I ih => intro s; show (wipe I (s.set i .un)).length = _; rw [ih]; simp
theorem unwipe_at (s0 : S) : ∀ (I : List Nat) (s : S) (j : Nat), (unwipe I s0 s)[j]? = if j ∈ I then s[j]?.map (fun _ => s0.getD j .un) else s[j]?
  | [], s, j => by simp [unwipe]
  | i :: I, s, j => by
    have ih := unwipe_at s0 I (s.set i (s0.getD i .un)) j
    have e : unwipe (i :: I) s0 s = unwipe I s0 (s.set i (s0.getD i .un)) := rfl
    rw [e, ih]
    by_cases hj : j = i
    · subst hj
      have e2 : (s.set j (s0.getD j .un))[j]? = s[j]?.map (fun _ => s0.getD j .un) := by rw [List.getElem?_set_self']; cases s[j]? <;> rfl
      rw [e2, if_pos List.mem_cons_self]
      cases s[j]? <;> simp
    · rw [List.getElem?_set_ne (fun z => hj z.symm)]
      by_cases hI : j ∈ I
      · rw [if_pos hI, if_pos (List.mem_cons_of_mem _ hI)]
      · rw [if_neg hI, if_neg (by simp [hj, hI])]
theorem unwipe_len (s0 : S) (I : List Nat) : ∀ s : S, (unwipe I s0 s).length = s.length := by
  induction I with
  | nil => intro s; rfl
  | cons i I ih => intro s; show (unwipe I s0 (s.set i _)).length = _; rw [ih]; simp
theorem wipe_slot {I : List Nat} {s : S} {j : Nat} {x : Sl} (h : (wipe I s)[j]? = some x) (hx : x ≠ .un) : j ∉ I ∧ s[j]? = some x := by
  rw [wipe_at] at h
  split at h
  · cases q : s[j]? with
    | none => rw [q] at h; cases h
    | some y => rw [q] at h; cases h; exact absurd rfl hx
  · rename_i hI; exact ⟨hI, h⟩
theorem Rel.wipeB (r : Rel K T s σ F H) (I : List Nat) (hσ : ∀ j, j ∉ I → σ'[j]? = σ[j]?) (hl : σ'.length = σ.length) : Rel K T (wipe I s) σ' F H := by
  refine ⟨by rw [wipe_len, hl]; exact r.len, fun j d e => ?_, fun j b d e => ?_, fun j ns e => ?_, fun j k b d c e l e1 e2 e3 e4 => ?_, r.sub, r.tab⟩
  · obtain ⟨h1, h2⟩ := wipe_slot e (by intro z; cases z)
    rw [hσ j h1]; exact r.dat j d h2
  · obtain ⟨h1, h2⟩ := wipe_slot e (by intro z; cases z)
    rw [hσ j h1]; exact r.mu j b d h2
  · obtain ⟨h1, h2⟩ := wipe_slot e (by intro z; cases z)
    rw [hσ j h1]; exact r.scr j ns h2
  · obtain ⟨h1, h2⟩ := wipe_slot e1 (by intro z; cases z)
    obtain ⟨h3, h4⟩ := wipe_slot e2 (by intro z; cases z)
    rw [hσ j h1] at e3
    rw [hσ k h3] at e4
    exact r.apart j k b d c e l h2 h4 e3 e4
/-- back behind a block -/
theorem restore {I : List Nat} {σB : L2.St} (q : Rel K T s σ F H) (g : Go T (wipe I s) σB F H s' σB F' H') (r : Rel K T s' σB F' H') (hσ : ∀ j, j ∉ I → σB[j]? = σ[j]?) (hlB : σB.length = σ.length) :
    Go T s σ F H (unwipe I s s') σ F' H' ∧ Rel K T (unwipe I s s') σ F' H' := by
  have hlen : s'.length = σ.length := by rw [r.len, hlB]
  have ownB : ∀ a, own (wipe I s) σB a → own s σ a := fun a ⟨j, b, d, e1, e2⟩ => by
    obtain ⟨h1, h2⟩ := wipe_slot e1 (by intro z; cases z)
    rw [hσ j h1] at e2
    exact ⟨j, b, d, h2, e2⟩
  have inI : ∀ (j : Nat) (x : Sl), j ∈ I → (unwipe I s s')[j]? = some x → s[j]? = some x := fun j x hj e => by
    rw [unwipe_at, if_pos hj] at e
    have hjl : j < s.length := by
      cases z : s'[j]? with
      | none => rw [z] at e; cases e
      | some y =>
        have := (List.getElem?_eq_some_iff.mp z).1
        rw [q.len, ← hlen]; exact this
    cases z : s'[j]? with
    | none => rw [z] at e; cases e
    | some y =>
      rw [z] at e
      have e : s.getD j .un = x := Option.some.inj e
      rw [List.getD_eq_getElem?_getD, List.getElem?_eq_getElem hjl] at e
      rw [List.getElem?_eq_getElem hjl]; exact congrArg some e
  have outI : ∀ (j : Nat), j ∉ I → (unwipe I s s')[j]? = s'[j]? := fun j hj => by rw [unwipe_at, if_neg hj]
  -- the objects of the slots in I are not the block's
  have nB : ∀ (j : Nat) (b : Bool) (d : D) (l : Addr), j ∈ I → s[j]? = some (.mu b d) → σ[j]? = some (some (.ref l)) → ¬ own (wipe I s) σB l := fun j b d l hj e1 e2 ⟨k, c, e, e3, e4⟩ => by
    obtain ⟨h1, h2⟩ := wipe_slot e3 (by intro z; cases z)
    rw [hσ k h1] at e4
    have := q.apart j k b d c e l e1 h2 e2 e4
    subst this
    exact h1 hj
  refine ⟨⟨g.ext, fun a h => ?_, fun a o h n t => g.keep a o h (fun z => n (ownB a z)) t, g.alive, fun a ⟨j, b, d, e1, e2⟩ => ?_, fun j d e => ⟨?_, rfl⟩⟩,
    ⟨by rw [unwipe_len]; exact hlen, fun j d e => ?_, fun j b d e => ?_, fun j ns e => ?_, fun j k b d c e l e1 e2 e3 e4 => ?_, r.sub, r.tab⟩⟩
  · rcases g.new a h with h | h | h | h
    · exact .inl h
    · exact .inr (.inl h)
    · exact .inr (.inr (.inl (ownB a h)))
    · exact .inr (.inr (.inr h))
  · by_cases hj : j ∈ I
    · exact .inl ⟨j, b, d, inI j _ hj e1, e2⟩
    · rw [outI j hj] at e1
      rw [← hσ j hj] at e2
      rcases g.own a ⟨j, b, d, e1, e2⟩ with z | z
      · exact .inl (ownB a z)
      · exact .inr z
  · by_cases hj : j ∈ I
    · refine ⟨d, ?_⟩
      have hjl : j < s'.length := by
        have := (List.getElem?_eq_some_iff.mp e).1
        have h1 := q.len
        omega
      rw [unwipe_at, if_pos hj, List.getElem?_eq_getElem hjl, List.getD_eq_getElem?_getD, e]; rfl
    · obtain ⟨⟨d', e'⟩, _⟩ := g.bor j d (by rw [wipe_at, if_neg hj]; exact e)
      exact ⟨d', by rw [outI j hj]; exact e'⟩
  · by_cases hj : j ∈ I
    · obtain ⟨v, e1, e2⟩ := q.dat j d (inI j _ hj e)
      exact ⟨v, e1, e2.mono g.ext⟩
    · rw [outI j hj] at e
      rw [← hσ j hj]; exact r.dat j d e
  · by_cases hj : j ∈ I
    · have e0 := inI j _ hj e
      obtain ⟨l, h1, h2, h3, h4⟩ := q.mu j b d e0
      obtain ⟨h5, h6, h7⟩ := g.mu h2 h3 (nB j b d l hj e0 h1) h4
      exact ⟨l, h1, h5, h3, h7⟩
    · rw [outI j hj] at e
      rw [← hσ j hj]; exact r.mu j b d e
  · by_cases hj : j ∈ I
    · obtain ⟨l, e1, e2⟩ := q.scr j ns (inI j _ hj e)
      exact ⟨l, e1, g.ext.l e2⟩
    · rw [outI j hj] at e
      rw [← hσ j hj]; exact r.scr j ns e
  · have mix : ∀ (j k : Nat) (b : Bool) (d : D) (c : Bool) (e : D), j ∈ I → k ∉ I → (unwipe I s s')[j]? = some (.mu b d) → (unwipe I s s')[k]? = some (.mu c e) → σ[j]? = some (some (.ref l)) → σ[k]? = some (some (.ref l)) → False := fun j k b d c e hj hk e1 e2 e3 e4 => by
      have e0 := inI j _ hj e1
      obtain ⟨l', h1, h2, h3, h4⟩ := q.mu j b d e0
      rw [e3] at h1; cases h1
      rw [outI k hk] at e2
      rw [← hσ k hk] at e4
      rcases g.own l ⟨k, c, e, e2, e4⟩ with z | z
      · exact nB j b d l hj e0 e3 z
      · exact h4.there z
    by_cases hj : j ∈ I
    · by_cases hk : k ∈ I
      · exact q.apart j k b d c e l (inI j _ hj e1) (inI k _ hk e2) e3 e4
      · exact (mix j k b d c e hj hk e1 e2 e3 e4).elim
    · by_cases hk : k ∈ I
      · exact (mix k j c e b d hk hj e2 e1 e4 e3).elim
      · rw [outI j hj] at e1
        rw [outI k hk] at e2
        rw [← hσ j hj] at e3
        rw [← hσ k hk] at e4
        exact r.apart j k b d c e l e1 e2 e3 e4
end
end Fs
set_option Elab.async false
set_option linter.all false
set_option maxRecDepth 100000
set_option maxHeartbeats 2000000
namespace Fs
open PySem PySem.Spec PyProof.Rows L2

/-! ### what is walked -/
structure ItOk (K : PySem.W.Frag) (T : List Tb) (J : It) (F : Hp) (ds : List D) (Gd : Hp → Prop) : Prop where
  goes : ∀ i H, i < ds.length → Gd H → J.go i H
  stops : ∀ H, Gd H → J.stop ds.length H
  yields : ∀ i H v H' s σ F2, Sub F F2 → Rel K T s σ F2 H → i < ds.length → Gd H → J.yld i H v H' → ∃ F3 d, Go T s σ F2 H s σ F3 H' ∧ Rel K T s σ F3 H' ∧ ds[i]? = some d ∧ Rp K F3 v d
def Stable (K : PySem.W.Frag) (T : List Tb) (s : S) (σ : L2.St) (F H : Hp) (Gd : Hp → Prop) : Prop := ∀ F3 H3, Sub F F3 → Sub F3 H3 → (∀ a o, H a = some o → ¬ own s σ a → ¬ inT T a → H3 a = some o) → Gd H3
section
variable (X : Cx)
def SI (tg iter : Expr) : TI := fun σ H R => ∀ pins s, Inv X pins σ H s → wpAny (model X.prog X.w) X.A (eval iter X.env) (fun v s1 => wpAny (model X.prog X.w) X.A (pyIter v) (PIE X pins σ tg R) X.xe s1) X.xe s
end
section
variable {G : Gl0} {EX : XK} {X : Cx} {s s1 : S} {σ : L2.St} {F H F1 H1 : Hp} {f : E → S → R Vl} {pos p : Pos} {tg iter xa xb : Expr} {a b : E}
theorem pi_SI : PI X tg iter (SI X tg iter) := ⟨fun pins s _ _ _ I h => h pins s I⟩
theorem SI.of {wi : TI} {RR : It → Hp → Prop} (h : PI X tg iter wi) (q : wi σ H RR) : SI X tg iter σ H RR := fun pins s I => h.run pins s σ H RR I q
def HI (G : Gl0) (EX : XK) (X : Cx) (r : S → R (List D × Option Nat)) (tg iter : Expr) : Prop := ∀ s σ F H (RR : It → Hp → Prop), Rel G.K G.T s σ F H →
  PR G EX s σ F H (r s) (fun xs s1 _ H1 => ∀ J F1 Gd, Go G.T s σ F H s1 σ F1 H1 → Rel G.K G.T s1 σ F1 H1 → ItOk G.K G.T J F1 xs.1 Gd → Stable G.K G.T (wipe (shutI xs.2) s1) σ F1 H1 Gd → RR J H1) → SI X tg iter σ H RR
theorem itok_range {lo : Int} {n : Nat} : ItOk G.K G.T (Itr lo n) F ((List.range n).map fun (k : Nat) => .int (lo + k)) (fun _ => True) where
  goes := fun i H hi _ => by simpa [Itr] using hi
  stops := fun H _ => by simp [Itr]
  yields := fun i H v H' s σ F2 hs q hi _ y => by
    obtain ⟨rfl, rfl⟩ := y
    have hi : i < n := by simpa using hi
    exact ⟨F2, _, Go.refl, q, by rw [List.getElem?_map, List.getElem?_range hi]; rfl, .int _⟩
theorem sqL_inj {K : PySem.W.Frag} {a : Addr} {xs : List V} (h : H a = some (.lst xs)) : SqL K H a xs := .inl (.inl h)
theorem itok_list {a : Addr} {vs : List V} {ds : List D} (hr : RpAll G.K F vs ds) : ItOk G.K G.T (Itl G.K a) F ds (fun H => H a = some (.lst vs)) where
  goes := fun i H hi h => by
    have hv : i < vs.length := by rw [hr.length]; exact hi
    exact ⟨vs, vs[i], .inl (.inl h), List.getElem?_eq_getElem hv⟩
  stops := fun H h => ⟨vs, .inl (.inl h), by rw [hr.length]; exact Nat.le_refl _⟩
  yields := fun i H v H' s σ F2 hs q hi h y => by
    obtain ⟨rfl, y⟩ := y
    have hv := y vs (.inl (.inl h))
    obtain ⟨d, e1, e2⟩ := hr.get' hv
    exact ⟨F2, d, Go.refl, q, e1, e2.mono hs⟩
theorem itok_tup {a : Addr} {vs : List V} {ds : List D} (hr : RpAll G.K F vs ds) : ItOk G.K G.T (Itt G.K a) F ds (fun H => H a = some (.tup vs)) where
  goes := fun i H hi h => by
    have hv : i < vs.length := by rw [hr.length]; exact hi
    exact ⟨vs, vs[i], .inl (.inl h), List.getElem?_eq_getElem hv⟩
  stops := fun H h => ⟨vs, .inl (.inl h), by rw [hr.length]; exact Nat.le_refl _⟩
  yields := fun i H v H' s σ F2 hs q hi h y => by
    obtain ⟨rfl, y⟩ := y
    have hv := y vs (.inl (.inl h))
    obtain ⟨d, e1, e2⟩ := hr.get' hv
    exact ⟨F2, d, Go.refl, q, e1, e2.mono hs⟩
theorem stable_F {s : S} {a : Addr} {o : L2.HO} (h : F a = some o) : Stable G.K G.T s σ F H (fun H => H a = some o) := fun F3 H3 g r _ => r a o (g a o h)
theorem pi_seq {l : Expr} {tl : TE} (hl : PE X l tl) : PI X tg l (fun σ H R => tl σ H fun x H1 => ∃ a, x = .ref a ∧ (((∃ xs, SqL X.K H1 a xs) ∧ R (Itl X.K a) H1) ∨ ((∃ xs, SqT X.K H1 a xs) ∧ R (Itt X.K a) H1))) := by
  refine ⟨fun pins s σ H R I h => ?_⟩
  refine thn (hl.run pins s σ H _ I h) fun v s1 ⟨x, H1, I1, r1, q1⟩ => ?_
  obtain ⟨a, e, q1⟩ := q1
  subst e
  cases r1
  rcases q1 with ⟨⟨xs, hq⟩, q⟩ | ⟨⟨xs, hq⟩, q⟩
  · obtain ⟨its, rv, p, hz⟩ := I1.list hq
    refine wpAny_pyIter_list p.isList ?_
    refine ⟨s1.heap.objs.size, [s1.heap.objs.size], _, _, H1, rfl, I1.kept (t' := s1.toks) fun b o e => Heap.get?_push_of_some _ e, turn_list a _, ⟨_, Heap.get?_push_size _ rfl, rfl, rfl⟩, fun b hb => ?_, q⟩
    have e : b = s1.heap.objs.size := by simpa using hb
    subst e
    exact I1.fpOk (Nat.le_refl _) (I1.hok.fresh (Nat.le_refl _))
  · obtain ⟨its, rv, p, hz⟩ := I1.tuple hq
    refine wpAny_pyIter_tuple (show s1.heap.IsTuple a its.toArray from p) ?_
    refine ⟨s1.heap.objs.size, [s1.heap.objs.size], _, _, H1, rfl, I1.kept (t' := s1.toks) fun b o e => Heap.get?_push_of_some _ e, turn_tuple a _, ⟨_, Heap.get?_push_size _ rfl, rfl, rfl⟩, fun b hb => ?_, q⟩
    have e : b = s1.heap.objs.size := by simpa using hb
    subst e
    exact I1.fpOk (Nat.le_refl _) (I1.hok.fresh (Nat.le_refl _))
/-- data walked -/
theorem seq_data (hK : X.K = G.K) {w : V} {d : D} {ds : List D} {RR : It → Hp → Prop} (q : Rel G.K G.T s σ F H) (h : Rp G.K F w d) (e : items d = some ds)
    (k : ∀ J Gd, ItOk G.K G.T J F ds Gd → Stable G.K G.T s σ F H Gd → RR J H) : ∃ a, w = .ref a ∧ (((∃ xs, SqL X.K H a xs) ∧ RR (Itl X.K a) H) ∨ ((∃ xs, SqT X.K H a xs) ∧ RR (Itt X.K a) H)) := by
  unfold items at e
  split at e
  · cases e
    cases h with
    | lst h r =>
      rw [hK]
      exact ⟨_, rfl, .inl ⟨⟨_, .inl (.inl (q.sub _ _ h))⟩, k _ _ (itok_list r) (stable_F h)⟩⟩
  · cases e
    cases h with
    | tup h r =>
      rw [hK]
      exact ⟨_, rfl, .inr ⟨⟨_, .inl (.inl (q.sub _ _ h))⟩, k _ _ (itok_tup r) (stable_F h)⟩⟩
  · cases e
theorem hi_val (hK : X.K = G.K) (h : HR G EX X (f a) xa) : HI G EX X (fun s => (f a s).bind fun v s => toR ((items v.d).map (·, none)) s) tg xa := by
  intro s σ F H RR q p
  refine SI.of (pi_seq pe_SE) (h.run q p fun v s1 F1 H1 w g1 r1 hv hn k1 => ?_)
  obtain ⟨xs, e1, p1⟩ := k1.some
  obtain ⟨ds, e2, e3⟩ := Option.map_eq_some_iff.mp e1
  obtain ⟨F2, g2, r2, hp, _⟩ := settle g1 r1 hv hn
  subst e3
  exact seq_data hK r2 hp e2 fun J Gd i st => (p1.ok g2 r2) J F2 Gd g2 r2 i st
theorem hi_ref (hK : X.K = G.K) {i : Nat} {x : Str} (n : NmOk X i x) : HI G EX X (fun s => match s[i]? with
      | some (.dat d) => toR ((items d).map (·, none)) s
      | some (.mu _ d) => toR ((items d).map (·, some i)) s
      | _ => .stuck) tg (.Name x pos) := by
  intro s σ F H RR q p
  refine SI.of (pi_seq (pe_var n.at_ n.vis n.d n.c)) ?_
  dsimp only at p
  split at p
  · rename_i d e
    obtain ⟨v, e1, e2⟩ := q.dat i d e
    obtain ⟨xs, e3, p1⟩ := p.some
    obtain ⟨ds, e4, e5⟩ := Option.map_eq_some_iff.mp e3
    subst e5
    exact ⟨v, e1, seq_data hK q e2 e4 fun J Gd it st => (p1.here q) J F Gd Go.refl q it st⟩
  · rename_i b d e
    obtain ⟨xs, e3, p1⟩ := p.some
    obtain ⟨ds, e4, e5⟩ := Option.map_eq_some_iff.mp e3
    subst e5
    obtain ⟨l, h1, h2, h3, h4⟩ := q.mu i b d e
    refine ⟨_, h1, l, rfl, .inl ?_⟩
    cases d with
    | list ds' =>
      cases e4
      obtain ⟨vs, h5, h6⟩ := h4
      rw [hK]
      refine ⟨⟨vs, .inl (.inl h5)⟩, (p1.here q) _ F _ Go.refl q (itok_list h6) fun F3 H3 g r k => ?_⟩
      exact k l _ h5 (unset_own q e h1) h3
    | tuple _ => exact h4.elim
    | _ => cases e4
  · exact p.elim
theorem hi_rng1 (b : BtOk X "range") (h : HR G EX X (f a) xa) (hs : isStar xa = false) : HI G EX X (fun s => (f a s).bind fun v s => (match v with
    | .dat (.int h) => toR ((rngD 0 h).map (·, none)) s
    | _ => .stuck)) tg (.Call (.Name "range" p) [xa] [] pos) := by
  intro s σ F H RR q pp
  refine SI.of (pi_range1 b.gl b.mg (pa_cons pe_SE pa_nil (starEach_cons hs _)) (starEach_cons hs _)) (h.run q pp fun v s1 F1 H1 w g1 r1 hv hn k1 => ?_)
  clear hn
  split at k1
  · rename_i hh
    cases hv
    obtain ⟨xs, e1, p1⟩ := k1.some
    obtain ⟨ds, e2, e3⟩ := Option.map_eq_some_iff.mp e1
    subst e3
    unfold rngD at e2
    split at e2
    · rename_i c
      cases e2
      have hz : (hh - 0).toNat = hh.toNat := by rw [Int.sub_zero]
      rw [hz] at p1
      exact ⟨hh, rfl, by omega, by omega, (p1.ok g1 r1) _ F1 _ g1 r1 itok_range fun _ _ _ _ _ => trivial⟩
    · cases e2
  · exact k1.elim
theorem hi_rng2 (bt : BtOk X "range") (ha : HR G EX X (f a) xa) (hb : HR G EX X (f b) xb) (hsa : isStar xa = false) (hsb : isStar xb = false) : HI G EX X (fun s => (f a s).bind fun v s => (f b s).bind fun w s => (match v, w with
    | .dat (.int l), .dat (.int h) => toR ((rngD l h).map (·, none)) s
    | _, _ => .stuck)) tg (.Call (.Name "range" p) [xa, xb] [] pos) := by
  intro s σ F H RR q pp
  refine SI.of (pi_range2 bt.gl bt.mg (pa_cons pe_SE (pa_cons pe_SE pa_nil (starEach_cons hsb _)) (starEach_cons hsa _)) (by rw [starEach_cons hsa, starEach_cons hsb]; rfl) (starEach_cons hsb _)) ?_
  refine ha.run q pp fun v s1 F1 H1 w g1 r1 hv hn k1 => ?_
  refine hb s1 σ F1 H1 _ r1 ((k1.bindB.go g1).imp fun u s2 F2 H2 g2 r2 k2 w2 hw hn2 => ?_)
  clear hn hn2
  split at k2
  · rename_i ll hh
    cases hv; cases hw
    obtain ⟨xs, e1, p1⟩ := k2.some
    obtain ⟨ds, e2, e3⟩ := Option.map_eq_some_iff.mp e1
    subst e3
    unfold rngD at e2
    split at e2
    · rename_i c
      cases e2
      have gg := g1.trans g2
      exact ⟨ll, hh, rfl, ⟨by omega, by omega, by omega, by omega⟩, (p1.ok gg r2) _ F2 _ gg r2 itok_range fun _ _ _ _ _ => trivial⟩
    · cases e2
  · exact k2.elim
theorem itok_zip {a b : Addr} {vs ws : List V} {ds es : List D} (hr : RpAll G.K F vs ds) (hr2 : RpAll G.K F ws es) :
    ItOk G.K G.T (RZ.ItzT G.K a b) F ((ds.zip es).map fun p => .tuple [p.1, p.2]) (fun H => H a = some (.tup vs) ∧ H b = some (.tup ws)) where
  goes := fun i H hi h => by
    rw [List.length_map, List.length_zip] at hi
    have hv : i < vs.length := by rw [hr.length]; omega
    have hw : i < ws.length := by rw [hr2.length]; omega
    exact ⟨vs, ws, vs[i], ws[i], .inl (.inl h.1), .inl (.inl h.2), List.getElem?_eq_getElem hv, List.getElem?_eq_getElem hw⟩
  stops := fun H h => by
    refine ⟨vs, ws, .inl (.inl h.1), .inl (.inl h.2), ?_⟩
    rw [List.length_map, List.length_zip, ← hr.length, ← hr2.length]
    omega
  yields := fun i H v H' s σ F2 hs q hi h y => by
    obtain ⟨T, x, z, rfl, hT, rfl, h1, h2⟩ := y
    obtain ⟨d, e1, e2⟩ := hr.get' (h1 vs (.inl (.inl h.1)))
    obtain ⟨d', e3, e4⟩ := hr2.get' (h2 ws (.inl (.inl h.2)))
    refine ⟨_, .tuple [d, d'], Go.newF q hT, q.newF hT, ?_, .tup upd_same (.cons ((e2.mono hs).mono (Sub.new (q.fresh hT))) (.cons ((e4.mono hs).mono (Sub.new (q.fresh hT))) .nil))⟩
    rw [List.getElem?_map, List.getElem?_zip_eq_some (z := (d, d')) |>.mpr ⟨e1, e3⟩]; rfl
theorem itok_zipL {a b : Addr} {vs ws : List V} {ds es : List D} (hr : RpAll G.K F vs ds) (hr2 : RpAll G.K F ws es) :
    ItOk G.K G.T (Itz G.K a b) F ((ds.zip es).map fun p => .tuple [p.1, p.2]) (fun H => H a = some (.lst vs) ∧ H b = some (.lst ws)) where
  goes := fun i H hi h => by
    rw [List.length_map, List.length_zip] at hi
    have hv : i < vs.length := by rw [hr.length]; omega
    have hw : i < ws.length := by rw [hr2.length]; omega
    exact ⟨vs, ws, vs[i], ws[i], .inl (.inl h.1), .inl (.inl h.2), List.getElem?_eq_getElem hv, List.getElem?_eq_getElem hw⟩
  stops := fun H h => by
    refine ⟨vs, ws, .inl (.inl h.1), .inl (.inl h.2), ?_⟩
    rw [List.length_map, List.length_zip, ← hr.length, ← hr2.length]
    omega
  yields := fun i H v H' s σ F2 hs q hi h y => by
    obtain ⟨T, x, z, rfl, hT, rfl, h1, h2⟩ := y
    obtain ⟨d, e1, e2⟩ := hr.get' (h1 vs (.inl (.inl h.1)))
    obtain ⟨d', e3, e4⟩ := hr2.get' (h2 ws (.inl (.inl h.2)))
    refine ⟨_, .tuple [d, d'], Go.newF q hT, q.newF hT, ?_, .tup upd_same (.cons ((e2.mono hs).mono (Sub.new (q.fresh hT))) (.cons ((e4.mono hs).mono (Sub.new (q.fresh hT))) .nil))⟩
    rw [List.getElem?_map, List.getElem?_zip_eq_some (z := (d, d')) |>.mpr ⟨e1, e3⟩]; rfl
theorem hi_zip {elts : List Expr} {kk : Nat} {tpos : Pos} (hK : X.K = G.K) (bt : BtOk X "zip") (ha : HP G EX X (opd f a) xa) (hb : HP G EX X (opd f b) xb) (hsa : isStar xa = false) (hsb : isStar xb = false) : HI G EX X (fun s => (opds f [a, b] s).bind fun os s => (match looks s os with
    | some [.tuple xs, .tuple ys] => .ok ((xs.zip ys).map fun p => .tuple [p.1, p.2], none) s
    | some [.list xs, .list ys] => if os.all Op.isDat = true then .ok ((xs.zip ys).map fun p => .tuple [p.1, p.2], none) s else .stuck
    | _ => .stuck)) (.Tuple elts kk tpos) (.Call (.Name "zip" p) [xa, xb] [] pos) := by
  intro s σ F H RR q pp
  refine SI.of (RZ.pi_zipA bt.gl bt.mg (pa_cons pe_SE (pa_cons pe_SE pa_nil (starEach_cons hsb _)) (starEach_cons hsa _)) (by rw [starEach_cons hsa]) (noStar_back _ (by simp [hsb]))) ?_
  refine op2 ha hb q pp fun s2 F2 H2 x y oa ob g2 r2 h1 h2 k2 => ?_
  split at k2
  · rename_i xs ys e
    obtain ⟨d1, d2, e0, e1, e2⟩ := looks2 e
    cases e0
    have v1 := (h1.view r2 e1).tupF
    have v2 := (h2.view r2 e2).tupF
    cases v1 with
    | tup t1 p1 =>
      cases v2 with
      | tup t2 p2 =>
        rename_i a1 vs1 a2 vs2
        refine ⟨_, _, _, _, rfl, .inr ⟨by rw [hK]; exact .inl (.inl (r2.sub _ _ t1)), by rw [hK]; exact .inl (.inl (r2.sub _ _ t2)), ?_⟩⟩
        rw [hK]
        exact (k2.ok g2 r2) _ F2 _ g2 r2 (itok_zip p1 p2) fun F3 H3 g r _ => ⟨r _ _ (g _ _ t1), r _ _ (g _ _ t2)⟩
  · rename_i xs ys e
    obtain ⟨d1, d2, e0, e1, e2⟩ := looks2 e
    cases e0
    split at k2
    · rename_i hd
      have hd : oa.isDat = true ∧ ob.isDat = true := by simpa using hd
      cases oa with
      | sl _ => cases hd.1
      | vl v => cases v with
        | fr _ => cases hd.1
        | dat d => cases ob with
          | sl _ => cases hd.2
          | vl w => cases w with
            | fr _ => cases hd.2
            | dat d' =>
              cases e1; cases e2
              have h1 : Rp G.K F2 x (.list xs) := h1
              have h2 : Rp G.K F2 y (.list ys) := h2
              cases h1 with
              | lst t1 p1 =>
                cases h2 with
                | lst t2 p2 =>
                  refine ⟨_, _, _, _, rfl, .inl ⟨by rw [hK]; exact .inl (.inl (r2.sub _ _ t1)), by rw [hK]; exact .inl (.inl (r2.sub _ _ t2)), ?_⟩⟩
                  rw [hK]
                  exact (k2.ok g2 r2) _ F2 _ g2 r2 (itok_zipL p1 p2) fun F3 H3 g r _ => ⟨r _ _ (g _ _ t1), r _ _ (g _ _ t2)⟩
    · exact k2.elim
  · exact k2.elim
end
end Fs
set_option Elab.async false
set_option linter.all false
set_option maxRecDepth 100000
set_option maxHeartbeats 2000000
namespace Fs
open PySem PySem.Spec PyProof.Rows L2

/-! ### targets -/
section
variable {G : Gl0} {EX : XK} {X : Cx} {s s1 : S} {σ : L2.St} {F H F1 H1 : Hp} {f : E → S → R Vl} {pos p : Pos}
structure TgOk (X : Cx) (i : Nat) (x : Str) : Prop where
  at_ : X.N[i]? = some x
  loc : Loc X.env.scope x
  fn : X.fn x = true ∨ X.env.scope.names.lookup x = some .local
inductive TgsOk (X : Cx) : List Nat → List Expr → Prop
  | nil : TgsOk X [] []
  | cons {i : Nat} {is : List Nat} {x : Str} {p : Pos} {es : List Expr} : TgOk X i x → TgsOk X is es → TgsOk X (i :: is) (.Name x p :: es)
def gNames : List Nat → TGs
  | [] => gNil
  | i :: is => gCons (gName i) (gNames is)
theorem pgs_names (hN : X.N.Nodup) : ∀ {is : List Nat} {es : List Expr}, TgsOk X is es → PGs X es (gNames is) ∧ (assignEach es X.env).length = is.length ∧ (assignEach es X.env).findIdx? (·.1) = none
  | _, _, .nil => ⟨pgs_nil, rfl, rfl⟩
  | _, _, .cons (es := es) h t => by
    obtain ⟨h1, h2, h3⟩ := pgs_names hN t
    refine ⟨pgs_cons (pg_name hN h.at_ h.loc h.fn) h1, ?_, ?_⟩
    · show (assignEach es X.env).length + 1 = _
      rw [h2]; rfl
    · show List.findIdx? (·.1) ((false, _) :: assignEach es X.env) = none
      rw [List.findIdx?_cons, h3]; rfl
/-- the sets, one behind another -/
def setVs : List Nat → List V → L2.St → L2.St
  | i :: is, w :: ws, σ => setVs is ws (σ.set i (some w))
  | _, _, σ => σ
def setDs : List Nat → List D → S → S
  | i :: is, d :: ds, s => setDs is ds (s.set i (.dat d))
  | _, _, s => s
theorem gNames_of : ∀ {is : List Nat} {ws : List V} {σ : L2.St} {H : Hp} {Q : L2.St → Hp → Prop}, ws.length = is.length → Q (setVs is ws σ) H → gNames is ws σ H Q
  | [], [], _, _, _, _, q => ⟨rfl, q⟩
  | [], _ :: _, _, _, _, h, _ => by simp at h
  | _ :: _, [], _, _, _, h, _ => by simp at h
  | i :: is, w :: ws, σ, H, Q, h, q => ⟨w, ws, rfl, gNames_of (is := is) (ws := ws) (by simpa using h) q⟩
theorem setDs_foldl : ∀ (is : List Nat) (ds : List D) (s : S), (is.zip ds).foldl (fun s p => s.set p.1 (.dat p.2)) s = setDs is ds s
  | [], _, _ => rfl
  | _ :: _, [], _ => rfl
  | i :: is, d :: ds, s => setDs_foldl is ds (s.set i (.dat d))
/-- what a target's set does -/
structure SetOk (G : Gl0) (tg : List Nat) (s : S) (σ : L2.St) (F H : Hp) (s1 : S) (σ1 : L2.St) : Prop where
  rel : Rel G.K G.T s1 σ1 F H
  go : (∀ i ∈ tg, ∀ e, s[i]? ≠ some (.mu true e)) → ∀ s0 σ0 F0 H0, Go G.T s0 σ0 F0 H0 s σ F H → Go G.T s0 σ0 F0 H0 s1 σ1 F H
  out : ∀ j, j ∉ tg → σ1[j]? = σ[j]?
  len : σ1.length = σ.length
theorem setOk_one {d : D} {v : V} {i : Nat} (q : Rel G.K G.T s σ F H) (h : Rp G.K F v d) : SetOk G [i] s σ F H (s.set i (.dat d)) (σ.set i (some v)) :=
  ⟨q.setV (v := .dat d) h i, fun hb s0 σ0 F0 H0 g => g.setV (v := .dat d) trivial (hb i (List.mem_singleton.mpr rfl)), fun j hj => List.getElem?_set_ne fun z => hj (by rw [← z]; exact List.mem_singleton.mpr rfl), by simp⟩
theorem setOk_all : ∀ {is : List Nat} {ds : List D} {vs : List V} {s : S} {σ : L2.St}, Rel G.K G.T s σ F H → RpAll G.K F vs ds → SetOk G is s σ F H (setDs is ds s) (setVs is vs σ)
  | [], ds, vs, s, σ, q, h => ⟨q, fun _ _ _ _ _ g => g, fun _ _ => rfl, rfl⟩
  | i :: is, _, _, s, σ, q, .nil => ⟨q, fun _ _ _ _ _ g => g, fun _ _ => rfl, rfl⟩
  | i :: is, _, _, s, σ, q, .cons (v := v) (d := d) (vs := vs) (ds := ds) h t => by
    have a := setOk_one (G := G) (i := i) q h
    have b := setOk_all (is := is) a.rel t
    refine ⟨b.rel, fun hb s0 σ0 F0 H0 g => b.go (fun j hj e z => ?_) _ _ _ _ (a.go (fun j hj => by rw [List.mem_singleton.mp hj]; exact hb i List.mem_cons_self) _ _ _ _ g), fun j hj => ?_, by
      show (setVs is vs (σ.set i (some v))).length = _
      rw [b.len, a.len]⟩
    · rcases get_set z with ⟨_, z⟩ | ⟨_, z⟩
      · cases z
      · exact hb j (List.mem_cons_of_mem _ hj) e z
    · show (setVs is vs (σ.set i (some v)))[j]? = _
      rw [b.out j fun z => hj (List.mem_cons_of_mem _ z), a.out j fun z => hj (by rw [List.mem_singleton.mp z]; exact List.mem_cons_self)]
/-- a target -/
def HGl (G : Gl0) (tg : List Nat) (one : Bool) (g : TG) : Prop := ∀ d s s1 v σ F H (Q : L2.St → Hp → Prop), Rel G.K G.T s σ F H → Rp G.K F v d → bind tg one d s = some s1 → (∀ σ1, SetOk G tg s σ F H s1 σ1 → Q σ1 H) → g v σ H Q
def HG (G : Gl0) (X : Cx) (tg : List Nat) (one : Bool) (tgE : Expr) (g : TG) : Prop := PG X tgE g ∧ HGl G tg one g
theorem hg_one (hN : X.N.Nodup) {i : Nat} {x : Str} (h : TgOk X i x) : HG G X [i] true (.Name x p) (gName i) :=
  ⟨pg_name hN h.at_ h.loc h.fn, fun d s s1 v σ F H Q q hp e k => by
    have e : some (s.set i (.dat d)) = some s1 := e
    cases e
    exact k _ (setOk_one q hp)⟩
theorem hg_tup (hN : X.N.Nodup) (hc : X.calm = true) (hK : X.K = G.K) {is : List Nat} {es : List Expr} {kk : Nat} (h : TgsOk X is es) : HG G X is false (.Tuple es kk p) (gTup X.K is.length (gNames is)) := by
  obtain ⟨h1, h2, h3⟩ := pgs_names hN h
  refine ⟨pg_tup hc h1 h2 h3, fun d s s1 v σ F H Q q hp e k => ?_⟩
  unfold bind at e
  dsimp only at e
  split at e
  · rename_i xs
    split at e
    · rename_i hl
      cases e
      cases hp with
      | tup ht hr =>
        rename_i a vs
        rw [setDs_foldl] at k
        refine ⟨a, vs, rfl, by rw [hK]; exact .inl (.inl (q.sub _ _ ht)), by rw [hr.length, hl], gNames_of (by rw [hr.length, hl]) (k _ (setOk_all q hr))⟩
    · cases e
  · cases e
end
end Fs
set_option Elab.async false
set_option linter.all false
set_option maxRecDepth 100000
set_option maxHeartbeats 2000000
namespace Fs
open PySem PySem.Spec PyProof.Rows L2

/-! ### list comprehensions -/
section
variable {K : PySem.W.Frag} {T : List Tb} {s s' s0 : S} {σ σ' σ0 : L2.St} {F H F' H' F0 H0 : Hp}
theorem lwipe_at : ∀ (I : List Nat) (σ : L2.St) (j : Nat), (L2.wipe σ I)[j]? = if j ∈ I then σ[j]?.map (fun _ => none) else σ[j]?
  | [], σ, j => by simp [L2.wipe]
  | i :: I, σ, j => by
    have ih := lwipe_at I σ j
    have e : L2.wipe σ (i :: I) = (L2.wipe σ I).set i none := rfl
    rw [e]
    by_cases hj : i = j
    · subst hj
      rw [List.getElem?_set_self', ih, if_pos List.mem_cons_self]
      split
      · cases σ[i]? <;> rfl
      · cases σ[i]? <;> rfl
    · rw [List.getElem?_set_ne hj, ih]
      by_cases hI : j ∈ I
      · rw [if_pos hI, if_pos (List.mem_cons_of_mem _ hI)]
      · rw [if_neg hI, if_neg (by simp [Ne.symm hj, hI])]
theorem lwipe_eq {I : List Nat} (hl : σ'.length = σ.length) (h : ∀ j, j ∉ I → σ'[j]? = σ[j]?) : L2.wipe σ' I = L2.wipe σ I := by
  apply List.ext_getElem?
  intro j
  rw [lwipe_at, lwipe_at]
  split
  · by_cases hj : j < σ.length
    · rw [List.getElem?_eq_getElem hj, List.getElem?_eq_getElem (by omega)]; rfl
    · rw [List.getElem?_eq_none (by omega), List.getElem?_eq_none (by omega)]
  · rename_i hI; exact h j hI
theorem Go.rewipe {B : S} {σB : L2.St} {I : List Nat} (g : Go T B σB F0 H0 s σ F H) (hB : ∀ j ∈ I, ∀ d, B[j]? ≠ some (.mu true d)) (hσ : ∀ j, j ∉ I → σ[j]? = σB[j]?) : Go T B σB F0 H0 (wipe I s) σB F H where
  ext := g.ext
  new := g.new
  keep := g.keep
  alive := g.alive
  own := fun a ⟨j, b, d, e1, e2⟩ => by
    obtain ⟨h1, h2⟩ := wipe_slot e1 (by intro z; cases z)
    exact g.own a ⟨j, b, d, h2, by rw [hσ j h1]; exact e2⟩
  bor := fun j d e => by
    have hj : j ∉ I := fun z => hB j z d e
    obtain ⟨⟨d', e'⟩, _⟩ := g.bor j d e
    exact ⟨⟨d', by rw [wipe_at, if_neg hj]; exact e'⟩, rfl⟩
/-- an object that nobody holds is written -/
theorem Rel.updD (r : Rel K T s σ F H) {D : Addr} {vs : List V} {o : L2.HO} (hD : H D = some (.lst vs)) (hF : F D = none) (ho : ¬ own s σ D) (ht : ¬ inT T D) : Rel K T s σ F (upd H D o) where
  len := r.len
  dat := r.dat
  mu := fun i b d e => by
    obtain ⟨l, e1, e2, e3, e4⟩ := r.mu i b d e
    have hl : l ≠ D := fun z => ho ⟨i, b, d, e, by rw [← z]; exact e1⟩
    exact ⟨l, e1, e2, e3, e4.mono (Sub.refl F) fun u q => by rw [upd_ne hl]; exact q⟩
  scr := r.scr
  apart := r.apart
  sub := fun a u e => by
    have ha : a ≠ D := fun z => by rw [z, hF] at e; cases e
    rw [upd_ne ha]; exact r.sub a u e
  tab := fun p hp => by
    obtain ⟨h1, h2⟩ := r.tab p hp
    exact ⟨h1, h2.upd (.inr ⟨_, hD⟩)⟩
theorem Go.updD (g : Go T s0 σ0 F0 H0 s σ F H) {D : Addr} {o : L2.HO} (hD : H0 D = none) : Go T s0 σ0 F0 H0 s σ F (upd H D o) where
  ext := g.ext
  new := g.new
  keep := fun a u h n t => by
    have ha : a ≠ D := fun z => by rw [z, hD] at h; cases h
    rw [upd_ne ha]; exact g.keep a u h n t
  alive := fun a h => by
    by_cases ha : a = D
    · rw [ha, upd_same]; simp
    · rw [upd_ne ha]; exact g.alive a h
  own := g.own
  bor := g.bor
end
section
variable {G : Gl0} {EX : XK} {X : Cx} {pos : Pos}
abbrev EX0 : XK := fun _ _ _ => False
/-- for every block -/
def AllB (X : Cx) (scope : Scope) (Pr : Cx → Prop) : Prop := ∀ (s : Shared) (H : Hp) (C : Addr) (cl : List (Str × Addr)) (fp : List Addr), Pr (X.blk s H scope (compEnvC scope cl C X.env) fp)
def uE (X : Cx) (scope : Scope) (x : Expr) : TE := fun σ H Q => AllB X scope fun Y => SE Y x σ H Q
def HTs (G : Gl0) (EX : XK) (X : Cx) (c : S → R Bool) (ifs : List Expr) : Prop := match ifs with
  | [] => c = fun s => .ok true s
  | [x] => HT G EX X c x
  | _ => False
def STs (X : Cx) (ifs : List Expr) : TT := match ifs with
  | [] => tYes
  | [x] => ST X x
  | _ => fun _ _ _ => False
theorem pts_STs {ifs : List Expr} (h : ifs.length ≤ 1) : PTs X ifs (STs X ifs) := by
  match ifs, h with
  | [], _ => exact pts_nil
  | [x], _ => exact pts_one pt_ST
def uT (X : Cx) (scope : Scope) (ifs : List Expr) : TT := fun σ H Q => AllB X scope fun Y => STs Y ifs σ H Q
theorem HTs.run {c : S → R Bool} {ifs : List Expr} (h : HTs G EX X c ifs) {s : S} {σ : L2.St} {F H : Hp} {Q : Bool → Hp → Prop} (q : Rel G.K G.T s σ F H) (p : PR G EX s σ F H (c s) fun b _ _ H' => Q b H') : STs X ifs σ H Q := by
  match ifs, h with
  | [], h =>
    have h : c = fun s => R.ok true s := h
    subst h
    exact p.here q
  | [x], h => exact h s σ F H Q q p
theorem own_wipe {s : S} {σ σB : L2.St} {I : List Nat} {l : Addr} (hσ : ∀ j, j ∉ I → σ[j]? = σB[j]?) (h : Fs.own (wipe I s) σB l) (n : ¬ Fs.own s σ l) : False := by
  obtain ⟨j, b, d, e1, e2⟩ := h
  obtain ⟨h1, h2⟩ := wipe_slot e1 (by intro z; cases z)
  exact n ⟨j, b, d, h2, by rw [hσ j h1]; exact e2⟩
theorem take_drop_step {α : Type} {xs : List α} {i : Nat} {d : α} (h : xs[i]? = some d) : xs.drop i = d :: xs.drop (i + 1) := by
  obtain ⟨hi, e⟩ := List.getElem?_eq_some_iff.mp h
  rw [List.drop_eq_getElem_cons hi, e]
theorem hr_comp {r : S → R (List D × Option Nat)} {c : S → R Bool} {e : S → R Vl} {tg : List Nat} {one : Bool} {own : List Nat} {ownN : List (Str × Nat)} {elt tgE iter : Expr} {ifs : List Expr} {scope : Scope} {g : TG}
    (hc : X.calm = true) (hN : X.N.Nodup) (hi : HI G EX X r tgE iter) (ok : BlkOk X.N X.env.scope scope ownN) (ho : ownN.map (·.2) = own) (htg : ∀ i ∈ tg, i ∈ own)
    (hg : HGl G tg one g) (ht : AllB X scope fun Y => HTs G EX0 Y c ifs) (hl : ifs.length ≤ 1) (he : AllB X scope fun Y => HR G EX0 Y e elt) (hs : ∀ x, foldedSetIterable iter X.env x = pure x) :
    (∀ {σ : L2.St} {H : Hp} {Q : VK}, (∀ s F, Rel G.K G.T s σ F H → PR G EX s σ F H ((r s).bind fun xs s => compR tg one c (fun s => (e s).bind fun v s => .ok v.d s) own xs s) (KV G s σ H Q) → tLc (SI X tgE iter) g (uT X scope ifs) (uE X scope elt) (ownN.map (·.2)) σ H Q)) := by
  intro σ H Q s F q p
  subst ho
  refine hi s σ F H _ q (p.bindB.imp fun xs s1 _ H1 _ _ k1 J F1 Gd g1 r1 it st L hD => ?_)
  unfold compR at k1
  split at k1
  case isFalse => exact k1.elim
  rename_i hlim
  generalize hown : ownN.map (·.2) = own at *
  split at k1
  case h_2 => exact k1.elim
  rename_i dsF sF hcomp
  generalize hI : own ++ shutI xs.2 = I at *
  have ownI : ∀ j, j ∈ own → j ∈ I := fun j hj => by rw [← hI]; exact List.mem_append_left _ hj
  have hσB : ∀ j, j ∉ own → (L2.wipe σ own)[j]? = σ[j]? := fun j hj => by rw [lwipe_at, if_neg hj]
  generalize hσBe : L2.wipe σ own = σB at *
  have hlB : σB.length = σ.length := by rw [← hσBe, L2.wipe_length]
  have rB : Rel G.K G.T (wipe I s1) σB F1 H1 := r1.wipeB I (fun j hj => hσB j fun z => hj (ownI j z)) hlB
  have nmB : ∀ j ∈ own, ∀ d, (wipe I s1)[j]? ≠ some (.mu true d) := fun j hj d z => (wipe_slot z (by intro y; cases y)).1 (ownI j hj)
  have ownS : ∀ l, Fs.own (wipe I s1) σB l → Fs.own (wipe (shutI xs.2) s1) σ l := fun l ⟨j, b, d, e1, e2⟩ => by
    obtain ⟨h1, h2⟩ := wipe_slot e1 (by intro z; cases z)
    refine ⟨j, b, d, ?_, by rw [← hσB j fun z => h1 (ownI j z)]; exact e2⟩
    rw [wipe_at, if_neg (fun z => h1 (by rw [← hI]; exact List.mem_append_right _ z))]; exact h2
  have gdOf : ∀ {s3 : S} {σ3 : L2.St} {F3 H3 : Hp}, Go G.T (wipe I s1) σB F1 H1 s3 σ3 F3 H3 → Rel G.K G.T s3 σ3 F3 H3 → Gd H3 := fun {s3 σ3 F3 H3} g r => st F3 H3 g.ext r.sub fun a o h n t => g.keep a o h (fun z => n (ownS a z)) t
  have inTD : ¬ inT G.T L := r1.notab hD
  -- the invariant
  let Pv : Nat → Hp → Prop := fun i H => ∃ (si : S) (F2 : Hp) (acc : List D) (vs : List V) (rest : List D), Go G.T (wipe I s1) σB F1 H1 (wipe own si) σB F2 H ∧ Rel G.K G.T (wipe own si) σB F2 H ∧ H L = some (.lst vs) ∧ F2 L = none ∧ ¬ Fs.own (wipe own si) σB L ∧
    RpAll G.K F2 vs acc ∧ compL tg one c (fun s => (e s).bind fun v s => .ok v.d s) own (xs.1.drop i) si = .ok rest sF ∧ acc ++ rest = dsF ∧ acc.length ≤ i
  have h0 : Pv 0 (upd H1 L (.lst [])) := by
    have r2 := rB.new (o := .lst []) hD
    have e1 : wipe own (wipe I s1) = wipe I s1 := by
      apply List.ext_getElem?
      intro j
      rw [wipe_at]
      split
      · rename_i hj
        rw [wipe_at, if_pos (ownI j hj)]
        cases s1[j]? <;> rfl
      · rfl
    refine ⟨wipe I s1, F1, [], [], dsF, ?_, ?_, upd_same, r1.fresh hD, ?_, .nil, by rw [List.drop_zero]; exact hcomp, rfl, Nat.le_refl _⟩
    · rw [e1]; exact Go.alloc hD
    · rw [e1]; exact r2
    · rw [e1]; exact rB.noown hD
  refine ⟨fun i m H => m = xs.1.length - i ∧ i ≤ xs.1.length ∧ Pv i H, ⟨xs.1.length, by simp, Nat.zero_le _, h0⟩, ?_⟩
  rintro i m H2 ⟨rfl, hile, si, F2, acc, vs, rest, gi, ri, hDi, hFi, hoi, hai, hci, hres, hal⟩
  by_cases hlt : i < xs.1.length
  · refine .inr ⟨it.goes i H2 hlt (gdOf gi ri), fun H => Pv (i + 1) H, fun H' p' => ⟨xs.1.length - (i + 1), by omega, rfl, hlt, p'⟩, fun x H3 y => ?_⟩
    obtain ⟨F3, d, g3, r3, ed, hx⟩ := it.yields i H2 x H3 (wipe own si) σB F2 gi.ext ri hlt (gdOf gi ri) y
    have stepD : ∀ {sa : S} {σa : L2.St} {Fa Ha : Hp} {sb : S} {σb : L2.St} {Fb Hb : Hp}, Go G.T sa σa Fa Ha sb σb Fb Hb → Ha L = some (.lst vs) → Fa L = none → ¬ Fs.own sa σa L → Hb L = some (.lst vs) ∧ Fb L = none ∧ ¬ Fs.own sb σb L := fun {sa σa Fa Ha sb σb Fb Hb} g h1 h2 h3 => by
      refine ⟨g.keep L _ h1 h3 inTD, ?_, fun z => ?_⟩
      · cases z : Fb L with
        | none => rfl
        | some o =>
          rcases g.new L (by rw [z]; simp) with h | h | h | h
          · exact absurd h2 h
          · rw [h1] at h; cases h
          · exact absurd h h3
          · obtain ⟨⟨_, h⟩, _⟩ := h; rw [h1] at h; cases h
      · rcases g.own L z with h | h
        · exact h3 h
        · rw [h1] at h; cases h
    obtain ⟨hD3, hF3, ho3⟩ := stepD g3 hDi hFi hoi
    rw [take_drop_step ed] at hci
    unfold compL at hci
    split at hci
    · cases hci
    rename_i s2 hb
    refine hg d (wipe own si) s2 x σB F3 H3 _ r3 hx hb fun σ2 so => ?_
    have g2 : Go G.T (wipe own si) σB F3 H3 s2 σ2 F3 H3 := so.go (fun j hj d z => (wipe_slot z (by intro y; cases y)).1 (htg j hj)) _ _ _ _ Go.refl
    have outσ : ∀ j, j ∉ own → σ2[j]? = σB[j]? := fun j hj => so.out j fun z => hj (htg j z)
    have gB2 := (gi.trans g3).trans g2
    obtain ⟨hD4, hF4, ho4⟩ := stepD g2 hD3 hF3 ho3
    refine ⟨?_, ?_⟩
    · exact (lwipe_eq (σ := σ) (by rw [so.len, hlB]) fun j hj => by rw [outσ j hj, hσB j hj]).trans hσBe
    -- the test
    intro sh Hh C cl fp
    split at hci
    · -- it holds
      rename_i s3 hcs
      refine (ht sh Hh C cl fp).run so.rel ?_
      rw [hcs]
      intro F5 H5 g5 r5
      rw [if_pos rfl]
      obtain ⟨hD5, hF5, ho5⟩ := stepD g5 hD4 hF4 ho4
      split at hci
      · rename_i d6 s6 hes
        intro sh Hh C cl fp
        refine he sh Hh C cl fp s3 σ2 F5 H5 _ r5 ?_
        cases hev : e s3 with
        | ok v s7 =>
          rw [hev] at hes
          cases hes
          intro F7 H7 g7 r7 w hw hn
          obtain ⟨hD7, hF7, ho7⟩ := stepD g7 hD5 hF5 ho5
          obtain ⟨F8, g8, r8, hp, hsub⟩ := settle g7 r7 hw hn
          have hF8 : F8 L = none := by
            obtain ⟨_, z, _⟩ := stepD g8 hD5 hF5 ho5
            exact z
          split at hci
          · rename_i dsr sr hrest
            cases hci
            refine ⟨vs, hD7, by rw [hai.length]; have := lim_eq; omega, s6, F8, acc ++ [v.d], vs ++ [w], dsr, ?_, ?_, upd_same, hF8, ?_, ?_, hrest, ?_, ?_⟩
            · exact ((((gB2.trans g5).trans g8).rewipe nmB outσ).updD hD)
            · refine (r8.wipeB own (fun j hj => (outσ j hj).symm) (by rw [so.len])).updD hD7 hF8 (fun z => ?_) inTD
              exact own_wipe outσ z ho7
            · exact fun z => own_wipe outσ z ho7
            · exact ((hai.mono (((g3.trans g2).trans g5).trans g8).ext)).append (.cons hp .nil)
            · rw [List.append_assoc]; exact hres
            · rw [List.length_append]; simp; omega
          · cases hci
        | exc nm s7 => rw [hev] at hes; cases hes
        | stuck => rw [hev] at hes; cases hes
      · cases hci
    · -- it does not
      rename_i s3 hcs
      refine (ht sh Hh C cl fp).run so.rel ?_
      rw [hcs]
      intro F5 H5 g5 r5
      rw [if_neg Bool.false_ne_true]
      obtain ⟨hD5, hF5, ho5⟩ := stepD g5 hD4 hF4 ho4
      refine ⟨s3, F5, acc, vs, rest, (gB2.trans g5).rewipe nmB outσ, r5.wipeB own (fun j hj => (outσ j hj).symm) (by rw [so.len]), hD5, hF5, fun z => own_wipe outσ z ho5, hai.mono ((g3.trans g2).trans g5).ext, hci, hres, by omega⟩
    · cases hci
  · have e1 : i = xs.1.length := by omega
    subst e1
    refine .inl ⟨it.stops H2 (gdOf gi ri), ?_⟩
    rw [List.drop_length] at hci
    unfold compL at hci
    cases hci
    rw [List.append_nil] at hres
    subst hres
    obtain ⟨gR, rR⟩ := restore (I := I) r1 gi ri (fun j hj => hσB j fun z => hj (ownI j z)) hlB
    have eU : unwipe I s1 (wipe own sF) = unwipe I s1 sF := by
      apply List.ext_getElem?
      intro j
      rw [unwipe_at, unwipe_at]
      split
      · rw [wipe_at]
        split
        · cases sF[j]? <;> rfl
        · rfl
      · rename_i hj
        rw [wipe_at, if_neg fun z => hj (ownI j z)]
    rw [eU] at gR rR
    have hnoL : ¬ Fs.own (unwipe I s1 sF) σ L := fun ⟨j, b, d, e1, e2⟩ => by
      by_cases hj : j ∈ I
      · rw [unwipe_at, if_pos hj] at e1
        cases z : sF[j]? with
        | none => rw [z] at e1; cases e1
        | some y =>
          rw [z] at e1
          have e1 : s1.getD j .un = .mu b d := Option.some.inj e1
          cases z2 : s1[j]? with
          | none => rw [List.getD_eq_getElem?_getD, z2] at e1; cases e1
          | some y2 =>
            rw [List.getD_eq_getElem?_getD, z2] at e1
            have e1 : y2 = .mu b d := e1
            subst e1
            obtain ⟨l, h1, h2, h3, h4⟩ := r1.mu j b d z2
            rw [e2] at h1; cases h1
            exact h4.there hD
      · rw [unwipe_at, if_neg hj] at e1
        refine hoi ⟨j, b, d, ?_, by rw [hσB j fun z => hj (ownI j z)]; exact e2⟩
        rw [wipe_at, if_neg fun z => hj (ownI j z)]; exact e1
    have hH : H L = none := by
      cases z : H L with
      | none => rfl
      | some o => exact absurd hD (g1.alive L (by rw [z]; simp))
    exact (k1.ok (g1.trans gR) rR) (.ref L) ⟨L, rfl, hFi, inTD, hnoL, vs, hDi, hai⟩ fun l z => by cases z; exact .inl hH
theorem pts_uT {ifs : List Expr} {scope : Scope} (hl : ifs.length ≤ 1) : AllB X scope fun Y => PTs Y ifs (uT X scope ifs) := fun s0 H0 C cl fp => ⟨fun pins s σ H Q I h => (pts_STs hl).run pins s σ H Q I (h s0 H0 C cl fp)⟩
theorem pe_uE {x : Expr} {scope : Scope} : AllB X scope fun Y => PE Y x (uE X scope x) := fun s0 H0 C cl fp => ⟨fun pins s σ H Q I h => h s0 H0 C cl fp pins s I⟩
theorem hr_lc {r : S → R (List D × Option Nat)} {c : S → R Bool} {e : S → R Vl} {tg : List Nat} {one : Bool} {own : List Nat} {ownN : List (Str × Nat)} {elt tgE iter : Expr} {ifs : List Expr} {scope : Scope} {g : TG}
    (hc : X.calm = true) (hN : X.N.Nodup) (hi : HI G EX X r tgE iter) (ok : BlkOk X.N X.env.scope scope ownN) (ho : ownN.map (·.2) = own) (htg : ∀ i ∈ tg, i ∈ own)
    (hg : HGl G tg one g) (hpg : AllB X scope fun Y => PG Y tgE g) (ht : AllB X scope fun Y => HTs G EX0 Y c ifs) (hl : ifs.length ≤ 1) (he : AllB X scope fun Y => HR G EX0 Y e elt) (hs : ∀ x, foldedSetIterable iter X.env x = pure x) :
    HR G EX X (fun s => (r s).bind fun xs s => compR tg one c (fun s => (e s).bind fun v s => .ok v.d s) own xs s) (.ListComp elt [⟨tgE, iter, ifs, 0⟩] scope pos) := by
  intro s σ F H Q q p
  exact SE.of (pe_lc hc hN pi_SI ok hpg (pts_uT hl) pe_uE hs) (hr_comp hc hN hi ok ho htg hg ht hl he hs s F q p)
end
end Fs
set_option Elab.async false
set_option linter.all false
set_option maxRecDepth 100000
set_option maxHeartbeats 2000000
namespace Fs
open PySem PySem.Spec PyProof.Rows L2

/-! ### a generator expression's frame -/
/-- its names: the walked thing, the target, captured ones, globals -/
structure GnS (N : List Str) (sc scope : Scope) (x : Str) : Prop where
  kind : scope.kind = .function
  co : scope.isCoroutine = false
  cell : ∀ y ∈ scope.names, y.2 ≠ .cell
  dot : scope.names.lookup (".0" : Str) = some NameKind.local
  loc : scope.names.lookup x = some .local
  own : ∀ y ∈ scope.names, y.2 = .local → y.1 = x ∨ y.1 ∉ N
  free : ∀ y ∈ scope.names, y.2 = .free → sc.names.lookup y.1 = some .cell ∨ sc.names.lookup y.1 = some .free
abbrev gcx (X : Cx) (s : Shared) (H : Hp) (cenv : Env) (fp : List Addr) (B : Around) (pn : List (Addr × Obj)) : Cx :=
  { X with s_0 := s, H_0 := H, env := cenv, outer := X.stack, stack := cenv :: X.stack, ex := fp, fn := fun _ => false, calm := true, pn := pn, A := B.deeper cenv, xe := fun _ _ => False }
abbrev gEnv (X : Cx) (scope : Scope) (C : Addr) (code : Value) : Env := genEnv scope (cloFrom X.env.cells scope.names []) C code builtinsNs X.env
section
variable {X : Cx} {pins : List (Addr × Obj)} {σ : L2.St} {H : Hp} {s : Shared}
theorem GnS.has {scope : Scope} {x : Str} (L : GnS X.N X.env.scope scope x) (ok : X.Ok) : ∀ y ∈ scope.names, y.2 = .free → ∃ c, X.env.cells.lookup y.1 = some c := fun y hy e => by
  rcases L.free y hy e with k | k
  · exact ok.has _ (.inl k)
  · exact ok.has _ (.inr k)
theorem gen_start {scope : Scope} {x : Str} {i : Nat} {code : Value} {it : Value} {fp : List Addr} {B : Around} {h' : Heap} {g' : Array GenState} {tk : Nat} {pn : List (Addr × Obj)} (I : Inv X pins σ H s) (L : GnS X.N X.env.scope scope x) (hN : X.N.Nodup) (hx : X.N[i]? = some x)
    (hfr : B.frames = some X.stack) (hhd : B.handled = none) (hfp : ∀ b ∈ fp, FpOk X pins H b ∧ b < s.heap.objs.size)
    (hns : h'.Ns s.heap.objs.size fun y => if y = (".0" : Str) then some it else none) (kp : ∀ b o, s.heap.get? b = some o → h'.get? b = some o) (hg : AllBare g')
    (hpn : ∀ p ∈ pn, h'.get? p.1 = some p.2 ∧ s.heap.objs.size < p.1 ∧ ∀ v, p.2.data ≠ .cell v) :
    Inv (gcx X s H (gEnv X scope s.heap.objs.size code) fp B pn) [] (σ.set i none) H { s with heap := h', gens := g', toks := tk } := by
  have hfree := L.has I.ok
  have cm : ∀ {y c}, (cloFrom X.env.cells scope.names []).lookup y = some c → X.env.cells.lookup y = some c := fun {y c} e => by
    rcases cloFrom_mem (PySem.mem_of_lookup e) with hm | ⟨h1, h2⟩
    · cases hm
    · obtain ⟨c1, hc⟩ := hfree _ h1 rfl
      have hc : X.env.cells.lookup y = some c1 := hc
      have e2 : c = c1 := by
        rw [h2, hc] <;> rfl
      rw [e2]
      exact hc
  have look : ∀ {y}, scope.names.lookup y = some .free → ∃ c, (cloFrom X.env.cells scope.names []).lookup y = some c := fun {y} hl => by
    have hy : (y, NameKind.free) ∈ scope.names := PySem.mem_of_lookup hl
    exact mem_lookup (cloFrom_has (cells := X.env.cells) (acc := []) hy)
  have clt : ∀ {y c}, X.env.cells.lookup y = some c → c < s.heap.objs.size := fun {y c} e => by
    obtain ⟨v, z⟩ := I.cell y c e
    exact z.lt
  refine ⟨⟨I.ok.mod, L.kind, I.ok.glob, rfl, Nat.le_refl _, fun y z c e1 e2 => I.ok.inj y z c (cm e1) (cm e2), fun y hy => ?_, fun y c z _ => ?_, fun _ => hhd, Around.frames_deeper hfr, .inr ⟨rfl, rfl⟩, fun b hb => ⟨?_, fun y c e z => ?_⟩, I.bs, Nat.le_trans I.ok.bsz I.sz, fun b o e hb => ?_,
      fun b hb z => ?_, I.stack, I.stkFree⟩,
    rfl, hg, Un.kept kp, ⟨_, hns, fun j y v e1 e2 e3 => ?_⟩, fun y c e => ?_, I.hok.fresh (Nat.le_refl _), fun y c e => ?_, fun q hq => ?_, I.hok.kept kp, by rw [List.length_set]; exact I.len⟩
  · have hy : scope.names.lookup y = some .cell ∨ scope.names.lookup y = some .free := hy
    rcases hy with hy | hy
    · exact absurd rfl (L.cell _ (PySem.mem_of_lookup hy))
    · exact look hy
  · have z : false = true := z
    cases z
  · exact Nat.ne_of_lt (hfp b hb).2
  · have e : (cloFrom X.env.cells scope.names []).lookup y = some c := e
    exact (hfp b hb).1.2.2.2.2.1 y c (cm e) z
  · rcases (hfp b hb).1.2.2.2.1 with z | z
    · exact I.ok.noex b o e z
    · exact absurd (Nat.lt_of_lt_of_le (Heap.lt_size e) (Nat.le_trans I.ok.bsz z)) (Nat.lt_irrefl _)
  · rcases List.mem_cons.mp (I.stkSub b z) with z | z
    · exact (hfp b hb).1.2.1 z
    · exact (hfp b hb).1.2.2.1 z
  · have e3 : Vis scope y := e3
    have key : scope.names.lookup y = some .free := by
      rcases e3 with k | k | k
      · rcases L.own _ (PySem.mem_of_lookup k) rfl with z | z
        · have z : y = x := z
          subst z
          have : j = i := nodup_ix hN e1 hx
          subst this
          by_cases hj : j < σ.length
          · rw [List.getElem?_set_self hj] at e2; cases e2
          · rw [List.getElem?_eq_none (by simpa using hj)] at e2; cases e2
        · exact absurd (List.mem_of_getElem? e1) z
      · exact absurd rfl (L.cell _ (PySem.mem_of_lookup k))
      · exact k
    have hji : j ≠ i := fun z => by
      subst z
      rw [hx] at e1; cases e1
      rw [L.loc] at key; cases key
    rw [List.getElem?_set_ne (fun z => hji z.symm)] at e2
    obtain ⟨m, hn, hl⟩ := I.loc
    have hvis : Vis X.env.scope y := (L.free _ (PySem.mem_of_lookup key) rfl).elim (fun k => .inr (.inl k)) (fun k => .inr (.inr k))
    obtain ⟨w', r, q⟩ := hl j y v e1 e2 hvis
    obtain ⟨c2, h2⟩ := look key
    refine ⟨w', r, .inr ⟨.inr key, c2, h2, ?_⟩⟩
    have c1 := cm h2
    rcases q with ⟨k', _⟩ | ⟨_, c3, e', z⟩
    · have k' : X.env.scope.names.lookup y = some .local := k'
      rcases L.free _ (PySem.mem_of_lookup key) rfl with k2 | k2 <;> rw [show X.env.scope.names.lookup y = _ from k2] at k' <;> cases k'
    · rw [c1] at e'
      cases e'
      exact z.keeps kp
  · obtain ⟨w', z⟩ := I.cell y c (cm e)
    exact ⟨w', z.keeps kp⟩
  · exact I.freeC y c (cm e)
  · have hq : q ∈ pn ++ [] := hq
    rw [List.append_nil] at hq
    obtain ⟨h1, h2, h3⟩ := hpn q hq
    refine ⟨h1, I.hok.fresh (Nat.le_of_lt h2), Nat.ne_of_gt h2, fun z => ?_, h3⟩
    rcases List.mem_cons.mp (I.stkSub q.1 z) with z | z
    · rw [z] at h2; exact Nat.lt_irrefl _ (Nat.lt_trans h2 I.lt)
    · exact I.nofs (Nat.le_of_lt h2) z
/-- back in the def's context -/
theorem gen_back {scope : Scope} {code : Value} {fp : List Addr} {B : Around} {pn pins' : List (Addr × Obj)} {σ' : L2.St} {H' : Hp} {s' : Shared} (I : Inv X pins σ H s) (hfp : ∀ b ∈ fp, FpOk X pins H b)
    (J : Inv (gcx X s H (gEnv X scope s.heap.objs.size code) fp B pn) pins' σ' H' s') : Inv X pins σ H' s' :=
  I.call' (ch := fp) J.os J.base J.hok J.bare fun b hb => ⟨(hfp b hb).2.2.2.1, (hfp b hb).2.1, (hfp b hb).2.2.2.2.1, (hfp b hb).2.2.2.2.2⟩
end
theorem over_gen {A : Around} {e : Expr} {gs : List Comprehension} {scope : Scope} {p : Pos} {it acc : Value} {env : Env} : A.over (.compLoop (.GeneratorExp e gs scope p) 0 it acc env) [] = A.deeper env := by
  first
    | rfl
    | (obtain ⟨hd, d, fr, gs, u⟩ := A; simp [Around.over, Around.deeper, marksOver, frameCount, unitsOf, envsOf, guardsOf, pushEnvs, pushGuards, Code.envs, Code.env?, Code.isFrame, Code.guards, Code.isGuard, Code.weight, Code.frames, Code.isCreation, Code.isCaller, Code.cUnits])
theorem over_gen0 {A : Around} {e : Expr} {gs : List Comprehension} {scope : Scope} {p : Pos} {it acc : Value} {env : Env} : A.over (.compStart (.GeneratorExp e gs scope p) 0 it acc env) [] = A.deeper env := by
  first
    | rfl
    | (obtain ⟨hd, d, fr, gs, u⟩ := A; simp [Around.over, Around.deeper, marksOver, frameCount, unitsOf, envsOf, guardsOf, pushEnvs, pushGuards, Code.envs, Code.env?, Code.isFrame, Code.guards, Code.isGuard, Code.weight, Code.frames, Code.isCreation, Code.isCaller, Code.cUnits])
end Fs
set_option Elab.async false
set_option linter.all false
set_option maxRecDepth 100000
set_option maxHeartbeats 2000000
namespace Fs
open PySem PySem.Spec PyProof.Rows L2

/-! ### a generator expression's turns -/
section
variable {G : Gl0} {X : Cx} {pins : List (Addr × Obj)} {σ : L2.St} {s4 : Shared}
/-- all that stays through the turns -/
structure GPar where
  s4 : Shared
  H4 : Hp
  cenv : Env
  fp : List Addr
  Bd : Around
  pn : List (Addr × Obj)
  i : Nat
  σB : L2.St
  B0 : S
  F1 : Hp
  ds : List D
  al : Bool
  bF : Bool
  sF : S
abbrev GPar.Y (p : GPar) (X : Cx) : Cx := gcx X p.s4 p.H4 p.cenv p.fp p.Bd p.pn
def GST (G : Gl0) (X : Cx) (p : GPar) (tn : Nat → Heap → Prop) (k : Nat) (si : S) (s : Shared) : Prop := ∃ H F2, Inv (p.Y X) [] p.σB H s ∧ tn k s.heap ∧ (∀ b ∈ p.fp, H b = none) ∧ Go G.T p.B0 p.σB p.F1 p.H4 (wipe [p.i] si) p.σB F2 H ∧ Rel G.K G.T (wipe [p.i] si) p.σB F2 H
def GYp (G : Gl0) (X : Cx) (p : GPar) (tn : Nat → Heap → Prop) (e : S → R Bool) : Protocol := fun n s₀ v s kap => ∃ (b : Bool) (k : Nat) (si : S), v = .bool b ∧ k < p.ds.length ∧ n = p.ds.length - k ∧ GST G X p tn (k + 1) si s ∧
  (b = p.al → genL p.al p.i e (p.ds.drop (k + 1)) si = .ok p.bF p.sF ∧ ∀ s'' : Shared, s''.heap = s.heap → s''.os = s.os → AllBare s''.gens → kap (.send .none) s'') ∧ (b ≠ p.al → p.bF = b ∧ p.sF = si)
def GSE (G : Gl0) (X : Cx) (p : GPar) (si : S) (s : Shared) : Prop := ∃ H F2, Inv (p.Y X) [] p.σB H s ∧ Go G.T p.B0 p.σB p.F1 p.H4 (wipe [p.i] si) p.σB F2 H ∧ Rel G.K G.T (wipe [p.i] si) p.σB F2 H
def GFn_ (G : Gl0) (X : Cx) (p : GPar) (tn : Nat → Heap → Prop) : Nat → Shared → Shared → Prop := fun n s₀ s => n = 1 ∧ p.bF = p.al ∧ GSE G X p p.sF s
def GEd (G : Gl0) (X : Cx) (p : GPar) (tn : Nat → Heap → Prop) : GenEnd := fun n s₀ r s => ((r = .ok (.ret .none) ∨ r = .ok .next) ∧ GFn_ G X p tn n s₀ s) ∨ ∃ e, r = .error e ∧ False
theorem GST.wake {p : GPar} {tn : Nat → Heap → Prop} {k : Nat} {si : S} {s s' : Shared} (h : GST G X p tn k si s) (hh : s'.heap = s.heap) (ho : s'.os = s.os) (hb : AllBare s'.gens) : GST G X p tn k si s' := by
  obtain ⟨H, F2, I, t, f, g, r⟩ := h
  refine ⟨H, F2, ?_, by rw [hh]; exact t, f, g, r⟩
  exact ⟨I.ok, ho.trans I.os, hb, by rw [hh]; exact I.base, by rw [hh]; exact I.loc, by rw [hh]; exact I.cell, I.free, I.freeC, by rw [hh]; exact I.pin, by rw [hh]; exact I.hok, I.len⟩
theorem seg_gen {p : GPar} {tn : Nat → Heap → Prop} {it : Addr} {J : It} {Gd : Hp → Prop} {e : S → R Vl} {elt iter : Expr} {x : Str} {px pos : Pos} {scope : Scope}
    (T : Turn X.prog X.w X.K (.Name x px) J p.fp it tn) (hi : ItOk G.K G.T J p.F1 p.ds Gd) (hGd : ∀ s3 σ3 F3 H3, Go G.T p.B0 p.σB p.F1 p.H4 s3 σ3 F3 H3 → Rel G.K G.T s3 σ3 F3 H3 → Gd H3)
    (he : HR G EX0 (p.Y X) e elt) (hN : X.N.Nodup) (hx : X.N[p.i]? = some x) (hloc : p.cenv.scope.names.lookup x = some .local) (hco : p.cenv.scope.isCoroutine = false) (hnB : ∀ d, p.B0[p.i]? ≠ some (.mu true d)) (hpn : ∀ b ∈ p.fp, ∀ q ∈ p.pn, q.1 ≠ b) (hσi : ∀ v, p.σB[p.i]? ≠ some (some v)) :
    ∀ (m k : Nat) (si : S) (s₀ s : Shared), p.ds.length - k = m → k ≤ p.ds.length → GST G X p tn k si s → genL p.al p.i (fun s => tst (e s)) (p.ds.drop k) si = .ok p.bF p.sF →
      Seg (model X.prog X.w) p.Bd (GEd G X p tn) (GYp G X p tn fun s => tst (e s)) (p.ds.length - k + 1) s₀ (.compLoop (.GeneratorExp elt [⟨.Name x px, iter, [], 0⟩] scope pos) 0 (.ref it) .none p.cenv)
        ((model X.prog X.w).den (.compLoop (.GeneratorExp elt [⟨.Name x px, iter, [], 0⟩] scope pos) 0 (.ref it) .none p.cenv)) [] s := by
  have stat : ∀ {σ' : L2.St} {H' : Hp} {s' : Shared}, Inv (p.Y X) [] σ' H' s' → (∀ b ∈ p.fp, H' b = none) → ∀ b ∈ p.fp, FpOk (p.Y X) [] H' b := fun {σ' H' s'} I' hn b hb =>
    ⟨hn b hb, (I'.ok.exf b hb).1, I'.ok.exfs b hb, .inl hb, fun x c e => (I'.ok.exf b hb).2 x c e, fun q hq => by
      have hq : q ∈ p.pn ++ [] := hq
      rw [List.append_nil] at hq
      exact hpn b hb q hq⟩
  intro m
  induction m with
  | zero =>
    intro k si s₀ s hk hle ⟨H, F2, I, t, f, g, r⟩ hg
    have hkn : k = p.ds.length := by omega
    subst hkn
    show Seg _ p.Bd _ _ _ s₀ _ ((compTurn (.GeneratorExp elt [⟨.Name x px, iter, [], 0⟩] scope pos) 0 (.ref it) .none p.cenv).onRaise (leaving p.cenv)) [] s
    rw [compTurn_gen, Sem.onRaise_eq_wrap]
    refine seg_bind_wrap (wpAny_standAt ?_)
    refine seg_bind_wrap ?_
    rw [over_gen]
    refine wpAny_mono (T.done (p.Y X) rfl rfl rfl rfl p.ds.length [] s p.σB H (fun _ _ => False) I (stat I f) t (hi.stops H (hGd _ _ _ _ g r))) (fun rr s1 ⟨hr, I1⟩ => ?_) fun _ _ z => False.elim z
    subst hr
    rw [List.drop_length] at hg
    have hg : R.ok p.al si = R.ok p.bF p.sF := hg
    injection hg with h1 h2
    exact seg_end (.ok .next) (.inl ⟨.inr rfl, by omega, h1.symm, H, F2, I1, by rw [← h2]; exact g, by rw [← h2]; exact r⟩)
  | succ m ih =>
    intro k si s₀ s hk hle ⟨H, F2, I, t, f, g, r⟩ hg
    have hlt : k < p.ds.length := by omega
    have hm : p.ds.length - k = (p.ds.length - (k + 1)) + 1 := by omega
    show Seg _ p.Bd _ _ _ s₀ _ ((compTurn (.GeneratorExp elt [⟨.Name x px, iter, [], 0⟩] scope pos) 0 (.ref it) .none p.cenv).onRaise (leaving p.cenv)) [] s
    rw [compTurn_gen, Sem.onRaise_eq_wrap]
    refine seg_bind_wrap (wpAny_standAt ?_)
    refine seg_bind_wrap ?_
    rw [over_gen]
    refine wpAny_mono (T.item (p.Y X) rfl rfl rfl rfl k [] s p.σB H (fun _ _ => False) I (stat I f) t (hi.goes k H hlt (hGd _ _ _ _ g r))) (fun rr s1 ⟨u, hr, h1⟩ => ?_) fun _ _ z => False.elim z
    subst hr
    refine seg_bind_wrap ?_
    rw [over_gen]
    refine wpAny_mono h1 (fun _ s2 ⟨xv, H2, I2, ru, y, t2, f2⟩ => ?_) fun _ _ z => False.elim z
    obtain ⟨F3, d, g3, r3, ed, hv⟩ := hi.yields k H xv H2 _ _ F2 g.ext r hlt (hGd _ _ _ _ g r) y
    have I2' := I2.pinned (stat I2 f2) (T.obj _ _ t2)
    -- the target
    refine seg_bind_wrap ?_
    rw [over_gen]
    have pg : PG (p.Y X) (.Name x px) (gName p.i) := pg_name hN hx (.inl hloc) (.inr hloc)
    refine wpAny_mono (pg.run _ s2 p.σB H2 xv u (fun σ2 H' => σ2 = p.σB.set p.i (some xv) ∧ H' = H2) I2' ru ⟨rfl, rfl⟩) (fun _ s3 ⟨σ3, H3, I3, e1, e2⟩ => ?_) fun _ _ z => False.elim z
    subst e1 e2
    refine seg_bind_wrap ?_
    simp only [List.forIn_nil]
    refine wpAny_pure ?_
    simp only [if_true]
    have hy : ∀ v, yieldOut p.cenv v = yieldValue v := fun v => by simp only [yieldOut, hco, Bool.false_eq_true, if_false]
    simp only [hy]
    rw [Sem.bind_eq_wrap', Sem.bind_eq_wrap', Sem.wrap_wrap, Sem.wrap_wrap]
    refine seg_wrap ?_
    rw [over_gen]
    -- the element
    rw [take_drop_step ed] at hg
    unfold genL at hg
    have hset : ((wipe [p.i] si).set p.i (.dat d)) = si.set p.i (.dat d) := by
      show ((si.set p.i .un).set p.i (.dat d)) = _
      rw [List.set_set]
    have so := setOk_one (G := G) (i := p.i) r3 hv
    rw [hset] at so
    have g4 : Go G.T (wipe [p.i] si) p.σB F3 H3 (si.set p.i (.dat d)) (p.σB.set p.i (some xv)) F3 H3 := by
      refine so.go (fun j hj e z => ?_) _ _ _ _ Go.refl
      exact (wipe_slot z (by intro y; cases y)).1 hj
    cases hev : e (si.set p.i (.dat d)) with
    | exc nm s9 => rw [hev] at hg; cases hg
    | stuck => rw [hev] at hg; cases hg
    | ok v s9 =>
      rw [hev] at hg
      -- its value is a bool
      cases v with
      | fr d9 => cases hg
      | dat d9 =>
        cases d9 with
        | bool b =>
          have hg : (if (b == p.al) = true then genL p.al p.i (fun s => tst (e s)) (List.drop (k + 1) p.ds) s9 else R.ok b s9) = R.ok p.bF p.sF := hg
          have hq : SE (p.Y X) elt (p.σB.set p.i (some xv)) H3 fun w H5 => w = .bl b ∧ ∃ F5, Go G.T (si.set p.i (.dat d)) (p.σB.set p.i (some xv)) F3 H3 s9 (p.σB.set p.i (some xv)) F5 H5 ∧ Rel G.K G.T s9 (p.σB.set p.i (some xv)) F5 H5 := by
            refine he _ _ F3 H3 _ so.rel ?_
            rw [hev]
            intro F5 H5 g5 r5 w hw _
            cases hw
            exact ⟨rfl, F5, g5, r5⟩
          refine wpAny_mono (hq _ s3 I3) (fun yv s5 ⟨w, H5, I5, rw5, ew, F5, g5, r5⟩ => ?_) fun _ _ z => False.elim z
          subst ew
          obtain rfl : yv = Value.bool b := rw5
          have pinK : ∀ c ∈ p.fp, ∀ o, s2.heap.get? c = some o → s5.heap.get? c = some o ∧ H5 c = none := fun c hc o eo =>
            let z := I5.pin (c, o) (List.mem_append_right _ (List.mem_append_right _ (mem_pinsAt hc eo)))
            ⟨z.1, z.2.1⟩
          have out : ∀ j, j ∉ [p.i] → (p.σB.set p.i (some xv))[j]? = p.σB[j]? := fun j hj => List.getElem?_set_ne fun z => hj (by rw [← z]; exact List.mem_singleton.mpr rfl)
          have gAll := (((g.trans g3).trans g4).trans g5).rewipe (I := [p.i]) (fun j hj e => by rw [List.mem_singleton.mp hj]; exact hnB e) out
          have rAll := r5.wipeB (σ' := p.σB) [p.i] (fun j hj => (out j hj).symm) (by simp)
          have I6 : Inv (p.Y X) [] p.σB H5 s5 := (I5.unpinned (pins := [])).weak (by simp) fun j v' e' => by
            by_cases hj : j = p.i
            · rw [hj] at e'; exact absurd e' (hσi v')
            · rw [List.getElem?_set_ne (fun z => hj z.symm)]; exact e'
          have st : GST G X p tn (k + 1) s9 s5 := ⟨H5, F5, I6, T.keep _ _ _ t2 fun c hc o eo => (pinK c hc o eo).1, fun c hc => by
            obtain ⟨o, eo, _⟩ := T.obj _ _ t2 c hc
            exact (pinK c hc o eo).2, gAll, rAll⟩
          refine seg_at (seg_yield rfl rfl rfl ⟨b, k, s9, rfl, hlt, by omega, st, fun hb => ?_, fun hb => ?_⟩)
          · rw [if_pos (by rw [hb]; simp)] at hg
            refine ⟨hg, fun s'' e1 e2 e3 => ?_⟩
            rw [hm]
            exact seg_again rfl (ih (k + 1) s9 s'' s'' (by omega) hlt (st.wake e1 e2 e3) hg)
          · rw [if_neg (by simpa using hb)] at hg
            injection hg with h1 h2
            exact ⟨h1.symm, h2.symm⟩
        | _ => cases hg
end
end Fs
set_option Elab.async false
set_option linter.all false
set_option maxRecDepth 100000
set_option maxHeartbeats 2000000
namespace Fs
open PySem PySem.Spec PyProof.Rows L2
/-! ### all, any over it -/
section
variable {G : Gl0} {X : Cx}
theorem GenW_allBare {s : Shared} {g : Nat} (h : AllBare s.gens) : AllBare (s.setGen g .finished).gens := allBare_setGen h rfl
theorem loop_all {p : GPar} {tn : Nat → Heap → Prop} {e : S → R Bool} {a : Addr} {g : Nat} {ob : Obj} {A : Around} {RR : Result → Shared → Prop} (hal : p.al = true) (hB : p.Bd = A.in1.in1) (hh : A.handled = none) (hd : A.depth < recursionLimit) (hpn : (a, ob) ∈ p.pn) (hob : ∀ h : Heap, h.get? a = some ob → h.IsGen a g)
    (hR : ∀ s', GSE G X p p.sF s' → RR (.ok (.ret (.bool p.bF))) s') :
    ∀ (m k : Nat) (si : S) (s : Shared), p.ds.length - k = m → k ≤ p.ds.length → s.heap.get? a = some ob → s.heap.NoLimit →
      (∃ gs, s.gens[g]? = some gs ∧ gs.Goes (model X.prog X.w) A.in1.in1 (GEd G X p tn) (GYp G X p tn e) (p.ds.length - k + 1) (.send .none) (s.setGen g .running)) →
      codeAny (model X.prog X.w) A (.builtin "all.loop" ⟨[.ref a], []⟩) RR s := by
  intro m
  induction m with
  | zero =>
    intro k si s hk hle hob1 hl ⟨gs, hgs, hgo⟩
    refine codeAny_builtin F.entry_all_loop ?_
    rw [Around.under_plainId F.plain_all_loop _]
    show wpAny _ A.in1 (pyNext (.ref a) >>= _) _ _ s
    refine wpAny_bind (next_genG (A := A.in1) (F := GFn_ G X p tn) (Er := fun _ _ => False) hh hl hd (hob _ hob1) hgs hgo (fun v s₁ gs' hbare hv => ?_) (fun s₁ hp h' hk' => ?_) fun e s₁ he => he.elim)
    · obtain ⟨b, k', si', rfl, hlt, hn, st, _⟩ := hv
      omega
    · obtain ⟨_, hbf, H, F2, I, gg, rr⟩ := hp
      refine wpAny_bind (wpAny_rule (wpAny_pure ?_))
      have hr := hR { s₁.setGen g .finished with heap := h' } ⟨H, F2, ?_, gg, rr⟩
      · rw [hbf, hal] at hr; exact hr
      · exact I.call' (ch := []) rfl (Un.kept hk') (I.hok.kept hk') (GenW_allBare I.bare) (fun _ z => nomatch z)
  | succ m ih =>
    intro k si s hk hle hob1 hl ⟨gs, hgs, hgo⟩
    have hgl : g < s.gens.size := (Array.getElem?_eq_some_iff.mp hgs).1
    have hm : p.ds.length - k = (p.ds.length - (k + 1)) + 1 := by omega
    refine codeAny_builtin F.entry_all_loop ?_
    rw [Around.under_plainId F.plain_all_loop _]
    show wpAny _ A.in1 (pyNext (.ref a) >>= _) _ _ s
    refine wpAny_bind (GenW.wpAny_gsz (n := g + 1) hgl (next_genG (A := A.in1) (F := GFn_ G X p tn) (Er := fun _ _ => False) hh hl hd (hob _ hob1) hgs hgo (fun v s₁ gs' hbare hv => ?_) (fun s₁ hp h' hk' => ?_) fun e s₁ he => he.elim))
    · intro hsz
      obtain ⟨b, k', si', rfl, hlt, hn, st, hc, hs⟩ := hv
      have hkk : k' = k := by omega
      subst hkk
      have hsz1 : g < s₁.gens.size := by
        have q : (s₁.setGen g gs').gens.size = s₁.gens.size := GenW.setGen_size _ _ _
        have hsz' : g + 1 ≤ (s₁.setGen g gs').gens.size := hsz
        omega
      have stI := st
      obtain ⟨H, F2, I, _, _, gg, rr⟩ := stI
      have hob2 : s₁.heap.get? a = some ob := (I.pin (a, ob) (List.mem_append_left _ hpn)).1
      have hbA : AllBare (s₁.setGen g gs').gens := allBare_setGen I.bare hbare
      show wpAny _ A.in1 (holding _ (truthy (.bool b)) >>= _) _ _ (s₁.setGen g gs')
      refine wpAny_bind (wpAny_holding (wpAny_truthy_bool ?_))
      refine wpAny_bind (wpAny_letGo ?_)
      cases b with
      | true =>
        try simp only [if_true]
        try simp only [Bool.false_eq_true, if_false]
        obtain ⟨hg, hkap⟩ := hc hal.symm
        refine wpAny_pure ⟨plainId_quiet F.plain_all_loop _, ih (k' + 1) si' (s₁.setGen g gs') (by omega) hlt hob2 I.nolimit ⟨gs', setGen_at hsz1, ?_⟩⟩
        have := hkap ((s₁.setGen g gs').setGen g .running) rfl rfl (allBare_setGen hbA rfl)
        rw [← hm]
        exact this
      | false =>
        try simp only [if_true]
        try simp only [Bool.false_eq_true, if_false]
        obtain ⟨h1, h2⟩ := hs (by rw [hal]; decide)
        refine wpAny_bind (wpAny_rule (wpAny_pure ?_))
        have hr := hR (s₁.setGen g gs') ⟨H, F2, ?_, by rw [h2]; exact gg, by rw [h2]; exact rr⟩
        · rw [h1] at hr; exact hr
        · exact ⟨I.ok, I.os, hbA, I.base, I.loc, I.cell, I.free, I.freeC, I.pin, I.hok, I.len⟩
    · obtain ⟨hz, _⟩ := hp
      omega
theorem loop_any {p : GPar} {tn : Nat → Heap → Prop} {e : S → R Bool} {a : Addr} {g : Nat} {ob : Obj} {A : Around} {RR : Result → Shared → Prop} (hal : p.al = false) (hB : p.Bd = A.in1.in1) (hh : A.handled = none) (hd : A.depth < recursionLimit) (hpn : (a, ob) ∈ p.pn) (hob : ∀ h : Heap, h.get? a = some ob → h.IsGen a g)
    (hR : ∀ s', GSE G X p p.sF s' → RR (.ok (.ret (.bool p.bF))) s') :
    ∀ (m k : Nat) (si : S) (s : Shared), p.ds.length - k = m → k ≤ p.ds.length → s.heap.get? a = some ob → s.heap.NoLimit →
      (∃ gs, s.gens[g]? = some gs ∧ gs.Goes (model X.prog X.w) A.in1.in1 (GEd G X p tn) (GYp G X p tn e) (p.ds.length - k + 1) (.send .none) (s.setGen g .running)) →
      codeAny (model X.prog X.w) A (.builtin "any.loop" ⟨[.ref a], []⟩) RR s := by
  intro m
  induction m with
  | zero =>
    intro k si s hk hle hob1 hl ⟨gs, hgs, hgo⟩
    refine codeAny_builtin F.entry_any_loop ?_
    rw [Around.under_plainId F.plain_any_loop _]
    show wpAny _ A.in1 (pyNext (.ref a) >>= _) _ _ s
    refine wpAny_bind (next_genG (A := A.in1) (F := GFn_ G X p tn) (Er := fun _ _ => False) hh hl hd (hob _ hob1) hgs hgo (fun v s₁ gs' hbare hv => ?_) (fun s₁ hp h' hk' => ?_) fun e s₁ he => he.elim)
    · obtain ⟨b, k', si', rfl, hlt, hn, st, _⟩ := hv
      omega
    · obtain ⟨_, hbf, H, F2, I, gg, rr⟩ := hp
      refine wpAny_bind (wpAny_rule (wpAny_pure ?_))
      have hr := hR { s₁.setGen g .finished with heap := h' } ⟨H, F2, ?_, gg, rr⟩
      · rw [hbf, hal] at hr; exact hr
      · exact I.call' (ch := []) rfl (Un.kept hk') (I.hok.kept hk') (GenW_allBare I.bare) (fun _ z => nomatch z)
  | succ m ih =>
    intro k si s hk hle hob1 hl ⟨gs, hgs, hgo⟩
    have hgl : g < s.gens.size := (Array.getElem?_eq_some_iff.mp hgs).1
    have hm : p.ds.length - k = (p.ds.length - (k + 1)) + 1 := by omega
    refine codeAny_builtin F.entry_any_loop ?_
    rw [Around.under_plainId F.plain_any_loop _]
    show wpAny _ A.in1 (pyNext (.ref a) >>= _) _ _ s
    refine wpAny_bind (GenW.wpAny_gsz (n := g + 1) hgl (next_genG (A := A.in1) (F := GFn_ G X p tn) (Er := fun _ _ => False) hh hl hd (hob _ hob1) hgs hgo (fun v s₁ gs' hbare hv => ?_) (fun s₁ hp h' hk' => ?_) fun e s₁ he => he.elim))
    · intro hsz
      obtain ⟨b, k', si', rfl, hlt, hn, st, hc, hs⟩ := hv
      have hkk : k' = k := by omega
      subst hkk
      have hsz1 : g < s₁.gens.size := by
        have q : (s₁.setGen g gs').gens.size = s₁.gens.size := GenW.setGen_size _ _ _
        have hsz' : g + 1 ≤ (s₁.setGen g gs').gens.size := hsz
        omega
      have stI := st
      obtain ⟨H, F2, I, _, _, gg, rr⟩ := stI
      have hob2 : s₁.heap.get? a = some ob := (I.pin (a, ob) (List.mem_append_left _ hpn)).1
      have hbA : AllBare (s₁.setGen g gs').gens := allBare_setGen I.bare hbare
      show wpAny _ A.in1 (holding _ (truthy (.bool b)) >>= _) _ _ (s₁.setGen g gs')
      refine wpAny_bind (wpAny_holding (wpAny_truthy_bool ?_))
      refine wpAny_bind (wpAny_letGo ?_)
      cases b with
      | false =>
        try simp only [if_true]
        try simp only [Bool.false_eq_true, if_false]
        obtain ⟨hg, hkap⟩ := hc hal.symm
        refine wpAny_pure ⟨plainId_quiet F.plain_any_loop _, ih (k' + 1) si' (s₁.setGen g gs') (by omega) hlt hob2 I.nolimit ⟨gs', setGen_at hsz1, ?_⟩⟩
        have := hkap ((s₁.setGen g gs').setGen g .running) rfl rfl (allBare_setGen hbA rfl)
        rw [← hm]
        exact this
      | true =>
        try simp only [if_true]
        try simp only [Bool.false_eq_true, if_false]
        obtain ⟨h1, h2⟩ := hs (by rw [hal]; decide)
        refine wpAny_bind (wpAny_rule (wpAny_pure ?_))
        have hr := hR (s₁.setGen g gs') ⟨H, F2, ?_, by rw [h2]; exact gg, by rw [h2]; exact rr⟩
        · rw [h1] at hr; exact hr
        · exact ⟨I.ok, I.os, hbA, I.base, I.loc, I.cell, I.free, I.freeC, I.pin, I.hok, I.len⟩
    · obtain ⟨hz, _⟩ := hp
      omega
end
end Fs
set_option Elab.async false
set_option linter.all false
set_option maxRecDepth 100000
set_option maxHeartbeats 2000000
namespace Fs
open PySem PySem.Spec PyProof.Rows L2
/-! ### all(..), any(..) of a generator expression -/
section
variable {K : PySem.W.Frag} {T : List Tb} {s s0 : S} {σ σ0 : L2.St} {F H F0 H0 : Hp}
/-- a table grows -/
theorem Rel.tabUp (r : Rel K T s σ F H) {P c : Addr} {q : Str} {ps : Array Value} {gp : Pos} (hP : H P = some (.tbl ps)) (hF : F P = none) (hin : inT T P) (hu : ∀ p ∈ T, p.1 = P → p.2 = q) (hc : H c = none) (ht0 : TriplesOk ps.toList) : Rel K T s σ F (upd (upd H P (.tbl (ps ++ #[rawInt gp.line, rawInt gp.col, .ref c]))) c (LamX.CodeO c q)) where
  len := r.len
  dat := r.dat
  mu := fun i b d e => by
    obtain ⟨l, e1, e2, e3, e4⟩ := r.mu i b d e
    have hl : l ≠ P := fun z => e3 (by rw [z]; exact hin)
    exact ⟨l, e1, e2, e3, e4.mono (Sub.refl F) fun u q => by rw [upd_ne (ne_of_none q hc), upd_ne hl]; exact q⟩
  scr := r.scr
  apart := r.apart
  sub := fun a u e => by
    have ha : a ≠ P := fun z => by rw [z, hF] at e; cases e
    have h1 := r.sub a u e
    rw [upd_ne (ne_of_none h1 hc), upd_ne ha]; exact h1
  tab := fun p hp => by
    obtain ⟨h1, h2⟩ := r.tab p hp
    refine ⟨h1, ?_⟩
    have hPc : P ≠ c := ne_of_none hP hc
    have keepC : ∀ b z, H b = some (LamX.CodeO b z) → upd (upd H P (.tbl (ps ++ #[rawInt gp.line, rawInt gp.col, .ref c]))) c (LamX.CodeO c q) b = some (LamX.CodeO b z) := fun b z e => by
      have hb : b ≠ P := fun y => by
        rw [y, hP] at e
        have := Option.some.inj e
        unfold LamX.CodeO at this
        cases this
      rw [upd_ne (ne_of_none e hc), upd_ne hb]; exact e
    obtain ⟨ps', h3, h4, h5⟩ := h2
    by_cases e : p.1 = P
    · rw [e, hP] at h3
      cases h3
      refine ⟨ps ++ #[rawInt gp.line, rawInt gp.col, .ref c], by rw [e, upd_ne hPc, upd_same], ?_, fun pos cv hcv => ?_⟩
      · have e9 : (ps ++ #[rawInt gp.line, rawInt gp.col, .ref c]).toList = ps.toList ++ [rawInt gp.line, rawInt gp.col, .ref c] := by simp
        rw [e9]; exact PySem.TriplesOk_snoc _ _ _ _ ht0
      · have hcv : codeAmong pos (ps.toList ++ [rawInt gp.line, rawInt gp.col, .ref c]) = some cv := by simpa using hcv
        rcases LamX.among_app _ ht0 hcv with z | z
        · obtain ⟨c0, e1, e2⟩ := h5 pos cv z
          exact ⟨c0, e1, keepC _ _ e2⟩
        · exact ⟨c, z, by rw [upd_same, hu p hp e]⟩
    · refine ⟨ps', by rw [upd_ne (ne_of_none h3 hc), upd_ne e]; exact h3, h4, fun pos cv hcv => ?_⟩
      obtain ⟨c0, e1, e2⟩ := h5 pos cv hcv
      exact ⟨c0, e1, keepC _ _ e2⟩
theorem Go.tabUp (g : Go T s0 σ0 F0 H0 s σ F H) {P c : Addr} {o o2 : L2.HO} (hin : inT T P) (hc : H c = none) : Go T s0 σ0 F0 H0 s σ F (upd (upd H P o) c o2) where
  ext := g.ext
  new := g.new
  keep := fun a u h n t => by
    have ha : a ≠ P := fun z => t (by rw [z]; exact hin)
    have h1 := g.keep a u h n t
    rw [upd_ne (ne_of_none h1 hc), upd_ne ha]; exact h1
  alive := fun a h => by
    by_cases hac : a = c
    · rw [hac, upd_same]; simp
    · rw [upd_ne hac]
      by_cases ha : a = P
      · rw [ha, upd_same]; simp
      · rw [upd_ne ha]; exact g.alive a h
  own := g.own
  bor := g.bor
theorem genL_ne (al : Bool) (i : Nat) (e : S → R Bool) : ∀ (xs : List D) (s : S) (nm : D) (s' : S), genL al i e xs s ≠ .exc nm s'
  | [], s, nm, s', h => by cases h
  | x :: xs, s, nm, s', h => by
    unfold genL at h
    split at h
    · split at h
      · exact genL_ne al i e xs _ nm s' h
      · cases h
    · cases h
end
section
variable {G : Gl0} {EX : XK} {X : Cx} {pos p gpos px : Pos}
/-- the def's code object and its table -/
structure GenTb (G : Gl0) (X : Cx) (c P : Addr) : Prop where
  tb : GxR.TabB X.base X.mg c P
  code : X.env.code = .ref c
  mem : (P, X.env.qual ++ "<genexpr>") ∈ G.T
  one : ∀ q ∈ G.T, q.1 = P → q.2 = X.env.qual ++ "<genexpr>"
def genR (al : Bool) (i : Nat) (r : S → R (List D × Option Nat)) (e : S → R Vl) : S → R Vl := fun s => (r s).bind fun xs s => (match xs.2 with
      | some _ => .stuck
      | none => (genL al i (fun s => tst (e s)) xs.1 s).bind fun b s' => .ok (.dat (.bool b)) (s'.set i (s.getD i .un)))
/-- for every generator's frame -/
def AllG (X : Cx) (scope : Scope) (lv : Nat) (Pr : Cx → Prop) : Prop := ∀ (s : Shared) (H : Hp) (C : Addr) (code : Value) (fp : List Addr) (B : Around) (pn : List (Addr × Obj)), Room lv (B.deeper (gEnv X scope C code)) → Pr (gcx X s H (gEnv X scope C code) fp B pn)
theorem seg_start {A : Around} {GE : GenEnd} {Yp : Protocol} {n : Nat} {elt iter : Expr} {x : Str} {scope : Scope} {it : Addr} {cenv : Env} {s₀ s : Shared} {prog : Program} {w : World}
    (loop : Seg (model prog w) A GE Yp n s₀ (.compLoop (.GeneratorExp elt [⟨.Name x px, iter, [], 0⟩] scope pos) 0 (.ref it) .none cenv) ((model prog w).den (.compLoop (.GeneratorExp elt [⟨.Name x px, iter, [], 0⟩] scope pos) 0 (.ref it) .none cenv)) [] s)
    (self : ∀ (A : Around) (Q : Value → Shared → Prop) (E : Value → Shared → Prop), Q (.ref it) s → wpAny (model prog w) A (pyIter (.ref it)) Q E s) :
    Seg (model prog w) A GE Yp n s₀ (.compStart (.GeneratorExp elt [⟨.Name x px, iter, [], 0⟩] scope pos) 0 (.ref it) .none cenv) ((model prog w).den (.compStart (.GeneratorExp elt [⟨.Name x px, iter, [], 0⟩] scope pos) 0 (.ref it) .none cenv)) [] s := by
  show Seg _ A _ _ _ s₀ _ ((compStart (.GeneratorExp elt [⟨.Name x px, iter, [], 0⟩] scope pos) 0 (.ref it) .none cenv).onRaise (leaving cenv)) [] s
  unfold compStart
  rw [Sem.onRaise_eq_wrap]
  show Seg _ A _ _ _ s₀ _ ((ask >>= _).wrap _ _ _ _) [] s
  refine seg_bind_wrap (wpAny_askSetting ?_)
  split
  · exact seg_again rfl loop
  · first
      | exact seg_bind_wrap (wpAny_rule (seg_bind_wrap (wpAny_standAt (seg_bind_wrap (self _ _ _ (seg_again rfl loop))))))
      | (refine seg_bind_wrap (wpAny_rule ?_); show Seg _ A _ _ _ s₀ _ ((standAt iter.pos >>= _).wrap _ _ _ _) [] s; exact seg_bind_wrap (wpAny_standAt (seg_bind_wrap (self _ _ _ (seg_again rfl loop)))))
theorem hr_gen_all {r : S → R (List D × Option Nat)} {e : S → R Vl} {i lv : Nat} {elt iter : Expr} {x : Str} {scope : Scope} {c P : Addr} (hr : Room (lv + 3) X.A) (hN : X.N.Nodup) (b : BtOk X "all") (tb : GenTb G X c P) (hi : HI G EX X r (.Name x px) iter) (L : GnS X.N X.env.scope scope x) (hx : X.N[i]? = some x)
    (he : AllG X scope lv fun Y => HR G EX0 Y e elt) (hs : ∀ v, genFold iter X.env v = pure v) :
    HR G EX X (genR true i r e) (.Call (.Name "all" p) [.GeneratorExp elt [⟨.Name x px, iter, [], 0⟩] scope gpos] [] pos) := by
  intro s σ F H Q q pp
  have hsi := hi s σ F H (fun J H1 => ∃ ds s1 F1 Gd, Go G.T s σ F H s1 σ F1 H1 ∧ Rel G.K G.T s1 σ F1 H1 ∧ ItOk G.K G.T J F1 ds Gd ∧ Stable G.K G.T s1 σ F1 H1 Gd ∧
      PR G EX s σ F H ((genL true i (fun s => tst (e s)) ds s1).bind fun b s' => .ok (.dat (.bool b)) (s'.set i (s1.getD i .un))) (KV G s σ H Q)) q (by
    unfold genR at pp
    refine pp.bindB.imp fun xs s1 F' H1 _ _ k1 J F1 Gd g1 r1 it st => ?_
    obtain ⟨ds, o⟩ := xs
    cases o with
    | some j => exact k1.elim
    | none => exact ⟨ds, s1, F1, Gd, g1, r1, it, st, k1⟩)
  intro pins st I
  refine wpAny_Call_Name_kw (ld_blt I b.gl b.mg PyProof.Rows.boot_all ?_)
  refine PyProof.Rows.callWith_builtin1 ?_ (by rfl) (by rfl)
  show wpAny _ _ (spliced ((false, eval (.GeneratorExp elt [⟨.Name x px, iter, [], 0⟩] scope gpos) X.env) :: backTo pos (starEach [] X.env))) _ _ st
  refine Calls.spliced_cons (wpAny_GeneratorExp_make L.co (closure_ok (L.has I.ok)) L.cell L.dot L.kind hr.depth (thn (hsi pins st I) fun xv s1' hxv => thn hxv fun itv s2 h2 => ?_) hs)
  obtain ⟨it, fp, tn, J, H1, ei, I1, T, st2, f2, ds, s1, F1, Gd, g1, r1, itk, stb, k1⟩ := h2
  subst ei
  refine ⟨I1.nolimit, ?_⟩
  -- the table
  obtain ⟨hF1P, hTab⟩ := r1.tab _ tb.mem
  obtain ⟨ps, hP, htr, hcs⟩ := hTab
  have hP : H1 P = some (.tbl ps) := hP
  have hinP : inT G.T P := ⟨_, tb.mem, rfl⟩
  have hPs : s2.heap.get? P = some { cls := .none, data := .fields ps } := I1.hok P _ hP
  have cd : PySem.W.CodeHd s2.heap c P := tb.tb.code.keeps fun b u e => I1.bk b u e
  have fpl : ∀ b ∈ fp, b < s2.heap.objs.size := fun b hb => by
    obtain ⟨o, eo, _⟩ := T.obj _ _ st2 b hb
    exact Heap.lt_size eo
  have cont : ∀ (code : Value) (h3 : Heap) (tk : Nat) (H2 : Hp), Heap.ExtBut P s2.heap h3 → s2.heap.objs.size ≤ h3.objs.size → Inv X pins σ H2 { s2 with heap := h3, toks := tk } → Rel G.K G.T s1 σ F1 H2 → Go G.T s σ F H s1 σ F1 H2 → (∀ b, H1 b = none → b < s2.heap.objs.size → H2 b = none) → (∀ a o, H1 a = some o → a ≠ P → H2 a = some o) →
      wpAny (model X.prog X.w) X.A (builtinsFor X.env.globals X.env.builtins) (fun bi s₄ =>
        ∀ h', h'.Ns s₄.heap.objs.size (fun y => if y = ".0" then some (.ref it) else none) → Heap.SameBut s₄.heap.objs.size (s₄.heap.push { cls := .type "frame", data := .dict #[] }) h' →
          wpAny (model X.prog X.w) X.A (spliced (backTo pos (starEach [] X.env))) (fun vs s => wpAny (model X.prog X.w) X.A (PySem.call (.builtin "all") (.ref h'.objs.size :: vs)) (EP X pins σ Q) X.xe s) X.xe { s₄ with
            gens := s₄.gens.push (.fresh (.compStart (.GeneratorExp elt [⟨.Name x px, iter, [], 0⟩] scope gpos) 0 (.ref it) .none (genEnv scope (cloFrom X.env.cells scope.names []) s₄.heap.objs.size code bi X.env))),
            toks := s₄.toks + 1 + 1 + 1,
            heap := h'.push { cls := .type "generator", data := .fields #[.int s₄.gens.size 0, .str "<genexpr>" (s₄.toks + 1), .str (X.env.qual ++ "<genexpr>") (s₄.toks + 1 + 1)] } }) X.xe { s2 with heap := h3, toks := tk } := by
    intro code h3 tk H2 hx3 hsz I3 r2 g2 hnone hkeep
    obtain ⟨bm, ob, e1, e2, e3, e4, e5, e6, e7, e8⟩ := tb.tb.bm
    have keep3 : ∀ b u, b ≠ P → s2.heap.get? b = some u → h3.get? b = some u := fun b u hb e => hx3 b u hb e
    refine wpAny_builtinsFor (m := X.mg) (by rw [I1.ok.glob]; exact (I1.mod.glob.keeps I1.bk).extBut hx3 tb.tb.gP) e1 e2 (keep3 _ _ e4 (I1.bk _ _ e5)) e6 e7 e8 ?_
    intro h' hns hsb
    -- the state ahead of the frame
    have fp2 : ∀ b ∈ fp, FpOk X pins H2 b ∧ b < h3.objs.size := fun b hb => by
      have hlt := fpl b hb
      refine ⟨⟨?_, (f2 b hb).2⟩, Nat.lt_of_lt_of_le hlt hsz⟩
      exact hnone b (f2 b hb).1 hlt
    have st3 : tn 0 h3 := T.keep _ _ _ st2 fun b hb o eo => keep3 b o (fun z => by
      have := (f2 b hb).1
      rw [z, hP] at this; cases this) eo
    -- the frame, the generator
    show wpAny _ _ (spliced []) _ _ _
    refine Calls.spliced_nil ?_
    have kp' : ∀ b o, h3.get? b = some o → h'.get? b = some o := fun b o eo => hsb.extBut b o (Nat.ne_of_lt (Heap.lt_size eo)) (Heap.get?_push_of_some _ eo)
    have kp6 : ∀ b o, h3.get? b = some o → (h'.push { cls := .type "generator", data := .fields #[.int s2.gens.size 0, .str "<genexpr>" (tk + 1), .str (X.env.qual ++ "<genexpr>") (tk + 1 + 1)] }).get? b = some o := fun b o eo => Heap.get?_push_of_some _ (kp' b o eo)
    have hCa : h3.objs.size < h'.objs.size := hns.lt
    let par : GPar := { s4 := { s2 with heap := h3, toks := tk }, H4 := H2, cenv := gEnv X scope h3.objs.size code, fp := fp, Bd := X.A.in1.in1, pn := [(h'.objs.size, { cls := .type "generator", data := .fields #[.int s2.gens.size 0, .str "<genexpr>" (tk + 1), .str (X.env.qual ++ "<genexpr>") (tk + 1 + 1)] })], i := i, σB := σ.set i none, B0 := wipe [i] s1, F1 := F1, ds := ds, al := true, bF := false, sF := [] }
    cases hgl : genL true i (fun s => tst (e s)) ds s1 with
    | exc nm s9 => exact absurd hgl (genL_ne _ _ _ _ _ _ _)
    | stuck => rw [hgl] at k1; exact k1.elim
    | ok bF sF =>
      rw [hgl] at k1
      have I6 := gen_start (pn := par.pn) (x := x) (it := .ref it) (code := code) (h' := h'.push { cls := .type "generator", data := .fields #[.int s2.gens.size 0, .str "<genexpr>" (tk + 1), .str (X.env.qual ++ "<genexpr>") (tk + 1 + 1)] }) (g' := s2.gens.push (.fresh (.compStart (.GeneratorExp elt [⟨.Name x px, iter, [], 0⟩] scope gpos) 0 (.ref it) .none (genEnv scope (cloFrom X.env.cells scope.names []) h3.objs.size code builtinsNs X.env)))) (tk := tk + 1 + 1 + 1) I3 L hN hx
        (show X.A.in1.in1.frames = some X.stack from I.ok.frames) (show X.A.in1.in1.handled = none from hr.hd) fp2 (hns.keeps fun b o eo => Heap.get?_push_of_some _ eo) kp6 (AllBare.push I3.bare rfl) (fun q hq => by
          have hq : q = _ := List.mem_singleton.mp hq
          subst hq
          exact ⟨Heap.get?_push_size _ rfl, hCa, fun v z => by cases z⟩)
      have outσ : ∀ j, j ∉ [i] → (σ.set i none)[j]? = σ[j]? := fun j hj => List.getElem?_set_ne fun z => hj (by rw [← z]; exact List.mem_singleton.mpr rfl)
      have rB : Rel G.K G.T (wipe [i] s1) (σ.set i none) F1 H2 := r2.wipeB [i] outσ (by simp)
      have ownS : ∀ l, Fs.own (wipe [i] s1) (σ.set i none) l → Fs.own s1 σ l := fun l ⟨j, b, d, e1, e2⟩ => by
        obtain ⟨h1, h2⟩ := wipe_slot e1 (by intro z; cases z)
        exact ⟨j, b, d, h2, by rw [← outσ j h1]; exact e2⟩
      have hGd : ∀ s3 σ3 F3 H3, Go G.T (wipe [i] s1) (σ.set i none) F1 H2 s3 σ3 F3 H3 → Rel G.K G.T s3 σ3 F3 H3 → Gd H3 := fun s3 σ3 F3 H3 gg rr => stb F3 H3 gg.ext rr.sub fun a o h n t => gg.keep a o (by
        have ha : a ≠ P := fun z => t (by rw [z]; exact hinP)
        exact hkeep a o h ha) (fun z => n (ownS a z)) t
      have loop := seg_gen (G := G) (X := X) (p := { par with bF := bF, sF := sF }) (tn := tn) (e := e) (iter := iter) (px := px) (pos := gpos) (scope := scope) T itk hGd (he _ _ _ _ _ _ _ (((show Room (lv + 3) X.A from hr).in1.in1).deeper _)) hN hx L.loc L.co (fun d z => (wipe_slot z (by intro y; cases y)).1 (List.mem_singleton.mpr rfl))
        (fun b hb q hq => by
          have hq : q = _ := List.mem_singleton.mp hq
          subst hq
          exact Nat.ne_of_gt (Nat.lt_trans (fp2 b hb).2 hCa)) (fun v z => by
          by_cases hj : i < σ.length
          · have z : (σ.set i none)[i]? = some (some v) := z
            rw [List.getElem?_set_self hj] at z; cases z
          · have z : (σ.set i none)[i]? = some (some v) := z
            rw [List.getElem?_eq_none (by simpa using hj)] at z; cases z)
      have st6 : ∀ s' : Shared, s'.heap = (h'.push { cls := .type "generator", data := .fields #[.int s2.gens.size 0, .str "<genexpr>" (tk + 1), .str (X.env.qual ++ "<genexpr>") (tk + 1 + 1)] }) → s'.os = s2.os → AllBare s'.gens → GST G X { par with bF := bF, sF := sF } tn 0 s1 s' := fun s' a1 a2 a3 =>
        GST.wake (p := { par with bF := bF, sF := sF }) (s := { s2 with heap := h'.push { cls := .type "generator", data := .fields #[.int s2.gens.size 0, .str "<genexpr>" (tk + 1), .str (X.env.qual ++ "<genexpr>") (tk + 1 + 1)] }, gens := s2.gens.push (.fresh (.compStart (.GeneratorExp elt [⟨.Name x px, iter, [], 0⟩] scope gpos) 0 (.ref it) .none (genEnv scope (cloFrom X.env.cells scope.names []) h3.objs.size code builtinsNs X.env))), toks := tk + 1 + 1 + 1 })
          ⟨H2, F1, I6, T.keep _ _ _ st3 fun b hb o eo => kp6 b o eo, fun b hb => (fp2 b hb).1.1, Go.refl, rB⟩ a1 a2 a3
      refine call_function_tree PySem.F.kind_all PySem.F.plain_all PySem.F.entry_all (PySem.F.args_all1 _) ?_
      unfold Builtin.«all»
      refine wpAny_bind (m := oneArg "all" _) (wpAny_pure ?_)
      refine wpAny_bind (wpAny_pyIter_gen (g := s2.gens.size) ⟨_, _, _, Heap.get?_push_size _ rfl, rfl, rfl, rfl⟩ ?_)
      refine wpAny_pure ⟨plainId_quiet PySem.F.plain_all_loop _, loop_all (G := G) (X := X) (p := { par with bF := bF, sF := sF }) (tn := tn) (e := fun s => tst (e s)) (g := s2.gens.size) rfl rfl hr.hd hr.depth (List.mem_singleton.mpr rfl) (fun h hh => ⟨_, _, _, hh, rfl, rfl, rfl⟩) (fun s' hfin => ?_) _ 0 s1 _ rfl (Nat.zero_le _) (Heap.get?_push_size _ rfl) ?_ ⟨_, Array.getElem?_push_size, ?_⟩⟩
      · obtain ⟨Hf, Ff, If, gf, rf⟩ := hfin
        have Ib : Inv X pins σ Hf s' := gen_back (scope := scope) (code := code) I3 (fun b hb => (fp2 b hb).1) If
        obtain ⟨gR, rR⟩ := restore (I := [i]) r2 gf rf outσ (by simp [par])
        have eU : unwipe [i] s1 (wipe [i] sF) = sF.set i (s1.getD i .un) := by
          show ((sF.set i .un).set i (s1.getD i .un)) = _
          rw [List.set_set]
        rw [eU] at gR rR
        exact ⟨.bl bF, Hf, Ib, rfl, (k1.ok (g2.trans gR) rR) _ (.bl _) trivial⟩
      · exact I6.nolimit
      · refine ⟨rfl, seg_start (loop (ds.length - 0) 0 s1 _ _ rfl (Nat.zero_le _) (st6 _ rfl rfl ?_) (by rw [List.drop_zero]; exact hgl)) fun A' Q' E' hq => T.self A' 0 _ Q' E' ?_ hq⟩
        · exact allBare_setGen (AllBare.push I3.bare rfl) rfl
        · exact T.keep _ _ _ st3 fun b hb o eo => kp6 b o eo
  cases hf : codeAmong gpos ps.toList with
  | none =>
    refine wpAny_genexprCodeX tb.code (cd.code hPs htr) (cd.tab hPs) hf fun c' h3 tk hx3 hge hlt hco' hrec htab' _ => ?_
    have hcN : H1 c' = none := I1.hok.fresh hge
    have kp3 : ∀ b o, b ≠ P → s2.heap.get? b = some o → h3.get? b = some o := fun b u hb e => hx3 b u hb e
    have hrec : ∃ oc vs t, h3.get? c' = some oc ∧ oc.data = .fields vs ∧ vs[1]? = some (.str (X.env.qual ++ "<genexpr>") t) := by
      obtain ⟨c2, oc, vs, t, e2, hoc, hd, hv⟩ := hrec
      cases e2
      exact ⟨oc, vs, t, hoc, hd, hv⟩
    exact cont _ h3 tk _ hx3 (Nat.le_trans hge (Nat.le_of_lt hlt)) (LamX.inv_table I1 hP kp3 htab'.2 hge hrec) (r1.tabUp hP hF1P hinP tb.one hcN htr) (g1.tabUp hinP hcN)
      (fun b e hb => by rw [upd_ne (fun z => Nat.lt_irrefl _ (Nat.lt_of_lt_of_le (by rw [← z]; exact hb) hge)), upd_ne (fun z => by rw [z, hP] at e; cases e)]; exact e)
      (fun a o e ha => by rw [upd_ne (ne_of_none e hcN), upd_ne ha]; exact e)
  | some cv =>
    refine wpAny_genexprCode_hit tb.code (cd.code hPs htr) hf ?_
    exact cont cv s2.heap s2.toks H1 (Heap.ExtBut.refl _ _) (Nat.le_refl _) I1 r1 g1 (fun _ e _ => e) fun _ _ e _ => e
theorem hr_gen_any {r : S → R (List D × Option Nat)} {e : S → R Vl} {i lv : Nat} {elt iter : Expr} {x : Str} {scope : Scope} {c P : Addr} (hr : Room (lv + 3) X.A) (hN : X.N.Nodup) (b : BtOk X "any") (tb : GenTb G X c P) (hi : HI G EX X r (.Name x px) iter) (L : GnS X.N X.env.scope scope x) (hx : X.N[i]? = some x)
    (he : AllG X scope lv fun Y => HR G EX0 Y e elt) (hs : ∀ v, genFold iter X.env v = pure v) :
    HR G EX X (genR false i r e) (.Call (.Name "any" p) [.GeneratorExp elt [⟨.Name x px, iter, [], 0⟩] scope gpos] [] pos) := by
  intro s σ F H Q q pp
  have hsi := hi s σ F H (fun J H1 => ∃ ds s1 F1 Gd, Go G.T s σ F H s1 σ F1 H1 ∧ Rel G.K G.T s1 σ F1 H1 ∧ ItOk G.K G.T J F1 ds Gd ∧ Stable G.K G.T s1 σ F1 H1 Gd ∧
      PR G EX s σ F H ((genL false i (fun s => tst (e s)) ds s1).bind fun b s' => .ok (.dat (.bool b)) (s'.set i (s1.getD i .un))) (KV G s σ H Q)) q (by
    unfold genR at pp
    refine pp.bindB.imp fun xs s1 F' H1 _ _ k1 J F1 Gd g1 r1 it st => ?_
    obtain ⟨ds, o⟩ := xs
    cases o with
    | some j => exact k1.elim
    | none => exact ⟨ds, s1, F1, Gd, g1, r1, it, st, k1⟩)
  intro pins st I
  refine wpAny_Call_Name_kw (ld_blt I b.gl b.mg PyProof.Rows.boot_any ?_)
  refine PyProof.Rows.callWith_builtin1 ?_ (by rfl) (by rfl)
  show wpAny _ _ (spliced ((false, eval (.GeneratorExp elt [⟨.Name x px, iter, [], 0⟩] scope gpos) X.env) :: backTo pos (starEach [] X.env))) _ _ st
  refine Calls.spliced_cons (wpAny_GeneratorExp_make L.co (closure_ok (L.has I.ok)) L.cell L.dot L.kind hr.depth (thn (hsi pins st I) fun xv s1' hxv => thn hxv fun itv s2 h2 => ?_) hs)
  obtain ⟨it, fp, tn, J, H1, ei, I1, T, st2, f2, ds, s1, F1, Gd, g1, r1, itk, stb, k1⟩ := h2
  subst ei
  refine ⟨I1.nolimit, ?_⟩
  -- the table
  obtain ⟨hF1P, hTab⟩ := r1.tab _ tb.mem
  obtain ⟨ps, hP, htr, hcs⟩ := hTab
  have hP : H1 P = some (.tbl ps) := hP
  have hinP : inT G.T P := ⟨_, tb.mem, rfl⟩
  have hPs : s2.heap.get? P = some { cls := .none, data := .fields ps } := I1.hok P _ hP
  have cd : PySem.W.CodeHd s2.heap c P := tb.tb.code.keeps fun b u e => I1.bk b u e
  have fpl : ∀ b ∈ fp, b < s2.heap.objs.size := fun b hb => by
    obtain ⟨o, eo, _⟩ := T.obj _ _ st2 b hb
    exact Heap.lt_size eo
  have cont : ∀ (code : Value) (h3 : Heap) (tk : Nat) (H2 : Hp), Heap.ExtBut P s2.heap h3 → s2.heap.objs.size ≤ h3.objs.size → Inv X pins σ H2 { s2 with heap := h3, toks := tk } → Rel G.K G.T s1 σ F1 H2 → Go G.T s σ F H s1 σ F1 H2 → (∀ b, H1 b = none → b < s2.heap.objs.size → H2 b = none) → (∀ a o, H1 a = some o → a ≠ P → H2 a = some o) →
      wpAny (model X.prog X.w) X.A (builtinsFor X.env.globals X.env.builtins) (fun bi s₄ =>
        ∀ h', h'.Ns s₄.heap.objs.size (fun y => if y = ".0" then some (.ref it) else none) → Heap.SameBut s₄.heap.objs.size (s₄.heap.push { cls := .type "frame", data := .dict #[] }) h' →
          wpAny (model X.prog X.w) X.A (spliced (backTo pos (starEach [] X.env))) (fun vs s => wpAny (model X.prog X.w) X.A (PySem.call (.builtin "any") (.ref h'.objs.size :: vs)) (EP X pins σ Q) X.xe s) X.xe { s₄ with
            gens := s₄.gens.push (.fresh (.compStart (.GeneratorExp elt [⟨.Name x px, iter, [], 0⟩] scope gpos) 0 (.ref it) .none (genEnv scope (cloFrom X.env.cells scope.names []) s₄.heap.objs.size code bi X.env))),
            toks := s₄.toks + 1 + 1 + 1,
            heap := h'.push { cls := .type "generator", data := .fields #[.int s₄.gens.size 0, .str "<genexpr>" (s₄.toks + 1), .str (X.env.qual ++ "<genexpr>") (s₄.toks + 1 + 1)] } }) X.xe { s2 with heap := h3, toks := tk } := by
    intro code h3 tk H2 hx3 hsz I3 r2 g2 hnone hkeep
    obtain ⟨bm, ob, e1, e2, e3, e4, e5, e6, e7, e8⟩ := tb.tb.bm
    have keep3 : ∀ b u, b ≠ P → s2.heap.get? b = some u → h3.get? b = some u := fun b u hb e => hx3 b u hb e
    refine wpAny_builtinsFor (m := X.mg) (by rw [I1.ok.glob]; exact (I1.mod.glob.keeps I1.bk).extBut hx3 tb.tb.gP) e1 e2 (keep3 _ _ e4 (I1.bk _ _ e5)) e6 e7 e8 ?_
    intro h' hns hsb
    -- the state ahead of the frame
    have fp2 : ∀ b ∈ fp, FpOk X pins H2 b ∧ b < h3.objs.size := fun b hb => by
      have hlt := fpl b hb
      refine ⟨⟨?_, (f2 b hb).2⟩, Nat.lt_of_lt_of_le hlt hsz⟩
      exact hnone b (f2 b hb).1 hlt
    have st3 : tn 0 h3 := T.keep _ _ _ st2 fun b hb o eo => keep3 b o (fun z => by
      have := (f2 b hb).1
      rw [z, hP] at this; cases this) eo
    -- the frame, the generator
    show wpAny _ _ (spliced []) _ _ _
    refine Calls.spliced_nil ?_
    have kp' : ∀ b o, h3.get? b = some o → h'.get? b = some o := fun b o eo => hsb.extBut b o (Nat.ne_of_lt (Heap.lt_size eo)) (Heap.get?_push_of_some _ eo)
    have kp6 : ∀ b o, h3.get? b = some o → (h'.push { cls := .type "generator", data := .fields #[.int s2.gens.size 0, .str "<genexpr>" (tk + 1), .str (X.env.qual ++ "<genexpr>") (tk + 1 + 1)] }).get? b = some o := fun b o eo => Heap.get?_push_of_some _ (kp' b o eo)
    have hCa : h3.objs.size < h'.objs.size := hns.lt
    let par : GPar := { s4 := { s2 with heap := h3, toks := tk }, H4 := H2, cenv := gEnv X scope h3.objs.size code, fp := fp, Bd := X.A.in1.in1, pn := [(h'.objs.size, { cls := .type "generator", data := .fields #[.int s2.gens.size 0, .str "<genexpr>" (tk + 1), .str (X.env.qual ++ "<genexpr>") (tk + 1 + 1)] })], i := i, σB := σ.set i none, B0 := wipe [i] s1, F1 := F1, ds := ds, al := false, bF := false, sF := [] }
    cases hgl : genL false i (fun s => tst (e s)) ds s1 with
    | exc nm s9 => exact absurd hgl (genL_ne _ _ _ _ _ _ _)
    | stuck => rw [hgl] at k1; exact k1.elim
    | ok bF sF =>
      rw [hgl] at k1
      have I6 := gen_start (pn := par.pn) (x := x) (it := .ref it) (code := code) (h' := h'.push { cls := .type "generator", data := .fields #[.int s2.gens.size 0, .str "<genexpr>" (tk + 1), .str (X.env.qual ++ "<genexpr>") (tk + 1 + 1)] }) (g' := s2.gens.push (.fresh (.compStart (.GeneratorExp elt [⟨.Name x px, iter, [], 0⟩] scope gpos) 0 (.ref it) .none (genEnv scope (cloFrom X.env.cells scope.names []) h3.objs.size code builtinsNs X.env)))) (tk := tk + 1 + 1 + 1) I3 L hN hx
        (show X.A.in1.in1.frames = some X.stack from I.ok.frames) (show X.A.in1.in1.handled = none from hr.hd) fp2 (hns.keeps fun b o eo => Heap.get?_push_of_some _ eo) kp6 (AllBare.push I3.bare rfl) (fun q hq => by
          have hq : q = _ := List.mem_singleton.mp hq
          subst hq
          exact ⟨Heap.get?_push_size _ rfl, hCa, fun v z => by cases z⟩)
      have outσ : ∀ j, j ∉ [i] → (σ.set i none)[j]? = σ[j]? := fun j hj => List.getElem?_set_ne fun z => hj (by rw [← z]; exact List.mem_singleton.mpr rfl)
      have rB : Rel G.K G.T (wipe [i] s1) (σ.set i none) F1 H2 := r2.wipeB [i] outσ (by simp)
      have ownS : ∀ l, Fs.own (wipe [i] s1) (σ.set i none) l → Fs.own s1 σ l := fun l ⟨j, b, d, e1, e2⟩ => by
        obtain ⟨h1, h2⟩ := wipe_slot e1 (by intro z; cases z)
        exact ⟨j, b, d, h2, by rw [← outσ j h1]; exact e2⟩
      have hGd : ∀ s3 σ3 F3 H3, Go G.T (wipe [i] s1) (σ.set i none) F1 H2 s3 σ3 F3 H3 → Rel G.K G.T s3 σ3 F3 H3 → Gd H3 := fun s3 σ3 F3 H3 gg rr => stb F3 H3 gg.ext rr.sub fun a o h n t => gg.keep a o (by
        have ha : a ≠ P := fun z => t (by rw [z]; exact hinP)
        exact hkeep a o h ha) (fun z => n (ownS a z)) t
      have loop := seg_gen (G := G) (X := X) (p := { par with bF := bF, sF := sF }) (tn := tn) (e := e) (iter := iter) (px := px) (pos := gpos) (scope := scope) T itk hGd (he _ _ _ _ _ _ _ (((show Room (lv + 3) X.A from hr).in1.in1).deeper _)) hN hx L.loc L.co (fun d z => (wipe_slot z (by intro y; cases y)).1 (List.mem_singleton.mpr rfl))
        (fun b hb q hq => by
          have hq : q = _ := List.mem_singleton.mp hq
          subst hq
          exact Nat.ne_of_gt (Nat.lt_trans (fp2 b hb).2 hCa)) (fun v z => by
          by_cases hj : i < σ.length
          · have z : (σ.set i none)[i]? = some (some v) := z
            rw [List.getElem?_set_self hj] at z; cases z
          · have z : (σ.set i none)[i]? = some (some v) := z
            rw [List.getElem?_eq_none (by simpa using hj)] at z; cases z)
      have st6 : ∀ s' : Shared, s'.heap = (h'.push { cls := .type "generator", data := .fields #[.int s2.gens.size 0, .str "<genexpr>" (tk + 1), .str (X.env.qual ++ "<genexpr>") (tk + 1 + 1)] }) → s'.os = s2.os → AllBare s'.gens → GST G X { par with bF := bF, sF := sF } tn 0 s1 s' := fun s' a1 a2 a3 =>
        GST.wake (p := { par with bF := bF, sF := sF }) (s := { s2 with heap := h'.push { cls := .type "generator", data := .fields #[.int s2.gens.size 0, .str "<genexpr>" (tk + 1), .str (X.env.qual ++ "<genexpr>") (tk + 1 + 1)] }, gens := s2.gens.push (.fresh (.compStart (.GeneratorExp elt [⟨.Name x px, iter, [], 0⟩] scope gpos) 0 (.ref it) .none (genEnv scope (cloFrom X.env.cells scope.names []) h3.objs.size code builtinsNs X.env))), toks := tk + 1 + 1 + 1 })
          ⟨H2, F1, I6, T.keep _ _ _ st3 fun b hb o eo => kp6 b o eo, fun b hb => (fp2 b hb).1.1, Go.refl, rB⟩ a1 a2 a3
      refine call_function_tree PySem.F.kind_any PySem.F.plain_any PySem.F.entry_any (PySem.F.args_any1 _) ?_
      unfold Builtin.«any»
      refine wpAny_bind (m := oneArg "any" _) (wpAny_pure ?_)
      refine wpAny_bind (wpAny_pyIter_gen (g := s2.gens.size) ⟨_, _, _, Heap.get?_push_size _ rfl, rfl, rfl, rfl⟩ ?_)
      refine wpAny_pure ⟨plainId_quiet PySem.F.plain_any_loop _, loop_any (G := G) (X := X) (p := { par with bF := bF, sF := sF }) (tn := tn) (e := fun s => tst (e s)) (g := s2.gens.size) rfl rfl hr.hd hr.depth (List.mem_singleton.mpr rfl) (fun h hh => ⟨_, _, _, hh, rfl, rfl, rfl⟩) (fun s' hfin => ?_) _ 0 s1 _ rfl (Nat.zero_le _) (Heap.get?_push_size _ rfl) ?_ ⟨_, Array.getElem?_push_size, ?_⟩⟩
      · obtain ⟨Hf, Ff, If, gf, rf⟩ := hfin
        have Ib : Inv X pins σ Hf s' := gen_back (scope := scope) (code := code) I3 (fun b hb => (fp2 b hb).1) If
        obtain ⟨gR, rR⟩ := restore (I := [i]) r2 gf rf outσ (by simp [par])
        have eU : unwipe [i] s1 (wipe [i] sF) = sF.set i (s1.getD i .un) := by
          show ((sF.set i .un).set i (s1.getD i .un)) = _
          rw [List.set_set]
        rw [eU] at gR rR
        exact ⟨.bl bF, Hf, Ib, rfl, (k1.ok (g2.trans gR) rR) _ (.bl _) trivial⟩
      · exact I6.nolimit
      · refine ⟨rfl, seg_start (loop (ds.length - 0) 0 s1 _ _ rfl (Nat.zero_le _) (st6 _ rfl rfl ?_) (by rw [List.drop_zero]; exact hgl)) fun A' Q' E' hq => T.self A' 0 _ Q' E' ?_ hq⟩
        · exact allBare_setGen (AllBare.push I3.bare rfl) rfl
        · exact T.keep _ _ _ st3 fun b hb o eo => kp6 b o eo
  cases hf : codeAmong gpos ps.toList with
  | none =>
    refine wpAny_genexprCodeX tb.code (cd.code hPs htr) (cd.tab hPs) hf fun c' h3 tk hx3 hge hlt hco' hrec htab' _ => ?_
    have hcN : H1 c' = none := I1.hok.fresh hge
    have kp3 : ∀ b o, b ≠ P → s2.heap.get? b = some o → h3.get? b = some o := fun b u hb e => hx3 b u hb e
    have hrec : ∃ oc vs t, h3.get? c' = some oc ∧ oc.data = .fields vs ∧ vs[1]? = some (.str (X.env.qual ++ "<genexpr>") t) := by
      obtain ⟨c2, oc, vs, t, e2, hoc, hd, hv⟩ := hrec
      cases e2
      exact ⟨oc, vs, t, hoc, hd, hv⟩
    exact cont _ h3 tk _ hx3 (Nat.le_trans hge (Nat.le_of_lt hlt)) (LamX.inv_table I1 hP kp3 htab'.2 hge hrec) (r1.tabUp hP hF1P hinP tb.one hcN htr) (g1.tabUp hinP hcN)
      (fun b e hb => by rw [upd_ne (fun z => Nat.lt_irrefl _ (Nat.lt_of_lt_of_le (by rw [← z]; exact hb) hge)), upd_ne (fun z => by rw [z, hP] at e; cases e)]; exact e)
      (fun a o e ha => by rw [upd_ne (ne_of_none e hcN), upd_ne ha]; exact e)
  | some cv =>
    refine wpAny_genexprCode_hit tb.code (cd.code hPs htr) hf ?_
    exact cont cv s2.heap s2.toks H1 (Heap.ExtBut.refl _ _) (Nat.le_refl _) I1 r1 g1 (fun _ e _ => e) fun _ _ e _ => e
end
end Fs
set_option Elab.async false
set_option linter.all false
set_option maxRecDepth 100000
set_option maxHeartbeats 2000000
namespace Fs
open PySem PySem.Spec PyProof.Rows L2

/-! ### statements -/
section
variable (G : Gl0) (EX : XK) (X : Cx)
def PO (s : S) (σ : L2.St) (F H : Hp) (o : O) (D : Ends) : Prop := match o with
  | .nx s' => ∀ σ' F' H', Go G.T s σ F H s' σ' F' H' → Rel G.K G.T s' σ' F' H' → D.nx σ' H'
  | .rt v s' => ∀ w σ' F' H', Go G.T s σ F H s' σ' F' H' → Rel G.K G.T s' σ' F' H' → VRel G.K G.T s' σ' F' H' w v → VNew s σ H w v → D.rt w H'
  | .bk s' => ∀ σ' F' H', Go G.T s σ F H s' σ' F' H' → Rel G.K G.T s' σ' F' H' → D.bk σ' H'
  | .xc nm s' => ∀ x d σ' F' H', nm = .str x → Go G.T s σ F H s' σ' F' H' → Rel G.K G.T s' σ' F' H' → H' d = some (.xd [("name", .str x)]) → H d = none → EX (.ref G.C) (some d) H'
  | .stuck => False
def HS (r : S → O) (st : Stmt) : Prop := ∀ s σ F H D, Rel G.K G.T s σ F H → PO G EX s σ F H (r s) D → SS X st D σ H
def HSs (r : S → O) (st : List Stmt) : Prop := ∀ s σ F H D, Rel G.K G.T s σ F H → PO G EX s σ F H (r s) D → SSs X st D σ H
end
section
variable {G : Gl0} {EX : XK} {X : Cx} {s s1 : S} {σ σ1 : L2.St} {F H F1 H1 : Hp} {f : E → S → R Vl} {pos p : Pos} {Dn : Ends}
theorem PO.go {o : O} (g : Go G.T s σ F H s1 σ1 F1 H1) (h : PO G EX s σ F H o Dn) : PO G EX s1 σ1 F1 H1 o Dn := by
  cases o with
  | nx s' => exact fun σ' F' H' g' r => h σ' F' H' (g.trans g') r
  | rt v s' => exact fun w σ' F' H' g' r a b => h w σ' F' H' (g.trans g') r a (g.vback b)
  | bk s' => exact fun σ' F' H' g' r => h σ' F' H' (g.trans g') r
  | xc nm s' => exact fun x d σ' F' H' e g' r hd hn => h x d σ' F' H' e (g.trans g') r hd (by
      cases z : H d with
      | none => rfl
      | some o => exact absurd hn (g.alive d (by rw [z]; simp)))
  | stuck => exact h
theorem PO.of {α : Type} {r : R α} {k : α → S → O} (h : PO G EX s σ F H (O.of r k) Dn) : PR G EX s σ F H r fun a s' _ _ => PO G EX s σ F H (k a s') Dn := by
  cases r with
  | ok a s' => exact fun _ _ _ _ => h
  | exc nm s' => exact fun x d F' H' e g r hd hn => h x d σ F' H' e g r hd hn
  | stuck => exact h
theorem hss_nil : HSs G EX X (fun s => .nx s) [] := fun s σ F H D q p => SSs.of pss_nil (p σ F H Go.refl q)
theorem hss_one {r : S → O} {st : Stmt} (h : HS G EX X r st) : HSs G EX X r [st] := fun s σ F H D q p => SSs.of (pss_one ps_SS) (h s σ F H D q p)
theorem hss_cons {g : St → S → O} {t : St} {ts : List St} {st : Stmt} {sts : List Stmt} (h1 : HS G EX X (g t) st) (h2 : HSs G EX X (exs g ts) sts) : HSs G EX X (exs g (t :: ts)) (st :: sts) := by
  intro s σ F H D q p
  refine SSs.of (pss_cons ps_SS pss_SS) (h1 s σ F H _ q ?_)
  have e : exs g (t :: ts) s = (match g t s with
    | .nx s => exs g ts s
    | o => o) := rfl
  rw [e] at p
  cases hg : g t s with
  | nx s' =>
    rw [hg] at p
    exact fun σ' F' H' g' r => h2 s' σ' F' H' D r (p.go g')
  | rt v s' => rw [hg] at p; exact p
  | bk s' => rw [hg] at p; exact p
  | xc nm s' => rw [hg] at p; exact p
  | stuck => rw [hg] at p; exact p
/-- slots given up: nothing is done -/
theorem Go.wipeF {T : List Tb} : ∀ {is : List Nat} {s : S}, is.all (free s) = true → Go T s σ F H (wipe is s) σ F H
  | [], s, _ => Go.refl
  | i :: is, s, h => by
    rw [List.all_cons, Bool.and_eq_true] at h
    have e : wipe (i :: is) s = wipe is (s.set i .un) := rfl
    rw [e]
    refine (Go.unset (i := i) (free_nb h.1).1).trans (Go.wipeF ?_)
    rw [List.all_eq_true] at h ⊢
    intro j hj
    have hf := h.2 j hj
    unfold free at hf ⊢
    by_cases hji : i = j
    · subst hji
      rw [List.getElem?_set_self (free_nb h.1).2]
    · rw [List.getElem?_set_ne hji]; exact hf
theorem hss_kill {g : St → S → O} {is : List Nat} {ts : List St} {sts : List Stmt} (hg : ∀ s, g (.kill is) s = if is.all (free s) then .nx (wipe is s) else .stuck) (h2 : HSs G EX X (exs g ts) sts) : HSs G EX X (exs g (.kill is :: ts)) sts := by
  intro s σ F H D q p
  have e : exs g (.kill is :: ts) s = (match g (.kill is) s with
    | .nx s => exs g ts s
    | o => o) := rfl
  rw [e, hg] at p
  by_cases hk : is.all (free s) = true
  · rw [if_pos hk] at p
    exact h2 _ σ F H D (q.wipeB is (fun _ _ => rfl) rfl) (p.go (Go.wipeF hk))
  · rw [if_neg hk] at p; exact p.elim
/-! ### assignments -/
def isComp : Expr → Bool
  | .ListComp .. => true | .SetComp .. => true | .DictComp .. => true
  | _ => false
theorem swaps_plain {e : Expr} (h : isComp e = false) (t : Option Expr) (l : Nat) (env : Env) : swapsWith e t l env = pure false := by
  cases e <;> first | rfl | simp [isComp] at h
theorem hs_set {e : Expr} {r : S → R Vl} {i : Nat} {x : Str} {p' : Pos} (hN : X.N.Nodup) (t : TgOk X i x) (h : HR G EX X r e) (hs : swapsWith e (some (.Name x p')) pos.line X.env = pure false) :
    HS G EX X (fun s => O.of (r s) fun v s => if free s i then .nx (s.set i v.sl) else .stuck) (.Assign [.Name x p'] e pos) := by
  intro s σ F H D q p
  refine SS.of (ps_set hN t.at_ t.loc pe_SE hs t.fn) (h s σ F H _ q (p.of.imp fun v s1 F1 H1 g1 r1 k1 w hw hn => ?_))
  by_cases hf : free s1 i = true
  · rw [if_pos hf] at k1
    exact k1 _ F1 H1 (g1.setV hn (free_nb hf).1) (r1.setV hw i)
  · rw [if_neg hf] at k1; exact k1.elim
/-- name = [..] that stores exchanged -/
theorem hs_setLc {r : S → R (List D × Option Nat)} {c : S → R Bool} {e : S → R Vl} {tg : List Nat} {one : Bool} {own : List Nat} {ownN : List (Str × Nat)} {elt tgE iter : Expr} {ifs : List Expr} {scope : Scope} {g : TG} {i : Nat} {y : Str} {py spos : Pos}
    (hc : X.calm = true) (hN : X.N.Nodup) (hi : HI G EX X r tgE iter) (ok : BlkOk X.N X.env.scope scope ownN) (ho : ownN.map (·.2) = own) (htg : ∀ i ∈ tg, i ∈ own)
    (hg : HGl G tg one g) (hpg : AllB X scope fun Y => PG Y tgE g) (ht : AllB X scope fun Y => HTs G EX0 Y c ifs) (hl : ifs.length ≤ 1) (he : AllB X scope fun Y => HR G EX0 Y e elt) (hs : ∀ x, foldedSetIterable iter X.env x = pure x)
    (hy : X.N[i]? = some y) (hyl : X.env.scope.names.lookup y = some .local) (hsw : swapsWith (.ListComp elt [⟨tgE, iter, ifs, 0⟩] scope pos) (some (.Name y py)) spos.line X.env = pure true) :
    HS G EX X (fun s => O.of ((r s).bind fun xs s => compR tg one c (fun s => (e s).bind fun v s => .ok v.d s) own xs s) fun v s => if free s i then .nx (s.set i v.sl) else .stuck) (.Assign [.Name y py] (.ListComp elt [⟨tgE, iter, ifs, 0⟩] scope pos) spos) := by
  intro s σ F H D q p
  refine SS.of (ps_setLc hc hN hy hyl hsw pi_SI ok hpg (pts_uT hl) pe_uE hs) ?_
  have := hr_comp (Q := fun w H' => gName i w σ H' D.nx) hc hN hi ok ho htg hg ht hl he hs s F q (p.of.imp fun v s1 F1 H1 g1 r1 k1 w hw hn => by
    by_cases hf : free s1 i = true
    · rw [if_pos hf] at k1
      exact k1 _ F1 H1 (g1.setV hn (free_nb hf).1) (r1.setV hw i)
    · rw [if_neg hf] at k1; exact k1.elim)
  exact this
theorem hs_setLcF {r : S → R (List D × Option Nat)} {c : S → R Bool} {e : S → R Vl} {tg : List Nat} {one : Bool} {own : List Nat} {ownN : List (Str × Nat)} {elt tgE iter : Expr} {ifs : List Expr} {scope : Scope} {g : TG} {i : Nat} {y : Str} {py spos : Pos}
    (hc : X.calm = true) (hN : X.N.Nodup) (hi : HI G EX X r tgE iter) (ok : BlkOk X.N X.env.scope scope ownN) (ho : ownN.map (·.2) = own) (htg : ∀ i ∈ tg, i ∈ own)
    (hg : HGl G tg one g) (hpg : AllB X scope fun Y => PG Y tgE g) (ht : AllB X scope fun Y => HTs G EX0 Y c ifs) (hl : ifs.length ≤ 1) (he : AllB X scope fun Y => HR G EX0 Y e elt) (hs : ∀ x, foldedSetIterable iter X.env x = pure x)
    (hy : X.N[i]? = some y) (hyl : X.env.scope.names.lookup y = some .local) (hsw : swapsWith (.ListComp elt [⟨tgE, iter, ifs, 0⟩] scope pos) (some (.Name y py)) spos.line X.env = pure true) :
    HS G EX X (fun s => O.of (((r s).bind fun xs s => compR tg one c (fun s => (e s).bind fun v s => .ok v.d s) own xs s).bind fun v s => R.ok (Vl.dat v.d) s) fun v s => if free s i then .nx (s.set i v.sl) else .stuck) (.Assign [.Name y py] (.ListComp elt [⟨tgE, iter, ifs, 0⟩] scope pos) spos) := by
  intro s σ F H D q p
  refine SS.of (ps_setLc hc hN hy hyl hsw pi_SI ok hpg (pts_uT hl) pe_uE hs) ?_
  have := hr_comp (Q := fun w H' => gName i w σ H' D.nx) hc hN hi ok ho htg hg ht hl he hs s F q (p.of.bindB.imp fun v s1 F1 H1 g1 r1 k1 w hw hn => by
    obtain ⟨F2, g2, r2, hp, _⟩ := settle g1 r1 hw hn
    have k2 := k1.ok g2 r2
    by_cases hf : free s1 i = true
    · rw [if_pos hf] at k2
      exact k2 _ F2 H1 (g2.setV (v := .dat v.d) trivial (free_nb hf).1) (r2.setV (v := .dat v.d) hp i)
    · rw [if_neg hf] at k2; exact k2.elim)
  exact this
/-! ### small ones -/
theorem hs_eff {e : Expr} {r : S → R Vl} (h : HR G EX X r e) (hs : isComp e = false) : HS G EX X (fun s => O.of (r s) fun _ s => .nx s) (.Expr e pos) := by
  intro s σ F H D q p
  exact SS.of (ps_expr pe_SE (swaps_plain hs _ _ _)) (h s σ F H _ q (p.of.imp fun v s1 F1 H1 g1 r1 k1 w hw hn => k1 σ F1 H1 g1 r1))
theorem hs_ret {e : Expr} {r : S → R Vl} (h : HR G EX X r e) : HS G EX X (fun s => O.of (r s) .rt) (.Return (some e) pos) := by
  intro s σ F H D q p
  exact SS.of (ps_ret pe_SE) (h s σ F H _ q (p.of.imp fun v s1 F1 H1 g1 r1 k1 w hw hn => k1 w σ F1 H1 g1 r1 hw hn))
theorem hs_retN : HS G EX X (fun s => .rt (.dat .none) s) (.Return none pos) := by
  intro s σ F H D q p
  exact SS.of ps_retN (p _ σ F H Go.refl q .non trivial)
theorem hs_brk : HS G EX X (fun s => .bk s) (.Break pos) := by
  intro s σ F H D q p
  exact SS.of ps_break (p σ F H Go.refl q)
theorem hs_iff {c : Expr} {a b : List Stmt} {r : S → R Bool} {ra rb : S → O} (hc : HT G EX X r c) (ha : HSs G EX X ra a) (hb : HSs G EX X rb b) : HS G EX X (fun s => O.of (r s) fun k s => (match k with
      | true => ra s
      | false => rb s)) (.If c a b pos) := by
  intro s σ F H D q p
  refine SS.of (ps_if pt_ST pss_SS pss_SS) (hc s σ F H _ q (p.of.imp fun k s1 F1 H1 g1 r1 k1 => ?_))
  cases k with
  | true => rw [if_pos rfl]; exact ha s1 σ F1 H1 D r1 (k1.go g1)
  | false => rw [if_neg Bool.false_ne_true]; exact hb s1 σ F1 H1 D r1 (k1.go g1)
/-! ### a list that is written -/
theorem Rel.setMuG {K : PySem.W.Frag} {T : List Tb} (r : Rel K T s σ F H) {i : Nat} {b : Bool} {d : D} {l : Addr} {d' : D} {o : HO} (e : s[i]? = some (.mu b d)) (e2 : σ[i]? = some (some (.ref l))) (h : MuRel K F (upd H l o) l d') :
    Rel K T (s.set i (.mu b d')) σ F (upd H l o) := by
  obtain ⟨l', z1, z2, z3, z4⟩ := r.mu i b d e
  rw [e2] at z1; cases z1
  refine ⟨by rw [List.length_set]; exact r.len, fun j d' e' => ?_, fun j b' d' e' => ?_, fun j ns e' => ?_, fun j k b1 d1 c1 e1 m x1 x2 x3 x4 => ?_, fun a u e' => ?_, fun p hp => ?_⟩
  · rcases get_set e' with ⟨_, z⟩ | ⟨_, z⟩
    · cases z
    · exact r.dat j d' z
  · rcases get_set e' with ⟨rfl, z⟩ | ⟨hj, z⟩
    · cases z
      exact ⟨l, e2, z2, z3, h⟩
    · obtain ⟨m, y1, y2, y3, y4⟩ := r.mu j b' d' z
      have hm : m ≠ l := fun z5 => hj (r.apart j i b' d' b d l z e (by rw [← z5]; exact y1) e2)
      exact ⟨m, y1, y2, y3, y4.mono (Sub.refl F) fun u q => by rw [upd_ne hm]; exact q⟩
  · rcases get_set e' with ⟨_, z⟩ | ⟨_, z⟩
    · cases z
    · exact r.scr j ns z
  · have back : ∀ (j : Nat) (b' : Bool) (dd : D), (s.set i (.mu b d'))[j]? = some (.mu b' dd) → ∃ d0, s[j]? = some (.mu b' d0) := fun j b' dd e' => by
      rcases get_set e' with ⟨rfl, z⟩ | ⟨_, z⟩
      · cases z; exact ⟨d, e⟩
      · exact ⟨dd, z⟩
    obtain ⟨d2, y1⟩ := back j b1 d1 x1
    obtain ⟨d3, y2⟩ := back k c1 e1 x2
    exact r.apart j k b1 d2 c1 d3 m y1 y2 x3 x4
  · have ha : a ≠ l := fun z => by rw [z, z2] at e'; cases e'
    rw [upd_ne ha]; exact r.sub a u e'
  · obtain ⟨h1, h2⟩ := r.tab p hp
    exact ⟨h1, h2.updW (.inr z4.wr)⟩
theorem Rel.setMu {K : PySem.W.Frag} {T : List Tb} (r : Rel K T s σ F H) {i : Nat} {b : Bool} {d : D} {l : Addr} {ds : List D} {vs : List V} (e : s[i]? = some (.mu b d)) (e2 : σ[i]? = some (some (.ref l))) (h : RpAll K F vs ds) :
    Rel K T (s.set i (.mu b (.list ds))) σ F (upd H l (.lst vs)) := r.setMuG e e2 ⟨vs, upd_same, h⟩
theorem Go.setMu {T : List Tb} {s0 : S} {σ0 : L2.St} {F0 H0 : Hp} (g : Go T s0 σ0 F0 H0 s σ F H) {i : Nat} {b : Bool} {d d' : D} {l : Addr} {o : L2.HO} (e : s[i]? = some (.mu b d)) (e2 : σ[i]? = some (some (.ref l))) : Go T s0 σ0 F0 H0 (s.set i (.mu b d')) σ F (upd H l o) := by
  have hown := g.own l ⟨i, b, d, e, e2⟩
  refine ⟨g.ext, g.new, fun a u h n t => ?_, fun a h => ?_, fun a ⟨j, c, e1, x1, x2⟩ => ?_, fun j d1 h => ?_⟩
  · have ha : a ≠ l := fun z => by
      subst z
      rcases hown with z | z
      · exact n z
      · rw [h] at z; cases z
    rw [upd_ne ha]; exact g.keep a u h n t
  · by_cases ha : a = l
    · rw [ha, upd_same]; simp
    · rw [upd_ne ha]; exact g.alive a h
  · rcases get_set x1 with ⟨rfl, z⟩ | ⟨_, z⟩
    · cases z; exact g.own a ⟨j, b, d, e, x2⟩
    · exact g.own a ⟨j, c, e1, z, x2⟩
  · obtain ⟨⟨d2, e'⟩, z⟩ := g.bor j d1 h
    refine ⟨?_, z⟩
    by_cases hj : i = j
    · subst hj
      rw [e] at e'; cases e'
      exact ⟨d', by rw [List.getElem?_set_self (List.getElem?_eq_some_iff.mp e).1]⟩
    · exact ⟨d2, by rw [List.getElem?_set_ne hj]; exact e'⟩
end
end Fs
set_option Elab.async false
set_option linter.all false
set_option maxRecDepth 100000
set_option maxHeartbeats 2000000
namespace Fs
open PySem PySem.Spec PyProof.Rows L2
section
variable {G : Gl0} {EX : XK} {X : Cx} {s s1 : S} {σ σ1 : L2.St} {F H F1 H1 : Hp} {f : E → S → R Vl} {pos p cpos apos tpos : Pos} {Dn : Ends}
theorem isMuL_some {i : Nat} (h : isMuL s i = true) : ∃ b xs, s[i]? = some (.mu b (.list xs)) := by
  unfold isMuL at h
  split at h
  · exact ⟨_, _, ‹_›⟩
  · cases h
theorem Rel.muL (q : Rel G.K G.T s σ F H) {i : Nat} {b : Bool} {xs : List D} (e : s[i]? = some (.mu b (.list xs))) : ∃ l vs, σ[i]? = some (some (.ref l)) ∧ H l = some (.lst vs) ∧ RpAll G.K F vs xs := by
  obtain ⟨l, h1, _, _, vs, h2, h3⟩ := q.mu i b _ e
  exact ⟨l, vs, h1, h2, h3⟩
theorem back_attr {x : Str} {nm : Str} (env : Env) : attributeBase (.Name x p) nm env (eval (.Name x p) env) = eval (.Name x p) env := by rfl
theorem few_one {e : Expr} (h : isStar e = false) (env : Env) : ((backTo cpos (starEach [e] env)).all (fun x => !x.1) && (backToKw cpos (keywordEach [] env)).all (fun x => x.1.isSome)
      && decide ([e].length + ([] : List Keyword).length + (if ([] : List Keyword).isEmpty then 0 else 1) < 30)) = true := by
  rw [starEach_cons h]; rfl
theorem hs_app {e : Expr} {r : S → R Vl} {i : Nat} {x : Str} (hK : X.K = G.K) (n : NmOk X i x) (h : HR G EX X r e) (hst : isStar e = false) (hline : (apos.endLine == cpos.line) = true) :
    HS G EX X (fun s => if isMuL s i then O.of (r s) fun v s => (match s[i]? with
      | some (.mu b (.list xs)) => if xs.length < lim then .nx (s.set i (.mu b (.list (xs ++ [v.d])))) else .stuck
      | _ => .stuck) else .stuck) (.Expr (.Call (.Attribute (.Name x p) "append" apos) [e] [] cpos) pos) := by
  intro s σ F H Dn q pp
  dsimp only at pp
  split at pp
  case isFalse => exact pp.elim
  rename_i hm
  obtain ⟨b0, xs0, e0⟩ := isMuL_some hm
  obtain ⟨l, vs0, h1, h2, h3⟩ := q.muL e0
  have pe : PE X (.Call (.Attribute (.Name x p) "append" apos) [e] [] cpos) (tBM X.K "list" rAppend (tVar i) (SA X [e])) :=
    pe_bm PySem.F.plainAttrs_list PySem.F.slot_list_append PySem.F.type_list_append (show MtR X "list.append" rAppend from mt_append) (pe_var n.at_ n.vis n.d n.c) pa_SA (back_attr _) (few_one hst _) hline (starEach_cons hst _) rfl
  refine SS.of (ps_expr pe (swaps_plain rfl _ _ _)) ⟨_, h1, .inl ⟨rfl, vs0, .inl (.inl h2)⟩, ?_⟩
  refine SA.of (pa_cons pe_SE pa_nil (starEach_cons hst _)) (h s σ F H _ q (pp.of.imp fun v s1 F1 H1 g1 r1 k1 w hw hn => ?_))
  split at k1
  · rename_i b xs e1
    split at k1
    · rename_i hl
      obtain ⟨F2, g2, r2, hp, _⟩ := settle g1 r1 hw hn
      obtain ⟨l', vs, h4, h5, h6⟩ := r2.muL e1
      rw [h1] at h4; cases h4
      refine ⟨l, vs, w, rfl, rfl, h5, by rw [h6.length, ← lim_eq]; exact hl, ?_⟩
      exact k1 σ F2 _ (g2.setMu e1 h1) (r2.setMu e1 h1 (h6.append (.cons hp .nil)))
    · exact k1.elim
  · exact k1.elim
theorem hs_ext {a : E} {e : Expr} {i : Nat} {x : Str} (hK : X.K = G.K) (n : NmOk X i x) (h : HP G EX X (opd f a) e) (hst : isStar e = false) (hline : (apos.endLine == cpos.line) = true) :
    HS G EX X (fun s => if isMuL s i then O.of (opds f [a] s) fun os s => (match s[i]?, looks s os with
      | some (.mu b (.list xs)), some [.list ys] => if xs.length + ys.length ≤ lim then .nx (s.set i (.mu b (.list (xs ++ ys)))) else .stuck
      | _, _ => .stuck) else .stuck) (.Expr (.Call (.Attribute (.Name x p) "extend" apos) [e] [] cpos) pos) := by
  intro s σ F H Dn q pp
  dsimp only at pp
  split at pp
  case isFalse => exact pp.elim
  rename_i hm
  obtain ⟨b0, xs0, e0⟩ := isMuL_some hm
  obtain ⟨l, vs0, h1, h2, h3⟩ := q.muL e0
  have pe : PE X (.Call (.Attribute (.Name x p) "extend" apos) [e] [] cpos) (tBM X.K "list" rExtend (tVar i) (SA X [e])) :=
    pe_bm PySem.F.plainAttrs_list PySem.F.slot_list_extend PySem.F.type_list_extend (show MtR X "list.extend" rExtend from mt_extend) (pe_var n.at_ n.vis n.d n.c) pa_SA (back_attr _) (few_one hst _) hline (starEach_cons hst _) rfl
  refine SS.of (ps_expr pe (swaps_plain rfl _ _ _)) ⟨_, h1, .inl ⟨rfl, vs0, .inl (.inl h2)⟩, ?_⟩
  refine SA.of (pa_cons pe_SE pa_nil (starEach_cons hst _)) ?_
  have e9 : opds f [a] s = (opd f a s).bind fun o s => .ok [o] s := by
    unfold opds; rfl
  rw [e9] at pp
  refine h s σ F H _ q (pp.of.bindB.imp fun o s1 F1 H1 g1 r1 k0 w ho _ => ?_)
  have k1 := k0.ok g1 r1
  clear k0
  split at k1
  · rename_i b xs ys e1 e2
    split at k1
    · rename_i hl
      obtain ⟨d, z, e3⟩ := looks1 e2
      cases z
      obtain ⟨l', vs, h4, h5, h6⟩ := r1.muL e1
      rw [h1] at h4; cases h4
      obtain ⟨l2, ws, rfl, h7, h8⟩ := (ho.view r1 e3).list r1.sub
      refine ⟨l, l2, vs, ws, rfl, rfl, h5, h7, by rw [h6.length, h8.length, ← lim_eq]; exact hl, ?_⟩
      exact k1 σ F1 _ (g1.setMu e1 h1) (r1.setMu e1 h1 (h6.append h8))
    · exact k1.elim
  · exact k1.elim
theorem hr_pop {i : Nat} {x : Str} (hK : X.K = G.K) (n : NmOk X i x) (hline : (apos.endLine == cpos.line) = true) : HR G EX X (fun s => match s[i]? with
      | some (.mu k (.list xs)) => (match xs.getLast? with
        | some x => .ok (.dat x) (s.set i (.mu k (.list xs.dropLast)))
        | none => .stuck)
      | _ => .stuck) (.Call (.Attribute (.Name x p) "pop" apos) [] [] cpos) := by
  intro s σ F H Q q pp
  dsimp only at pp
  split at pp
  · rename_i k xs e
    split at pp
    · rename_i d hd
      obtain ⟨l, vs, h1, h2, h3⟩ := q.muL e
      have pe : PE X (.Call (.Attribute (.Name x p) "pop" apos) [] [] cpos) (tBM0 X.K "list" rPop (tVar i)) :=
        pe_bm0 PySem.F.plainAttrs_list PySem.F.slot_list_pop PySem.F.type_list_pop (show MtR X "list.pop" rPop from mt_pop) (pe_var n.at_ n.vis n.d n.c) (back_attr _) hline
      have hd' : xs[xs.length - 1]? = some d := by rw [← List.getLast?_eq_getElem?]; exact hd
      obtain ⟨v, e1, e2⟩ := h3.get hd'
      refine SE.of pe ⟨_, h1, .inl ⟨rfl, vs, .inl (.inl h2)⟩, l, vs, v, rfl, rfl, h2, by rw [h3.length]; exact e1, ?_⟩
      exact (pp.ok (Go.refl.setMu e h1) (q.setMu e h1 h3.dropLast)) v e2 trivial
    · exact pp.elim
  · exact pp.elim
theorem swaps_sub {o i e : Expr} {l : Nat} (env : Env) : swapsWithSole [.Subscript o i p] e l env = pure false := by
  cases e <;> rfl
theorem swapped_sub {o i e : Expr} (env : Env) : swappedStores [.Subscript o i p] e env = pure none := by
  cases e <;> rfl
theorem asg_sub {o i : Expr} (h : isSlice i = false) (env : Env) (v : Value) : assign (.Subscript o i p) env v = (do
      let ov ← holding [v] (eval o env)
      let iv ← holding [v, ov] (eval i env)
      standAt p
      holding [v, ov, iv] (setItem ov iv v)
      release [v, ov, iv] []) := by
  cases i <;> first | rfl | simp [isSlice] at h
theorem hs_put {e k : Expr} {r r2 : S → R Vl} {i : Nat} {x : Str} (n : NmOk X i x) (h : HR G EX X r e) (hk : HR G EX X r2 k) (hsl : isSlice k = false) :
    HS G EX X (fun s => if isMuL s i then O.of (r s) fun v s => O.of (r2 s) fun w s => (match s[i]? with
      | some (.mu b (.list xs)) => (match w.d with
        | .int j => if 0 ≤ j ∧ j < xs.length then .nx (s.set i (.mu b (.list (xs.set j.toNat v.d)))) else .stuck
        | _ => .stuck)
      | _ => .stuck) else .stuck) (.Assign [.Subscript (.Name x p) k tpos] e pos) := by
  intro s σ F H Dn q pp
  dsimp only at pp
  split at pp
  case isFalse => exact pp.elim
  rename_i hm
  obtain ⟨b0, xs0, e0⟩ := isMuL_some hm
  obtain ⟨l, vs0, h1, h2, h3⟩ := q.muL e0
  refine SS.of (ps_asg pe_SE (pg_sub (pe_var n.at_ n.vis n.d n.c) pe_SE set_list (asg_sub hsl _)) (swaps_sub _) (swapped_sub _) rfl) ?_
  refine h s σ F H _ q (pp.of.imp fun v s1 F1 H1 g1 r1 k1 w hw hn => ?_)
  obtain ⟨F2, g2, rr2, hp, _⟩ := settle g1 r1 hw hn
  refine ⟨_, h1, hk s1 σ F2 H1 _ rr2 ((k1.of.go g2).imp fun u s3 F3 H3 g3 r3 k3 y hy _ => ?_)⟩
  have gg := g2.trans g3
  split at k3
  · rename_i b xs e1
    split at k3
    · rename_i j ej
      split at k3
      · rename_i hj
        obtain ⟨l', vs, h4, h5, h6⟩ := r3.muL e1
        rw [h1] at h4; cases h4
        have hv := hy.view
        rw [ej] at hv
        have ey := hv.int
        subst ey
        have hlt : j < vs.length := by rw [h6.length]; exact hj.2
        refine ⟨l, vs, j, j.toNat, rfl, rfl, h5, by unfold ixN; rw [if_pos hj.1, if_pos hlt], ?_⟩
        exact k3 σ F3 _ (gg.setMu e1 h1) (r3.setMu e1 h1 (h6.set _ (hp.mono g3.ext)))
      · exact k3.elim
    · exact k3.elim
  · exact k3.elim
theorem hs_aug {e : Expr} {r : S → R Vl} {i : Nat} {x : Str} (hN : X.N.Nodup) (t : TgOk X i x) (h : HR G EX X r e) : HS G EX X (fun s => (match s[i]? with
      | some (.dat (.int a)) => O.of (r s) fun v s => (match v with
        | .dat (.int b) => .nx (s.set i (.dat (.int (a + b))))
        | _ => .stuck)
      | _ => .stuck)) (.AugAssign (.Name x p) .Add e pos) := by
  intro s σ F H Dn q pp
  dsimp only at pp
  split at pp
  · rename_i a ea
    obtain ⟨v0, e1, e2⟩ := q.dat i _ ea
    cases e2
    refine SS.of (ps_aug hN t.at_ t.loc pe_SE ip_add t.fn) ⟨_, e1, h s σ F H _ q (pp.of.imp fun v s1 F1 H1 g1 r1 k1 w hw hn => ?_)⟩
    clear hn
    split at k1
    · rename_i b
      cases hw
      have nb : ∀ d, s1[i]? ≠ some (.mu true d) := fun d z => by
        obtain ⟨l, z1, _⟩ := r1.mu i true d z
        rw [e1] at z1; cases z1
      exact ⟨a, b, rfl, rfl, k1 _ F1 H1 (g1.setV (v := .dat (.int (a + b))) trivial nb) (r1.setV (v := .dat (.int (a + b))) (.int _) i)⟩
    · exact k1.elim
  · exact pp.elim
/-! ### if, for, while -/
theorem hs_while {c : Expr} {body : List Stmt} {r : S → R Bool} {rb : S → O} (hp : PassesOwn (model X.prog X.w) X.A X.env X.xe) (hc : HT G EX X r c) (hb : HSs G EX X rb body) : HS G EX X (fun s => whlL r rb turns s) (.While c body [] pos) := by
  intro s σ F H Dn q pp
  refine SS.of (ps_while hp pt_ST pss_SS) ?_
  refine ⟨fun m σ' H' => ∃ si F', Go G.T s σ F H si σ' F' H' ∧ Rel G.K G.T si σ' F' H' ∧ PO G EX s σ F H (whlL r rb m si) Dn, ⟨turns, s, F, Go.refl, q, pp⟩, ?_⟩
  rintro m σ2 H2 ⟨si, F2, g2, r2, p2⟩
  cases m with
  | zero => exact p2.elim
  | succ m =>
    unfold whlL at p2
    refine hc si σ2 F2 H2 _ r2 ?_
    have p3 := p2.of
    cases hr : r si with
    | stuck => rw [hr] at p3; exact p3.elim
    | exc nm s' =>
      rw [hr] at p2
      exact fun x d F' H' e g rr hd hn => p2 x d σ2 F' H' e (g2.trans g) rr hd (by
        cases z : H d with
        | none => rfl
        | some o => exact absurd hn (g2.alive d (by rw [z]; simp)))
    | ok b s3 =>
      rw [hr] at p2
      intro F3 H3 g3 r3
      have gg := g2.trans g3
      cases b with
      | false =>
        have p4 : PO G EX s σ F H (.nx s3) Dn := p2
        rw [if_neg Bool.false_ne_true]; exact p4 σ2 F3 H3 gg r3
      | true =>
        have p4 : PO G EX s σ F H (match rb s3 with
          | .nx s => whlL r rb m s
          | .bk s => .nx s
          | o => o) Dn := p2
        rw [if_pos rfl]
        refine ⟨fun σ' H' => ∃ si F', Go G.T s σ F H si σ' F' H' ∧ Rel G.K G.T si σ' F' H' ∧ PO G EX s σ F H (whlL r rb m si) Dn, fun σ' H' h => ⟨m, Nat.lt_succ_self m, h⟩, ?_⟩
        refine hb s3 σ2 F3 H3 _ r3 ?_
        cases hrb : rb s3 with
        | nx s5 => rw [hrb] at p4; exact fun σ' F' H' g rr => ⟨s5, F', gg.trans g, rr, p4⟩
        | bk s5 => rw [hrb] at p4; exact fun σ' F' H' g rr => p4 σ' F' H' (gg.trans g) rr
        | rt v s5 => rw [hrb] at p4; exact fun w σ' F' H' g rr a b => p4 w σ' F' H' (gg.trans g) rr a (gg.vback b)
        | xc nm s5 => rw [hrb] at p4; exact PO.go gg p4
        | stuck => rw [hrb] at p4; exact p4.elim
def forS (tg : List Nat) (one : Bool) (rb : S → O) : D → S → O := fun x s => if tg.all (free s) then (match bind tg one x s with
        | some s => rb s
        | none => .stuck) else .stuck
theorem hs_for {tgE iter : Expr} {body : List Stmt} {r : S → R (List D × Option Nat)} {rb : S → O} {tg : List Nat} {one : Bool} {g : TG} (hp : PassesOwn (model X.prog X.w) X.A X.env X.xe) (hc : X.calm = true) (hi : HI G EX X r tgE iter) (hpg : PG X tgE g) (hg : HGl G tg one g) (hb : HSs G EX X rb body)
    (hs : ∀ x, foldedSetIterable iter X.env x = pure x) : HS G EX X (fun s => O.of (r s) fun xs s => (match xs.2 with
      | some _ => .stuck
      | none => forL (forS tg one rb) xs.1 s)) (.For tgE iter body [] pos) := by
  intro s σ F H Dn q pp
  refine SS.of (ps_for hp hc pi_SI hpg pss_SS hs) (hi s σ F H _ q (pp.of.imp fun xs s1 _ H1 _ _ k1 J F1 Gd g1 r1 it st => ?_))
  obtain ⟨ds, o⟩ := xs
  cases o with
  | some j => exact k1.elim
  | none =>
    have k1 : PO G EX s σ F H (forL (forS tg one rb) ds s1) Dn := k1
    have gdOf : ∀ {s3 : S} {σ3 : L2.St} {F3 H3 : Hp}, Go G.T s1 σ F1 H1 s3 σ3 F3 H3 → Rel G.K G.T s3 σ3 F3 H3 → Gd H3 := fun {s3 σ3 F3 H3} g r => st F3 H3 g.ext r.sub fun a o h n t => g.keep a o h n t
    refine ⟨fun i m σ' H' => m = ds.length - i ∧ i ≤ ds.length ∧ ∃ si F', Go G.T s1 σ F1 H1 si σ' F' H' ∧ Rel G.K G.T si σ' F' H' ∧ PO G EX s σ F H (forL (forS tg one rb) (ds.drop i) si) Dn, ⟨ds.length, by simp, Nat.zero_le _, s1, F1, Go.refl, r1, by rw [List.drop_zero]; exact k1⟩, ?_⟩
    rintro i m σ2 H2 ⟨rfl, hile, si, F2, g2, r2, p2⟩
    by_cases hlt : i < ds.length
    · refine .inr ⟨it.goes i H2 hlt (gdOf g2 r2), fun σ' H' => ∃ si F', Go G.T s1 σ F1 H1 si σ' F' H' ∧ Rel G.K G.T si σ' F' H' ∧ PO G EX s σ F H (forL (forS tg one rb) (ds.drop (i + 1)) si) Dn, fun σ' H' h => ⟨ds.length - (i + 1), by omega, rfl, hlt, h⟩, fun x H3 y => ?_⟩
      obtain ⟨F3, d, g3, r3, ed, hx⟩ := it.yields i H2 x H3 si σ2 F2 g2.ext r2 hlt (gdOf g2 r2) y
      rw [take_drop_step ed] at p2
      unfold forL at p2
      unfold forS at p2
      split at p2
      case h_1 s5 hf =>
        split at hf
        · rename_i hfree
          split at hf
          · rename_i s4 hbd
            refine hg d si s4 x σ2 F3 H3 _ r3 hx hbd fun σ4 so => ?_
            have g4 := so.go (fun j hj e z => (free_nb (List.all_eq_true.mp hfree j hj)).1 e z) _ _ _ _ (g2.trans g3)
            refine hb s4 σ4 F3 H3 _ so.rel ?_
            rw [hf]
            exact fun σ' F' H' g rr => ⟨s5, F', g4.trans g, rr, p2⟩
          · cases hf
        · cases hf
      case h_2 s5 hf =>
        split at hf
        · rename_i hfree
          split at hf
          · rename_i s4 hbd
            refine hg d si s4 x σ2 F3 H3 _ r3 hx hbd fun σ4 so => ?_
            have g4 := so.go (fun j hj e z => (free_nb (List.all_eq_true.mp hfree j hj)).1 e z) _ _ _ _ (g2.trans g3)
            refine hb s4 σ4 F3 H3 _ so.rel ?_
            rw [hf]
            exact fun σ' F' H' g rr => p2 σ' F' H' (g1.trans (g4.trans g)) rr
          · cases hf
        · cases hf
      case h_3 o5 hn1 hn2 =>
        split at p2
        · rename_i hfree
          split at p2
          · rename_i s4 hbd
            refine hg d si s4 x σ2 F3 H3 _ r3 hx hbd fun σ4 so => ?_
            have g4 := so.go (fun j hj e z => (free_nb (List.all_eq_true.mp hfree j hj)).1 e z) _ _ _ _ (g2.trans g3)
            have gg := g1.trans g4
            refine hb s4 σ4 F3 H3 _ so.rel ?_
            cases hrb : rb s4 with
            | nx s5 => exact absurd (by rw [if_pos hfree, hbd]; exact hrb) (hn1 s5)
            | bk s5 => exact absurd (by rw [if_pos hfree, hbd]; exact hrb) (hn2 s5)
            | rt v s5 => rw [hrb] at p2; exact fun w σ' F' H' g rr a b => p2 w σ' F' H' (gg.trans g) rr a (gg.vback b)
            | xc nm s5 => rw [hrb] at p2; exact PO.go gg p2
            | stuck => rw [hrb] at p2; exact p2.elim
          · exact p2.elim
        · exact p2.elim
    · have e1 : i = ds.length := by omega
      subst e1
      refine .inl ⟨it.stops H2 (gdOf g2 r2), ?_⟩
      rw [List.drop_length] at p2
      exact p2 σ2 F2 H2 (g1.trans g2) r2
end
end Fs
set_option Elab.async false
set_option linter.all false
set_option maxRecDepth 100000
set_option maxHeartbeats 2000000
namespace Fs
open PySem PySem.Spec PyProof.Rows L2
/-! ### the place of an int; list(range(a, b)) -/
def rIx (sq : Hp → Addr → List V → Prop) : V → List V → Hp → VK → Prop := fun x xs H Q => ∃ (a : Addr) (ns : List Int) (k : Int), x = .ref a ∧ xs = [.int k] ∧ sq H a (ns.map V.int) ∧ k ∈ ns ∧ ns.length ≤ sizeLine ∧ Q (.int (ns.idxOf k : Nat)) H
section
variable {X : Cx}
theorem mt_ixL : MtR X "list.index" (rIx (SqL X.K)) := by
  intro pins s σ H x xs v us Q I rx rs ⟨a, ns, k, e1, e2, hs, hk, hz, q⟩
  subst e1 e2
  cases rx
  obtain ⟨u, rfl, t, rfl⟩ := vals1 rs
  obtain ⟨its, r, pl, _⟩ := I.list hs
  exact SeqAt.list_index_ints pl.isList (RZ.intsAre_vals r) hz hk ⟨.int _, H, I.tok _, ⟨_, rfl⟩, q⟩
theorem mt_ixT : MtR X "tuple.index" (rIx (SqT X.K)) := by
  intro pins s σ H x xs v us Q I rx rs ⟨a, ns, k, e1, e2, hs, hk, hz, q⟩
  subst e1 e2
  cases rx
  obtain ⟨u, rfl, t, rfl⟩ := vals1 rs
  obtain ⟨its, r, pl, _⟩ := I.tuple hs
  exact SeqAt.tuple_index_ints (show s.heap.IsTuple a its.toArray from pl) (RZ.intsAre_vals r) hk ⟨.int _, H, I.tok _, ⟨_, rfl⟩, q⟩
end
section
variable {G : Gl0} {EX : XK} {X : Cx} {s s1 : S} {σ σ1 : L2.St} {F H F1 H1 : Hp} {f : E → S → R Vl} {pos p cpos apos tpos : Pos} {Dn : Ends}
theorem intsD_of : ∀ {xs : List D} {ns : List Int} {vs : List V}, intsD xs = some ns → RpAll G.K F vs xs → vs = ns.map V.int
  | [], ns, vs, h, r => by cases h; cases r; rfl
  | d :: xs, ns, vs, h, r => by
    cases d with
    | int i =>
      obtain ⟨ms, h1, rfl⟩ := Option.map_eq_some_iff.mp (show (intsD xs).map (i :: ·) = some ns from h)
      cases r with
      | cons a t =>
        cases a
        rw [intsD_of h1 t]; rfl
    | _ => cases h
theorem findD_of {xs : List D} {d : D} {r : Vl} (h : findD xs d = some r) : ∃ i ns, d = .int i ∧ intsD xs = some ns ∧ ns.length ≤ lim ∧ i ∈ ns ∧ r = .dat (.int (ns.idxOf i : Nat)) := by
  cases d with
  | int i =>
    obtain ⟨ns, h1, h2⟩ := Option.bind_eq_some_iff.mp (show ((intsD xs).bind fun ns => if ns.length ≤ lim ∧ i ∈ ns then some (.dat (.int (ns.idxOf i : Nat))) else none) = some r from h)
    split at h2
    · rename_i hc
      cases h2
      exact ⟨i, ns, rfl, h1, hc.1, hc.2, rfl⟩
    · cases h2
  | _ => cases h
/-- a method of a plain tuple -/
def tPT (r : V → List V → Hp → VK → Prop) (to : TE) (t : TA) : TE := fun τ B K => to τ B fun x B1 => (∃ (a : Addr) (o : Obj) (vs : List V), x = .ref a ∧ B1 a = some (.frz o (.tup vs)) ∧ o.cls = .type "tuple" ∧ o.dict = none) ∧ t τ B1 fun ys B2 => r x ys B2 K
theorem pe_pt {o : Expr} {to : TE} {t : TA} {e1 : Expr} {name : Str} {id : String} {r : V → List V → Hp → VK → Prop} (slot : Slot "tuple" name id) (hty : typeOf (.builtin id) = pure (.type "method_descriptor")) (hm : MtR X id r) (ho : PE X o to) (ha : PA X [e1] t)
    (hb : attributeBase o name X.env (eval o X.env) = eval o X.env)
    (hfew : ((backTo cpos (starEach [e1] X.env)).all (fun x => !x.1) && (backToKw cpos (keywordEach [] X.env)).all (fun x => x.1.isSome) && decide ([e1].length + ([] : List Keyword).length + (if ([] : List Keyword).isEmpty then 0 else 1) < 30)) = true)
    (hl : (apos.endLine == cpos.line) = true) (hst : starEach [e1] X.env = (false, eval e1 X.env) :: starEach [] X.env) : PE X (.Call (.Attribute o name apos) [e1] [] cpos) (tPT r to t) := by
  constructor
  intro pins st τ B K I hyp
  refine wpAny_Call_method_late hb hfew hl rfl (thn (ho.run pins st τ B _ I hyp) fun v st1 ⟨x, B1, I1, r1, pt, rest⟩ => ?_)
  obtain ⟨a, ob, vs, rfl, hB, hc, hd⟩ := pt
  cases r1
  obtain ⟨hg, _⟩ := I1.hok a _ hB
  refine ⟨"tuple", id, PySem.F.plainAttrs_tuple, slot, hty, ⟨ob, hg, hc⟩, fun b eb => by cases eb; exact ⟨ob, hg, hd⟩, ?_⟩
  have args := ha.run cpos pins st1 τ B1 _ I1 rest
  rw [hst] at args ⊢
  refine Calls.callWith_builtin rfl (Calls.evalArgs_plain ?_)
  exact thn args fun us st2 ⟨ws, B2, I2, r2, fin⟩ => hm pins st2 τ B2 (.ref a) ws (.ref a) us K I2 rfl r2 fin
theorem hr_index {e : Expr} {r : S → R Vl} {i : Nat} {x : Str} (hK : X.K = G.K) (n : NmOk X i x) (h : HR G EX X r e) (hst : isStar e = false) (hline : (apos.endLine == cpos.line) = true) :
    HR G EX X (fun s => match s[i]? with
      | some (.dat (.list xs)) => (r s).bind fun v s => toR (findD xs v.d) s
      | some (.dat (.dict [(.none, .tuple xs)])) => (r s).bind fun v s => toR (findD xs v.d) s
      | _ => .stuck) (.Call (.Attribute (.Name x p) "index" apos) [e] [] cpos) := by
  intro s σ F H Q q pp
  dsimp only at pp
  split at pp
  · rename_i xs e0
    obtain ⟨v, h1, h2⟩ := q.dat i _ e0
    cases h2 with
    | lst hF hr =>
      rename_i a vs
      have pe : PE X (.Call (.Attribute (.Name x p) "index" apos) [e] [] cpos) (tBM X.K "list" (rIx (SqL X.K)) (tVar i) (SA X [e])) :=
        pe_bm PySem.F.plainAttrs_list PySem.F.slot_list_index PySem.F.type_list_index mt_ixL (pe_var n.at_ n.vis n.d n.c) pa_SA (back_attr _) (few_one hst _) hline (starEach_cons hst _) rfl
      refine SE.of pe ⟨_, h1, .inl ⟨rfl, vs, .inl (.inl (q.sub _ _ hF))⟩, ?_⟩
      refine SA.of (pa_cons pe_SE pa_nil (starEach_cons hst _)) (h.run q pp fun u s1 F1 H1 w g1 r1 hw hn k1 => ?_)
      cases hf : findD xs u.d with
      | none => rw [hf] at k1; exact k1.elim
      | some r0 =>
        rw [hf] at k1
        obtain ⟨j, ns, e1, e2, e3, e4, rfl⟩ := findD_of hf
        have hv := intsD_of e2 hr
        subst hv
        have ew : w = .int j := by
          have := hw.view
          rw [e1] at this
          exact this.int
        exact ⟨a, ns, j, rfl, by rw [ew], .inl (.inl (r1.sub _ _ (g1.ext _ _ hF))), e4, by rw [← lim_eq]; exact e3, (k1.ok g1 r1) _ (.int _) trivial⟩
  · rename_i xs e0
    obtain ⟨v, h1, h2⟩ := q.dat i _ e0
    cases h2 with
    | tag hF hc hd hr =>
      rename_i a o vs
      have pe : PE X (.Call (.Attribute (.Name x p) "index" apos) [e] [] cpos) (tPT (rIx (SqT X.K)) (tVar i) (SA X [e])) :=
        pe_pt PySem.F.slot_tuple_index PySem.F.type_tuple_index mt_ixT (pe_var n.at_ n.vis n.d n.c) pa_SA (back_attr _) (few_one hst _) hline (starEach_cons hst _)
      refine SE.of pe ⟨_, h1, ⟨a, o, vs, rfl, q.sub _ _ hF, hc, hd⟩, ?_⟩
      refine SA.of (pa_cons pe_SE pa_nil (starEach_cons hst _)) (h.run q pp fun u s1 F1 H1 w g1 r1 hw hn k1 => ?_)
      cases hf : findD xs u.d with
      | none => rw [hf] at k1; exact k1.elim
      | some r0 =>
        rw [hf] at k1
        obtain ⟨j, ns, e1, e2, e3, e4, rfl⟩ := findD_of hf
        have hv := intsD_of e2 hr
        subst hv
        have ew : w = .int j := by
          have := hw.view
          rw [e1] at this
          exact this.int
        exact ⟨a, ns, j, rfl, by rw [ew], .inl (.inr ⟨o, r1.sub _ _ (g1.ext _ _ hF)⟩), e4, by rw [← lim_eq]; exact e3, (k1.ok g1 r1) _ (.int _) trivial⟩
  · exact pp.elim
end
end Fs
set_option Elab.async false
set_option linter.all false
set_option maxRecDepth 100000
set_option maxHeartbeats 2000000
namespace Fs
open PySem PySem.Spec PyProof.Rows L2
/-! ### dicts -/
section
variable {K : PySem.W.Frag} {F H : Hp}
theorem eqv_int_iff (a b : Int) : PyData.eqv (.int a) (.int b) = decide (a = b) := by
  simp only [PyData.eqv]
  by_cases e : a = b <;> simp [e]
theorem eqvAll_int_iff : ∀ xs ys : List Int, PyData.eqvAll (xs.map .int) (ys.map .int) = decide (xs = ys)
  | [], [] => by simp [PyData.eqvAll]
  | [], y :: ys => by simp [PyData.eqvAll]
  | x :: xs, [] => by simp [PyData.eqvAll]
  | x :: xs, y :: ys => by
    simp only [List.map_cons, PyData.eqvAll, eqv_int_iff, eqvAll_int_iff xs ys]
    by_cases e : x = y <;> by_cases e2 : xs = ys <;> simp [e, e2]
theorem eqv_row_iff (xs ys : List Int) : PyData.eqv (.tuple (xs.map .int)) (.tuple (ys.map .int)) = decide (xs = ys) := by
  simp only [PyData.eqv]
  exact eqvAll_int_iff xs ys
theorem inl_inj {xs ys : List Int} (h : (xs.map Sum.inl : List L2.Key) = ys.map Sum.inl) : xs = ys := by
  induction xs generalizing ys with
  | nil => cases ys with
    | nil => rfl
    | cons y ys => cases h
  | cons x xs ih => cases ys with
    | nil => cases h
    | cons y ys =>
      rw [List.map_cons, List.map_cons] at h
      injection h with h1 h2
      injection h1 with h1
      rw [h1, ih h2]
/-- what stands at a key, on both sides -/
inductive RpO (K : PySem.W.Frag) (F : Hp) : Option V → Option D → Prop
  | none : RpO K F .none .none
  | some {v : V} {d : D} : Rp K F v d → RpO K F (.some v) (.some d)
theorem RpK.look {ks : List (L2.Key × V)} {kvs : List (D × D)} (h : RpK K F ks kvs) (i : Int) : RpO K F (valV ks (Sum.inl i)) (look kvs (.int i)) := by
  induction kvs generalizing ks with
  | nil => cases h; exact .none
  | cons p kvs ih => cases h with
    | cons hv r =>
      rename_i j v d ks
      have e1 : Fs.look ((PyData.int j, d) :: kvs) (.int i) = if j = i then some d else Fs.look kvs (.int i) := by
        unfold Fs.look
        rw [List.find?_cons]
        simp only [eqv_int_iff]
        by_cases e : j = i <;> simp [e]
      rw [e1]
      by_cases e : j = i
      · rw [if_pos e, valV_pos (by rw [e])]; exact .some hv
      · rw [if_neg e, valV_neg (by intro z; injection z with z; exact e z)]; exact ih r
theorem RpT.look {ks : List (List L2.Key × V)} {kvs : List (D × D)} (h : RpT K F ks kvs) (xs : List Int) : RpO K F (valV ks (xs.map Sum.inl)) (look kvs (.tuple (xs.map .int))) := by
  induction kvs generalizing ks with
  | nil => cases h; exact .none
  | cons p kvs ih => cases h with
    | cons hv r =>
      rename_i ys v d ks
      have e1 : Fs.look ((PyData.tuple (ys.map .int), d) :: kvs) (.tuple (xs.map .int)) = if ys = xs then some d else Fs.look kvs (.tuple (xs.map .int)) := by
        unfold Fs.look
        rw [List.find?_cons]
        simp only [eqv_row_iff]
        by_cases e : ys = xs <;> simp [e]
      rw [e1]
      by_cases e : ys = xs
      · rw [if_pos e, valV_pos (by rw [e])]; exact .some hv
      · rw [if_neg e, valV_neg (fun z => e (inl_inj z))]; exact ih r
theorem RpK.any {ks : List (L2.Key × V)} {kvs : List (D × D)} (h : RpK K F ks kvs) (i : Int) : (ks.any fun kv => decide (kv.1 = Sum.inl i)) = has kvs (.int i) := by
  induction kvs generalizing ks with
  | nil => cases h; rfl
  | cons p kvs ih => cases h with
    | cons hv r =>
      rename_i j v d ks
      have ih := ih r
      unfold has at ih ⊢
      simp only [List.any_cons, eqv_int_iff, ih]
      congr 1
      by_cases e : j = i
      · simp [e]
      · simp [e]
theorem RpT.any {ks : List (List L2.Key × V)} {kvs : List (D × D)} (h : RpT K F ks kvs) (xs : List Int) : (ks.any fun kv => decide (kv.1 = xs.map Sum.inl)) = has kvs (.tuple (xs.map .int)) := by
  induction kvs generalizing ks with
  | nil => cases h; rfl
  | cons p kvs ih => cases h with
    | cons hv r =>
      rename_i ys v d ks
      have ih := ih r
      unfold has at ih ⊢
      simp only [List.any_cons, eqv_row_iff, ih]
      congr 1
      by_cases e : ys = xs
      · simp [e]
      · have : ¬ (ys.map Sum.inl : List L2.Key) = xs.map Sum.inl := fun z => e (inl_inj z)
        simp [e, this]
theorem RpK.snoc {ks : List (L2.Key × V)} {kvs : List (D × D)} {i : Int} {v : V} {d : D} (h : RpK K F ks kvs) (hv : Rp K F v d) : RpK K F (ks ++ [(Sum.inl i, v)]) (kvs ++ [(.int i, d)]) := by
  induction kvs generalizing ks with
  | nil => cases h; exact .cons hv .nil
  | cons p kvs ih => cases h with
    | cons a r => exact .cons a (ih r)
theorem RpT.snoc {ks : List (List L2.Key × V)} {kvs : List (D × D)} {xs : List Int} {v : V} {d : D} (h : RpT K F ks kvs) (hv : Rp K F v d) : RpT K F (ks ++ [(xs.map Sum.inl, v)]) (kvs ++ [(.tuple (xs.map .int), d)]) := by
  induction kvs generalizing ks with
  | nil => cases h; exact .cons hv .nil
  | cons p kvs ih => cases h with
    | cons a r => exact .cons a (ih r)
theorem RpK.put {ks : List (L2.Key × V)} {kvs : List (D × D)} {i : Int} {v : V} {d : D} (h : RpK K F ks kvs) (hv : Rp K F v d) : RpK K F (putK ks (Sum.inl i) v) (store kvs (.int i) d) := by
  unfold putK store
  rw [h.any i]
  split
  · rename_i hh
    clear hh
    induction kvs generalizing ks with
    | nil => cases h; exact .nil
    | cons p kvs ih => cases h with
      | cons a r =>
        rename_i j w e ks
        have ih := ih r
        simp only [List.map_cons, eqv_int_iff]
        by_cases z : j = i
        · subst z
          simp only [if_true, decide_true]
          exact .cons hv ih
        · have z2 : ¬ (Sum.inl j : L2.Key) = Sum.inl i := fun q => by injection q with q; exact z q
          simp only [z, z2, if_false, decide_false]
          exact .cons a ih
  · exact h.snoc hv
theorem RpT.put {ks : List (List L2.Key × V)} {kvs : List (D × D)} {xs : List Int} {v : V} {d : D} (h : RpT K F ks kvs) (hv : Rp K F v d) : RpT K F (putK ks (xs.map Sum.inl) v) (store kvs (.tuple (xs.map .int)) d) := by
  unfold putK store
  rw [h.any xs]
  split
  · rename_i hh
    clear hh
    induction kvs generalizing ks with
    | nil => cases h; exact .nil
    | cons p kvs ih => cases h with
      | cons a r =>
        rename_i ys w e ks
        have ih := ih r
        simp only [List.map_cons, eqv_row_iff]
        by_cases z : ys = xs
        · subst z
          simp only [if_true, decide_true]
          exact .cons hv ih
        · have z2 : ¬ (ys.map Sum.inl : List L2.Key) = xs.map Sum.inl := fun q => z (inl_inj q)
          simp only [z, z2, if_false, decide_false]
          exact .cons a ih
  · exact h.snoc hv
theorem RpK.length {ks : List (L2.Key × V)} {kvs : List (D × D)} (h : RpK K F ks kvs) : ks.length = kvs.length := by
  induction kvs generalizing ks with
  | nil => cases h; rfl
  | cons p kvs ih => cases h with
    | cons a r => simp [ih r]
theorem RpT.length {ks : List (List L2.Key × V)} {kvs : List (D × D)} (h : RpT K F ks kvs) : ks.length = kvs.length := by
  induction kvs generalizing ks with
  | nil => cases h; rfl
  | cons p kvs ih => cases h with
    | cons a r => simp [ih r]
theorem unD_of {d : D} {q : Bool × List (D × D)} (h : unD d = some q) : d = mkD q.1 q.2 := by
  unfold unD at h
  split at h
  · cases h; rfl
  · cases h
/-- a dict that is looked at -/
theorem View.dk {w : V} {kvs : List (D × D)} (hs : Sub F H) (h : View K F H w (mkD false kvs)) : ∃ a ks, w = .ref a ∧ H a = some (.dK ks) ∧ RpK K F ks kvs := by
  rcases h with h | ⟨l, e, _, h⟩
  · unfold mkD at h
    cases h with
    | dk h r => exact ⟨_, _, rfl, hs _ _ h, r⟩
  · obtain ⟨ks, h1, h2⟩ := h
    exact ⟨l, ks, e, h1, h2⟩
theorem View.dt {w : V} {kvs : List (D × D)} (hs : Sub F H) (h : View K F H w (mkD true kvs)) : ∃ a ks, w = .ref a ∧ H a = some (.dT ks) ∧ RpT K F ks kvs := by
  rcases h with h | ⟨l, e, _, h⟩
  · unfold mkD at h
    cases h with
    | dt h r => exact ⟨_, _, rfl, hs _ _ h, r⟩
  · obtain ⟨ks, h1, h2⟩ := h
    exact ⟨l, ks, e, h1, h2⟩
theorem ints_all {xs : List D} (h : xs.all isInt = true) : ∃ ns : List Int, xs = ns.map .int := by
  induction xs with
  | nil => exact ⟨[], rfl⟩
  | cons x xs ih =>
    rw [List.all_cons, Bool.and_eq_true] at h
    obtain ⟨ns, rfl⟩ := ih h.2
    cases x with
    | int i => exact ⟨i :: ns, rfl⟩
    | _ => exact absurd h.1 (by simp [isInt])
theorem rp_keys {vs : List V} {ns : List Int} (h : RpAll K F vs (ns.map .int)) : vs = (ns.map Sum.inl : List L2.Key).map kV := by
  induction ns generalizing vs with
  | nil => cases h; rfl
  | cons n ns ih => cases h with
    | cons a r => cases a; rw [ih r]; rfl
/-- what a dict holds at a key, on both sides -/
theorem dget_of {w y : V} {d k : D} {q : Bool × List (D × D)} (hs : Sub F H) (hd : unD d = some q) (hk : keyOf q.1 k = true) (hw : View K F H w d) (hy : View K F H y k) :
    ∃ a o, w = .ref a ∧ DGet H a y o ∧ RpO K F o (look q.2 k) := by
  obtain ⟨t, kvs⟩ := q
  rw [unD_of hd] at hw
  unfold keyOf at hk
  cases t with
  | false =>
    split at hk
    · rename_i i
      obtain ⟨a, ks, rfl, h1, h2⟩ := hw.dk hs
      have := hy.int
      subst this
      exact ⟨a, _, rfl, DGet.k (k := Sum.inl i) h1, h2.look i⟩
    · simp at hk
    · cases hk
  | true =>
    split at hk
    · simp at hk
    · rename_i xs
      obtain ⟨ns, rfl⟩ := ints_all (by simpa using hk)
      obtain ⟨a, ks, rfl, h1, h2⟩ := hw.dt hs
      obtain ⟨b, vs, rfl, h3, h4⟩ := hy.tup hs
      rw [rp_keys h4] at h3
      exact ⟨a, _, rfl, DGet.t h1 h3, h2.look ns⟩
    · cases hk
/-- a store -/
theorem dput_of {l : Addr} {y v : V} {d k x d' : D} (hs : Sub F H) (hd : dput d k x = some d') (hw : MuRel K F H l d) (hy : View K F H y k) (hv : Rp K F v x) :
    ∃ o, DPut H l y v (upd H l o) ∧ MuRel K F (upd H l o) l d' := by
  obtain ⟨q, h1, h2⟩ := Option.bind_eq_some_iff.mp hd
  split at h2
  · rename_i hk
    cases h2
    obtain ⟨hk, hl⟩ := hk
    obtain ⟨t, kvs⟩ := q
    have e := unD_of h1
    subst e
    unfold keyOf at hk
    cases t with
    | false =>
      split at hk
      · rename_i i
        obtain ⟨ks, h3, h4⟩ := (show ∃ ks, H l = some (.dK ks) ∧ RpK K F ks kvs from hw)
        have := hy.int
        subst this
        exact ⟨_, DPut.k (k := Sum.inl i) h3 (by rw [h4.length, ← lim_eq]; exact hl), ⟨_, upd_same, h4.put hv⟩⟩
      · simp at hk
      · cases hk
    | true =>
      split at hk
      · simp at hk
      · rename_i xs
        obtain ⟨ns, rfl⟩ := ints_all (by simpa using hk)
        obtain ⟨ks, h3, h4⟩ := (show ∃ ks, H l = some (.dT ks) ∧ RpT K F ks kvs from hw)
        obtain ⟨b, vs, rfl, h5, h6⟩ := hy.tup hs
        rw [rp_keys h6] at h5
        exact ⟨_, DPut.t h3 h5 (by rw [h4.length, ← lim_eq]; exact hl), ⟨_, upd_same, h4.put hv⟩⟩
      · cases hk
  · cases h2
end
section
variable {G : Gl0} {EX : XK} {X : Cx} {s s1 : S} {σ σ1 : L2.St} {F H F1 H1 : Hp} {f : E → S → R Vl} {pos p cpos apos tpos : Pos} {Dn : Ends} {a b c : E} {xa xb xc : Expr} {n : Nat}
theorem nosl {i : Expr} (h : isSlice i = false) : NoSl i := by
  intro ov iv
  cases i <;> first | rfl | simp [isSlice] at h
theorem hr_didx (hr : Room n X.A) (ha : HP G EX X (opd f a) xa) (hb : HP G EX X (opd f b) xb) (hsl : isSlice xb = false) : HR G EX X (fun s => withO f [a, b] s fun
      | [x, y] => (dat? x y).map Vl.dat
      | _ => none) (.Subscript xa xb pos) := by
  intro s σ F H Q q pp
  have hu := hr.units
  refine SE.of (pe_dget (by omega) pe_SE pe_SE (nosl hsl)) (withO2 ha hb q pp fun s2 F2 H2 x y da db r r2 v1 v2 e k => ?_)
  obtain ⟨z, e1, e2⟩ := Option.map_eq_some_iff.mp (show (dat? da db).map Vl.dat = some r from e)
  subst e2
  obtain ⟨qd, h1, h2⟩ := Option.bind_eq_some_iff.mp (show ((unD da).bind fun q => if keyOf q.1 db = true then look q.2 db else none) = some z from e1)
  split at h2
  · rename_i hk
    obtain ⟨ad, o, rfl, h3, h4⟩ := dget_of r2.sub h1 hk v1 v2
    rw [h2] at h4
    cases h4 with
    | some h5 => exact ⟨ad, _, rfl, h3, k.here r2 h5⟩
  · cases h2
theorem dhas_of {d k : D} {z : Bool} (h : dhas d k = some z) : ∃ q, unD d = some q ∧ keyOf q.1 k = true ∧ z = (look q.2 k).isSome := by
  obtain ⟨q, h1, h2⟩ := Option.bind_eq_some_iff.mp (show ((unD d).bind fun q => if keyOf q.1 k = true then some (look q.2 k).isSome else none) = some z from h)
  split at h2
  · rename_i hk
    cases h2
    exact ⟨q, h1, hk, rfl⟩
  · cases h2
theorem RpO.some_eq {K : PySem.W.Frag} {o : Option V} {u : Option D} (h : RpO K F o u) : o.isSome = u.isSome := by cases h <;> rfl
theorem hr_din (hr : Room n X.A) (neg : Bool) (ha : HP G EX X (opd f a) xa) (hb : HP G EX X (opd f b) xb) (hm : behindInMarks (if neg = true then .NotIn else .In) xb = false) : HR G EX X (fun s => withO f [a, b] s fun
      | [x, y] => (dhas y x).map fun b => .dat (.bool (if neg = true then !b else b))
      | _ => none) (.Compare xa [if neg = true then .NotIn else .In] [xb] pos) := by
  intro s σ F H Q q pp
  have hu := hr.units
  have key : ∀ {x y : V} {s2 : S} {F2 H2 : Hp} {da db : D} {r : Vl}, Rel G.K G.T s2 σ F2 H2 → View G.K F2 H2 x da → View G.K F2 H2 y db → ((dhas db da).map fun b => Vl.dat (.bool (if neg = true then !b else b))) = some r → Done G s2 σ F2 H2 r Q → ∃ ad o, y = .ref ad ∧ DGet H2 ad x o ∧ Q (.bl (if neg = true then !o.isSome else o.isSome)) H2 := by
    intro x y s2 F2 H2 da db r r2 v1 v2 e k
    obtain ⟨z, e1, e2⟩ := Option.map_eq_some_iff.mp e
    subst e2
    obtain ⟨qd, h1, h2, rfl⟩ := dhas_of e1
    obtain ⟨ad, o, rfl, h3, h4⟩ := dget_of r2.sub h1 h2 v2 v1
    refine ⟨ad, o, rfl, h3, ?_⟩
    rw [h4.some_eq]
    exact k.here r2 (.bl _)
  cases neg with
  | false => exact SE.of (pe_cmp (pc_din (by omega) pe_SE pe_SE) (h1 := hm)) (withO2 ha hb q pp fun s2 F2 H2 x y da db r r2 v1 v2 e k => key r2 v1 v2 e k)
  | true => exact SE.of (pe_cmp (pc_dnotin (by omega) pe_SE pe_SE) (h1 := hm)) (withO2 ha hb q pp fun s2 F2 H2 x y da db r r2 v1 v2 e k => key r2 v1 v2 e k)
theorem ht_din (hr : Room n X.A) (neg : Bool) (ha : HP G EX X (opd f a) xa) (hb : HP G EX X (opd f b) xb) (hm : behindInMarks (if neg = true then .NotIn else .In) xb = false) : HT G EX X (fun s => tst (withO f [a, b] s fun
      | [x, y] => (dhas y x).map fun b => .dat (.bool (if neg = true then !b else b))
      | _ => none)) (.Compare xa [if neg = true then .NotIn else .In] [xb] pos) := by
  intro s σ F H Q q pp
  have hu := hr.units
  have pp2 : PR G EX s σ F H (withO f [a, b] s fun
      | [x, y] => (dhas y x).map fun b => .dat (.bool (if neg = true then !b else b))
      | _ => none) (KV G s σ H fun w H' => ∃ k, w = .bl k ∧ Q k H') := by
    refine pp.bindB.imp fun v s1 F1 H1 g r k w hw hvn => ?_
    clear hvn
    split at k
    · rename_i z
      cases hw
      exact ⟨z, rfl, k.ok g r⟩
    · exact k.elim
  have key : ∀ {x y : V} {s2 : S} {F2 H2 : Hp} {da db : D} {r : Vl}, Rel G.K G.T s2 σ F2 H2 → View G.K F2 H2 x da → View G.K F2 H2 y db → ((dhas db da).map fun b => Vl.dat (.bool (if neg = true then !b else b))) = some r → Done G s2 σ F2 H2 r (fun w H' => ∃ k, w = .bl k ∧ Q k H') → ∃ ad o, y = .ref ad ∧ DGet H2 ad x o ∧ ∃ k, V.bl (if neg = true then !o.isSome else o.isSome) = .bl k ∧ Q k H2 := by
    intro x y s2 F2 H2 da db r r2 v1 v2 e k
    obtain ⟨z, e1, e2⟩ := Option.map_eq_some_iff.mp e
    subst e2
    obtain ⟨qd, h1, h2, rfl⟩ := dhas_of e1
    obtain ⟨ad, o, rfl, h3, h4⟩ := dget_of r2.sub h1 h2 v2 v1
    refine ⟨ad, o, rfl, h3, ?_⟩
    rw [h4.some_eq]
    exact k.here r2 (.bl _)
  cases neg with
  | false => exact ST.of (pt_cmp (pc_din (by omega) pe_SE pe_SE) (h1 := hm)) (withO2 ha hb q pp2 fun s2 F2 H2 x y da db r r2 v1 v2 e k => key r2 v1 v2 e k)
  | true => exact ST.of (pt_cmp (pc_dnotin (by omega) pe_SE pe_SE) (h1 := hm)) (withO2 ha hb q pp2 fun s2 F2 H2 x y da db r r2 v1 v2 e k => key r2 v1 v2 e k)
theorem isMuD_some {i : Nat} (h : isMuD s i = true) : ∃ b d, s[i]? = some (.mu b d) := by
  unfold isMuD at h
  split at h
  · exact ⟨_, _, ‹_›⟩
  · cases h
theorem swapsW_sub {o i e : Expr} {p : Pos} {l : Nat} (env : Env) : swapsWith e (some (.Subscript o i p)) l env = pure false := by
  cases e <;> rfl
theorem hs_dput {e k : Expr} {r r2 : S → R Vl} {i : Nat} {x : Str} (hr : Room n X.A) (nm : NmOk X i x) (h : HR G EX X r e) (hk : HR G EX X r2 k) :
    HS G EX X (fun s => if isMuD s i then O.of (r s) fun v s => O.of (r2 s) fun w s => (match s[i]? with
      | some (.mu b d) => (match dput d w.d v.d with
        | some d' => .nx (s.set i (.mu b d'))
        | none => .stuck)
      | _ => .stuck) else .stuck) (.Assign [.Subscript (.Name x p) k tpos] e pos) := by
  intro s σ F H Dn q pp
  have hu := hr.units
  dsimp only at pp
  split at pp
  case isFalse => exact pp.elim
  rename_i hm
  obtain ⟨b0, d0, e0⟩ := isMuD_some hm
  obtain ⟨l, h1, _, _, _⟩ := q.mu i b0 d0 e0
  refine SS.of (ps_dput (by omega) (pe_var nm.at_ nm.vis nm.d nm.c) pe_SE pe_SE (swapsW_sub _)) ?_
  refine h s σ F H _ q (pp.of.imp fun v s1 F1 H1 g1 r1 k1 w hw hn => ?_)
  obtain ⟨F2, g2, rr2, hp, _⟩ := settle g1 r1 hw hn
  refine ⟨_, h1, hk s1 σ F2 H1 _ rr2 ((k1.of.go g2).imp fun u s3 F3 H3 g3 r3 k3 y hy _ => ?_)⟩
  have gg := g2.trans g3
  split at k3
  · rename_i b d e1
    split at k3
    · rename_i d' hd
      obtain ⟨l', h4, _, _, h5⟩ := r3.mu i b d e1
      rw [h1] at h4; cases h4
      obtain ⟨o, h6, h7⟩ := dput_of r3.sub hd h5 hy.view (hp.mono g3.ext)
      exact ⟨l, _, rfl, h6, k3 σ F3 _ (gg.setMu e1 h1) (r3.setMuG e1 h1 h7)⟩
    · exact k3.elim
  · exact k3.elim
theorem Done.frD {t : Bool} {o : HO} {kvs : List (D × D)} {Q : VK} (h : Done G s σ F H (.fr (mkD t kvs)) Q) (q : Rel G.K G.T s σ F H) {p : Addr} (hp : H p = none) (hm : MuRel G.K F (upd H p o) p (mkD t kvs)) : Q (.ref p) (upd H p o) :=
  h (.ref p) _ _ (Go.alloc hp) (q.new hp) ⟨p, rfl, q.fresh hp, q.notab hp, q.noown hp, hm⟩ fun l e => by cases e; exact .inl hp
theorem hr_dct0 (t : Bool) : HR G EX X (fun s => .ok (.fr (mkD t [])) s) (.Dict [] [] pos) := by
  intro s σ F H Q q pp
  have d : Done G s σ F H (.fr (mkD t [])) Q := .of Go.refl pp
  cases t with
  | false => exact SE.of pe_dnewK fun p hp => d.frD q hp ⟨_, upd_same, .nil⟩
  | true => exact SE.of pe_dnewT fun p hp => d.frD q hp ⟨_, upd_same, .nil⟩
/-- what is new is written -/
theorem Go.poke {T : List Tb} {s0 : S} {σ0 : L2.St} {F0 H0 : Hp} (g : Go T s0 σ0 F0 H0 s σ F H) {p : Addr} {o : HO} (h0 : H0 p = none) : Go T s0 σ0 F0 H0 s σ F (upd H p o) where
  ext := g.ext
  new := g.new
  keep := fun a u e n t => by
    have hp : a ≠ p := fun z => by rw [z, h0] at e; cases e
    rw [upd_ne hp]; exact g.keep a u e n t
  alive := fun a e => by
    by_cases hp : a = p
    · rw [hp, upd_same]; simp
    · rw [upd_ne hp]; exact g.alive a e
  own := g.own
  bor := g.bor
theorem Rel.poke {K : PySem.W.Frag} {T : List Tb} (r : Rel K T s σ F H) {p : Addr} {o w : HO} (hw : H p = some w) (hW : Wr w) (ho : ¬ own s σ p) (hF : F p = none) : Rel K T s σ F (upd H p o) where
  len := r.len
  dat := r.dat
  mu := fun i b d e => by
    obtain ⟨l, e1, e2, e3, e4⟩ := r.mu i b d e
    have hl : l ≠ p := fun z => ho ⟨i, b, d, e, by rw [← z]; exact e1⟩
    exact ⟨l, e1, e2, e3, e4.mono (Sub.refl F) fun _ q => by rw [upd_ne hl]; exact q⟩
  scr := r.scr
  apart := r.apart
  sub := fun a u e => by
    have hl : a ≠ p := fun z => by rw [z, hF] at e; cases e
    rw [upd_ne hl]; exact r.sub a u e
  tab := fun q hq => ⟨(r.tab q hq).1, (r.tab q hq).2.updW (.inr ⟨w, hw, hW⟩)⟩
theorem hr_dct1 {r r2 : S → R Vl} (h : HR G EX X r xa) (h2 : HR G EX X r2 xb) : HR G EX X (fun s => (r s).bind fun a s => (r2 s).bind fun b s => (match a with
        | .dat (.int i) => .ok (.fr (mkD false [(.int i, b.d)])) s
        | _ => .stuck)) (.Dict [some xa] [xb] pos) := by
  intro s σ F H Q q pp
  refine SE.of (pe_disp (pps_cons pe_SE pe_SE pps_nil) rfl rfl (by simp) (by simp)) fun p hp => ?_
  have hno := q.noown hp
  have hnt := q.notab hp
  have g0 : Go G.T s σ F H s σ F (upd H p (.dK [])) := Go.alloc hp
  refine h s σ F _ _ (q.new hp) ((pp.bindB.go g0).imp fun a s1 F1 H1 g1 r1 k1 w ha hn => ?_)
  refine h2 s1 σ F1 H1 _ r1 ((k1.bindB.go (g0.trans g1)).imp fun b s2 F2 H2 g2 r2 k2 w2 hb hn2 => ?_)
  have no1 : ¬ own s1 σ p := fun z => by
    rcases g1.own p z with z | z
    · exact hno z
    · rw [upd_same] at z; cases z
  have e1 := g1.keep p _ upd_same hno hnt
  have e2 := g2.keep p _ e1 no1 hnt
  have no2 : ¬ own s2 σ p := fun z => by
    rcases g2.own p z with z | z
    · exact no1 z
    · rw [e1] at z; cases z
  split at k2
  · rename_i i
    cases ha
    obtain ⟨F3, g3, r3, hp3, _⟩ := settle (g1.trans g2) r2 hb (g1.vback hn2)
    refine ⟨e2, [(Sum.inl i, w2)], rfl, by simp, ?_⟩
    have hF3 : F3 p = none := by
      cases z : F3 p with
      | none => rfl
      | some o =>
        rcases g3.new p (by rw [z]; simp) with y | y | y | y
        · exact absurd (q.fresh hp) y
        · rw [upd_same] at y; cases y
        · exact absurd y hno
        · obtain ⟨⟨_, y⟩, _⟩ := y; rw [upd_same] at y; cases y
    have gg := (g0.trans g3).poke (p := p) (o := .dK [(Sum.inl i, w2)]) hp
    have rr := r3.poke (o := .dK [(Sum.inl i, w2)]) e2 (.inr (.inl ⟨_, rfl⟩)) no2 hF3
    exact (k2.ok gg rr) _ ⟨p, rfl, hF3, hnt, no2, _, upd_same, .cons hp3 .nil⟩ fun l e => by cases e; exact .inl hp
  · exact k2.elim
theorem intsK_of {K : PySem.W.Frag} : ∀ {kvs : List (D × D)} {ns : List Int} {ks : List (L2.Key × V)}, dsort.intsK kvs = some ns → RpK K F ks kvs → ks.map (·.1) = ns.map Sum.inl
  | [], ns, ks, h, r => by cases h; cases r; rfl
  | p :: kvs, ns, ks, h, r => by
    cases r with
    | cons a r =>
      obtain ⟨ms, h1, rfl⟩ := Option.map_eq_some_iff.mp (show (dsort.intsK kvs).map _ = some ns from h)
      rw [List.map_cons, intsK_of h1 r]; rfl
theorem rp_of_ints {K : PySem.W.Frag} : ∀ ns : List Int, RpAll K F (ns.map V.int) (ns.map PyData.int)
  | [] => .nil
  | n :: ns => .cons (.int n) (rp_of_ints ns)
theorem sort_eq {ys ns : List Int} (hp : ys.Perm ns) (hs : ys.Pairwise (· ≤ ·)) : ys = ns.mergeSort fun a b => decide (a ≤ b) := by
  refine List.Perm.eq_of_pairwise (le := fun a b => a ≤ b) (fun a b _ _ h1 h2 => Int.le_antisymm h1 h2) hs ?_ (hp.trans (List.mergeSort_perm ns _).symm)
  have := List.pairwise_mergeSort (le := fun a b : Int => decide (a ≤ b)) (by intro a b c; simp; omega) (by intro a b; simp; omega) ns
  exact this.imp fun h => by simpa using h
/-- tuples that stand in the heap may be held as data -/
theorem Rel.tupF {K : PySem.W.Frag} {T : List Tb} (q : Rel K T s σ F H) (bs : List Addr) (hb : ∀ b ∈ bs, ∃ vs, H b = some (.tup vs)) : ∃ F', Go T s σ F H s σ F' H ∧ Rel K T s σ F' H ∧ ∀ b ∈ bs, F' b = H b := by
  have hT : ∀ b ∈ bs, ¬ inT T b := fun b h1 ⟨p, hp, e⟩ => by
    obtain ⟨vs, h2⟩ := hb b h1
    obtain ⟨ps, h3⟩ := (q.tab p hp).2.there
    rw [e, h2] at h3; cases h3
  let F' : Hp := fun a => if a ∈ bs then H a else F a
  have hin : ∀ a ∈ bs, F' a = H a := fun a h => if_pos h
  have hout : ∀ a, a ∉ bs → F' a = F a := fun a h => if_neg h
  have hs : Sub F F' := fun a o e => by
    by_cases c : a ∈ bs
    · rw [hin a c]; exact q.sub a o e
    · rw [hout a c]; exact e
  have hs2 : Sub F' H := fun a o e => by
    by_cases c : a ∈ bs
    · rw [← hin a c]; exact e
    · rw [hout a c] at e; exact q.sub a o e
  refine ⟨F', ⟨hs, fun a h => ?_, fun _ _ h _ _ => h, fun _ h => h, fun _ h => .inl h, fun i d h => ⟨⟨d, h⟩, rfl⟩⟩, ⟨q.len, fun i d e => ?_, fun i b d e => ?_, fun i ns e => ?_, q.apart, hs2, fun p hp => ⟨?_, (q.tab p hp).2⟩⟩, hin⟩
  · by_cases c : a ∈ bs
    · exact .inr (.inr (.inr ⟨hb a c, hT a c⟩))
    · rw [hout a c] at h; exact .inl h
  · obtain ⟨v, e1, e2⟩ := q.dat i d e
    exact ⟨v, e1, e2.mono hs⟩
  · obtain ⟨l, e1, e2, e3, e4⟩ := q.mu i b d e
    refine ⟨l, e1, ?_, e3, e4.mono hs fun _ h => h⟩
    have hl : l ∉ bs := fun c => by
      obtain ⟨vs, h2⟩ := hb l c
      obtain ⟨o, h3, h4⟩ := e4.wr
      rw [h2] at h3; cases h3
      rcases h4 with ⟨_, z⟩ | ⟨_, z⟩ | ⟨_, z⟩ <;> cases z
    rw [hout l hl]; exact e2
  · obtain ⟨l, e1, e2⟩ := q.scr i ns e
    exact ⟨l, e1, hs.l e2⟩
  · rw [hout p.1 fun c => hT p.1 c ⟨p, hp, rfl⟩]; exact (q.tab p hp).1
theorem kV_ints (ns : List Int) : (ns.map Sum.inl).map kV = ns.map V.int := by
  rw [List.map_map]; rfl
theorem keys_rp {K : PySem.W.Frag} {F0 F1 : Hp} : ∀ {ks : List (List L2.Key × V)} {kvs : List (D × D)} {xs : List (List L2.Key × Addr × Value)}, Paired (fun (p : List L2.Key × V) (q : List L2.Key × Addr × Value) => p.1 = q.1 ∧ H q.2.1 = some (.tup (p.1.map kV)) ∧ RelV p.2 q.2.2) ks xs → RpT K F0 ks kvs → (∀ x ∈ xs, F1 x.2.1 = H x.2.1) → RpAll K F1 (xs.map fun x => V.ref x.2.1) (kvs.map (·.1))
  | _, _, _, .nil, .nil, _ => .nil
  | _, _, _, .cons h t, .cons a r, hx => by
    refine .cons (.tup ?_ (rp_of_ints _)) (keys_rp t r fun x hm => hx x (List.mem_cons_of_mem _ hm))
    rw [hx _ List.mem_cons_self, h.2.1, kV_ints]
theorem keys_tup : ∀ {ks : List (List L2.Key × V)} {xs : List (List L2.Key × Addr × Value)}, Paired (fun (p : List L2.Key × V) (q : List L2.Key × Addr × Value) => p.1 = q.1 ∧ H q.2.1 = some (.tup (p.1.map kV)) ∧ RelV p.2 q.2.2) ks xs → ∀ b ∈ xs.map (fun x => x.2.1), ∃ vs, H b = some (.tup vs)
  | _, _, .nil, b, hb => nomatch hb
  | _, _, .cons h t, b, hb => by
    rcases List.mem_cons.mp hb with rfl | hb
    · exact ⟨_, h.2.1⟩
    · exact keys_tup t b hb
theorem sortedDT_ok {nn : Nat} (hr : Room nn X.A) (hc : X.calm = true) (hK : X.K = G.K) {ad : Addr} {ks : List (List L2.Key × V)} {kvs : List (D × D)} {Q : VK} (q : Rel G.K G.T s σ F H) (hd : H ad = some (.dT ks)) (hk : RpT G.K F ks kvs) (h : (alikes (kvs.map (·.1)) && (kvs.map (·.1)).all isTupNE && decide (kvs.length ≤ lim)) = true)
    (d : Done G s σ F H (.fr (.list (sortD (kvs.map (·.1))))) Q) : UC X (.builtin "sorted") [.ref ad] H Q := by
  simp only [Bool.and_eq_true, decide_eq_true_eq] at h
  obtain ⟨⟨h0, hkind⟩, hz⟩ := h
  obtain ⟨ha, hdx, hdd⟩ := alikes_of h0
  intro pins σ' st us I r
  rw [Vals.ref1 r]
  obtain ⟨z, hs, xs, pr, o, es, ep, ho, hx, hdt, he, hn⟩ := (show ObjOk X.prog X.w H st.heap ad (.dT ks) from I.hok ad _ hd)
  have hkeys : ∀ b ∈ xs.map (fun x => x.2.1), ∃ vs, H b = some (.tup vs) := keys_tup pr
  obtain ⟨F1, g, q1, hF1⟩ := q.tupF _ hkeys
  have rK := keys_rp (F1 := F1) pr hk fun x hm => hF1 _ (List.mem_map.mpr ⟨x, hm, rfl⟩)
  have l1 : es.size = xs.length := size_of_entries he
  have l2 : ks.length = xs.length := Paired.length pr
  have hu := hr.units
  have hdp : Fs.dp = 12 := rfl
  obtain ⟨vs, hvs⟩ : ∃ vs, vs = xs.map fun x => Value.ref x.2.1 := ⟨_, rfl⟩
  have rv : Vals (xs.map fun x => V.ref x.2.1) vs := by
    rw [hvs]
    clear hvs rK hF1 hkeys he pr l1 l2 hn
    induction xs with
    | nil => exact .nil
    | cons x xs ih => exact .cons rfl ih
  have hlv : vs.length = xs.length := by rw [hvs, List.length_map]
  have hL : (kvs.map (·.1)).length ≤ sizeLine := by rw [← lim_eq, List.length_map]; exact hz
  have hlk : (kvs.map (·.1)).length = xs.length := by rw [← rK.length, List.length_map]
  have eR : PySem.W.EachIs (fun u d => ∃ v, RelV v u ∧ Rp G.K F1 v d) vs (kvs.map (·.1)) := vals_ea rK rv fun v d u a b => ⟨v, b, a⟩
  have hal : PySem.W.AllAlike ((kvs.map (·.1)).map id) := by rw [List.map_id]; exact fun x hx y hy => ha.1 x hx y hy
  refine Calls.call_function_entry PyProof.Rows.kind_sorted PyProof.Rows.plain_sorted PyProof.Rows.entry_sorted (PyProof.Rows.args_sorted1 _) ?_
  unfold Builtin.«sorted»
  refine wpAny_bind (m := checkCount "sorted" 1 1 _) (wpAny_pure ?_)
  refine wpAny_bind (PySem.W.kdu_collect (A := X.A.in1) (kdl_raw hs hx hdt) (I.ok.hd hc) ho (by rw [l1, ← hlk]; exact hL) fun hp tk acc keeps items => ?_)
  have ea : acc.toList = vs := by
    rw [hvs]
    have hl : acc.toList.length = xs.length := by rw [Array.length_toList, items.1]; exact l1
    refine List.ext_getElem? fun j => ?_
    rw [List.getElem?_map]
    cases hj : acc.toList[j]? with
    | none =>
      have h1 := List.getElem?_eq_none_iff.mp hj
      rw [List.getElem?_eq_none (by omega)]; rfl
    | some u =>
      obtain ⟨en, hen, hv⟩ := items.2 j u (by rw [← Array.getElem?_toList]; exact hj)
      have qe := entry_at he j
      rw [hen] at qe
      cases hb : xs[j]? with
      | none => rw [hb] at qe; exact nomatch (show some en = none from qe)
      | some b =>
        rw [hb] at qe
        have e2 : en = entryOfKey (tupleKind (mixKind X.prog X.w)) b := Option.some.inj qe
        rw [hv, e2]; rfl
  have I1 : Inv X pins σ' H { st with heap := hp, toks := tk } := I.kept keeps
  rw [ea]
  refine wpAny_bind (wpAny_newList ?_ (by rw [hlv, ← hlk]; exact hL))
  obtain ⟨h2, hh2⟩ : ∃ h2, h2 = hp.push (seqObj "list" vs.toArray 0) := ⟨_, rfl⟩
  have hoL : h2.get? hp.objs.size = some (seqObj "list" vs.toArray 0) := by rw [hh2]; exact Heap.get?_push_size _ rfl
  have keep2 : ∀ b u, hp.get? b = some u → h2.get? b = some u := fun b u e => by rw [hh2]; exact Heap.get?_push_of_some _ e
  have hne : ∀ d ∈ kvs.map (·.1), NoD d := alikes_no h0
  have I2 : Inv X pins σ' H { st with heap := h2, toks := tk } := I1.kept (t' := tk) keep2
  have keep3 : ∀ b u, hp.get? b = some u → (PySem.W.sortingHeap h2 hp.objs.size vs).get? b = some u := fun b u e =>
    PySem.W.sortingHeap_old (Nat.ne_of_lt (Heap.lt_size e)) (keep2 b u e)
  have eD : PySem.W.EachIs (fun u (d : D) => ∃ as, Reads (PySem.W.sortingHeap h2 hp.objs.size vs) u (id d) as) vs (kvs.map (·.1)) := vals_eaN rK hne rv fun v d u a z b => by
    obtain ⟨as, ra⟩ := Dp.reads I1 d v u (by rw [hK]; exact a.dp q1.sub z) b
    exact ⟨as, PyProof.Rows.Reads.keeps keep3 ra⟩
  have hS : PySem.W.Sortable ((kvs.map (·.1)).map id) := by
    rw [List.map_id]
    refine .inl fun d hd => ?_
    have := List.all_eq_true.mp hkind d hd
    cases d with
    | tuple ys => cases ys with
      | nil => cases this
      | cons y ys => exact ⟨y, ys, rfl⟩
    | _ => cases this
  have hbd : ∀ b, b ∈ kvs.map (·.1) → X.A.in1.units + 1 + (id b : D).depth < cLine := fun b hb => by
    have := hdd b hb
    show X.A.units + 1 + 1 + b.depth < _
    omega
  show wpAny _ _ _ _ _ { st with heap := hp.push (seqObj "list" vs.toArray 0), toks := tk }
  rw [← hh2]
  obtain ⟨out, hout⟩ : ∃ out, out = PySem.W.sortVals (PySem.W.dataKind (PySem.W.sortingHeap h2 hp.objs.size vs) ((kvs.map (·.1)).map id)) false vs vs := ⟨_, rfl⟩
  have he2 : PySem.W.EachIs (fun u d => ∃ v, RelV v u ∧ Rp G.K F1 v d) out (sortD (kvs.map (·.1))) := by
    rw [hout]
    exact PySem.W.sortVals_data false eR eD hal
  obtain ⟨zs, rz, pz⟩ := ea_back he2
  obtain ⟨e', hat⟩ := PyProof.Rows.sortedHeap_at (vs := vs) (out := out.toArray) hoL
  have hlz : zs.length ≤ sizeLine := by
    rw [pz.length]
    have e : (sortD (kvs.map (·.1))).length = (kvs.map (·.1)).length := by unfold sortD; exact List.length_mergeSort _
    rw [e]; exact hL
  refine wpAny_bind (wpAny_holding (wpAny_call_entry PyProof.Rows.slot_list_sort ⟨_, hoL, rfl⟩ PyProof.Rows.entry_list_sort (PySem.W.list_sort_vals (s := { st with heap := h2, toks := tk }) hoL (PySem.W.SortsAt.data (s := { st with heap := PySem.W.sortingHeap h2 hp.objs.size vs, toks := tk }) (PySem.W.each_map (R := fun v d => ∃ as, Reads (PySem.W.sortingHeap h2 hp.objs.size vs) v d as) id eD) hal hS (PySem.W.bound_map hbd)) (by rw [hlv, ← hlk]; exact hL) ⟨.none, rfl, ?_⟩) (PyProof.Rows.args_list_sort _)))
  rw [← hout]
  refine wpAny_pure ⟨_, rfl, .ref hp.objs.size, upd H hp.objs.size (.lst zs), I1.laid (t' := tk) (fun b u e => ?_) (Nat.le_refl _) ⟨hlz, out, e', rz, hat⟩, rfl, ?_⟩
  · have hb : b < hp.objs.size := Heap.lt_size e
    rw [PyProof.Rows.sortedHeap_old (Nat.ne_of_lt hb) (by rw [hh2, size_push']; exact Nat.lt_succ_of_lt hb)]
    exact keep2 b u e
  · have d1 : Done G s σ F1 H (.fr (.list (sortD (kvs.map (·.1))))) Q := fun w F2 H2 g2 r2 vr vn => d w F2 H2 (g.trans g2) r2 vr vn
    exact d1.lst q1 pz _ (I1.hok.fresh (Nat.le_refl _))
theorem hr_sortd {nn : Nat} (hr : Room nn X.A) (hK : X.K = G.K) (hc : X.calm = true) (b : BtOk X "sorted") (h : HP G EX X (opd f a) xa) (h1 : isStar xa = false) : HR G EX X (fun s => withO f [a] s fun
      | [x] => (dsort x).map fun ks => .fr (.list ks)
      | _ => none) (.Call (.Name "sorted" p) [xa] [] pos) := by
  intro s σ F H Q r0 pp
  refine SE.of (pe_prim (q := .sorted) b h1 rfl) ?_
  refine SA.of (pa_cons pe_SE pa_nil (starEach_cons h1 _)) (withO1 h r0 pp fun s2 F2 H2 x da r r2 v1 e k => ?_)
  obtain ⟨ks, e1, e2⟩ := Option.map_eq_some_iff.mp (show (dsort da).map (fun ks => Vl.fr (.list ks)) = some r from e)
  subst e2
  obtain ⟨⟨t, kvs⟩, e3, e4⟩ := Option.bind_eq_some_iff.mp e1
  rw [unD_of e3] at v1
  dsimp only at e4
  cases t with
  | true =>
    rw [if_pos rfl] at e4
    split at e4
    · rename_i hh
      cases e4
      obtain ⟨ad, kv2, rfl, h3, h4⟩ := v1.dt r2.sub
      exact sortedDT_ok hr hc hK r2 h3 h4 hh k
    · cases e4
  | false =>
    rw [if_neg (by simp)] at e4
    split at e4
    case isFalse => cases e4
    rename_i hl
    obtain ⟨ns, e5, rfl⟩ := Option.map_eq_some_iff.mp e4
    obtain ⟨ad, kv2, rfl, h3, h4⟩ := v1.dk r2.sub
    have hk := intsK_of e5 h4
    have hlen : ns.length = kvs.length := by
      have := congrArg List.length hk
      rw [List.length_map, List.length_map, h4.length] at this
      exact this.symm
    exact UC.of (call_sortedDI hc) ⟨ad, kv2, ns, rfl, .inl h3, hk, by rw [hlen]; exact hl, fun ys p hp hs hn => by
      rw [sort_eq hp hs]
      exact k.lst r2 (rp_of_ints _) p hn⟩
theorem rp_rg {K : PySem.W.Frag} (l h : Int) : RpAll K F (rgV l h) ((List.range (h - l).toNat).map fun (k : Nat) => PyData.int (l + k)) := by
  unfold rgV
  induction (List.range (h - l).toNat) with
  | nil => exact .nil
  | cons a as ih => exact .cons (.int _) ih
theorem hr_lrng {p2 p3 : Pos} (hc : X.calm = true) (bl : BtOk X "list") (br : BtOk X "range") (ha : HR G EX X (f a) xa) (hb : HR G EX X (f b) xb) (hsa : isStar xa = false) (hsb : isStar xb = false) : HR G EX X (fun s => (f a s).bind fun v s => (f b s).bind fun w s => (match v, w with
      | .dat (.int l), .dat (.int h) => toR ((rngD l h).map fun ds => .fr (.list ds)) s
      | _, _ => .stuck)) (.Call (.Name "list" p) [.Call (.Name "range" p2) [xa, xb] [] p3] [] pos) := by
  intro s σ F H Q q pp
  refine SE.of (pe_listRg hc bl.gl bl.mg (prg_2 br.gl br.mg pe_SE pe_SE (na := by rw [starEach_cons hsa]) (nb := by rw [starEach_cons hsb]) (hp := by rw [starEach_cons hsb]; rfl)) (by rfl)) ?_
  refine ha.run q pp fun v s1 F1 H1 w g1 r1 hv hn k1 => ?_
  refine hb s1 σ F1 H1 _ r1 ((k1.bindB.go g1).imp fun u s2 F2 H2 g2 r2 k2 w2 hw hn2 => ?_)
  clear hn hn2
  split at k2
  · rename_i ll hh
    cases hv; cases hw
    cases e1 : (rngD ll hh).map fun ds => Vl.fr (.list ds) with
    | none => rw [e1] at k2; exact k2.elim
    | some z =>
      rw [e1] at k2
      obtain ⟨ds, e2, rfl⟩ := Option.map_eq_some_iff.mp e1
      unfold rngD at e2
      split at e2
      · rename_i c
        cases e2
        have gg := g1.trans g2
        have dn : Done G s2 σ F2 H2 (.fr (.list ((List.range (hh - ll).toNat).map fun (k : Nat) => PyData.int (ll + k)))) Q := .of gg k2
        refine ⟨ll, hh, rfl, rfl, ⟨by omega, by omega, by omega, by omega, ?_⟩, fun p hp => dn.lst r2 (rp_rg ll hh) p hp⟩
        have := c.2.2
        unfold lim at this
        omega
      · cases e2
  · exact k2.elim
end
end Fs
set_option Elab.async false
set_option linter.all false
set_option maxRecDepth 100000
set_option maxHeartbeats 2000000
namespace Fs
open PySem PySem.Spec PyProof.Rows L2
section
variable {G : Gl0} {EX : XK} {X : Cx} {s s1 : S} {σ σ1 : L2.St} {F H F1 H1 : Hp} {f : E → S → R Vl} {pos p : Pos} {Dn : Ends} {a b c d : E} {xa xb xc xd : Expr} {n : Nat}
/-! ### chains of three -/
def tChain3 (r r' r'' : R2) (ta tb tc td : TE) : TE := fun σ H Q => ta σ H fun x H1 => tb σ H1 fun y H2 => r x y H2 fun z H3 => ∃ k, z = .bl k ∧
  (if k = true then tc σ H3 fun w H4 => r' y w H4 fun z2 H5 => ∃ k2, z2 = .bl k2 ∧ (if k2 = true then td σ H5 fun u H6 => r'' w u H6 Q else Q (.bl false) H5) else Q (.bl false) H3)
theorem pe_chain3 {op op' op'' : CmpOp} {r r' r'' : R2} {ta tb tc td : TE} (ho : OpR X (compareOp op) r) (ho' : OpR X (compareOp op') r') (ho'' : OpR X (compareOp op'') r'') (ha : PE X xa ta) (hb : PE X xb tb) (hc : PE X xc tc) (hd : PE X xd td)
    (hm : lastMarks [op, op', op''] [xb, xc, xd] = false) : PE X (.Compare xa [op, op', op''] [xb, xc, xd] pos) (tChain3 r r' r'' ta tb tc td) := by
  refine ⟨fun pins s σ H Q I h => ?_⟩
  refine Compare_chain (thn (ha.run pins s σ H _ I h) fun v s1 ⟨x, H1, I1, r1, q1⟩ => chain_link (thn (hb.run pins s1 σ H1 _ I1 q1) fun u s2 ⟨y, H2, I2, r2, q2⟩ =>
    thn (ho pins s2 σ H2 x y v u _ I2 r1 r2 q2) fun d s3 ⟨z, H3, I3, r3, k, e, q3⟩ => ?_)) hm
  subst e
  cases r3
  refine wpAny_truthy_bool ?_
  cases k with
  | false => exact ite_ff ⟨.bl false, H3, I3, rfl, q3⟩
  | true =>
    refine ite_tt (chain_link (thn (hc.run pins s3 σ H3 _ I3 q3) fun w' s4 ⟨z', H4, I4, r4, q4⟩ => thn (ho' pins s4 σ H4 y z' u w' _ I4 r2 r4 q4) fun d2 s5 ⟨z2, H5, I5, r5, k2, e2, q5⟩ => ?_))
    subst e2
    cases r5
    refine wpAny_truthy_bool ?_
    cases k2 with
    | false => exact ite_ff ⟨.bl false, H5, I5, rfl, q5⟩
    | true => exact ite_tt (chain_last (thn (hd.run pins s5 σ H5 _ I5 q5) fun w6 s6 ⟨z6, H6, I6, r6, q6⟩ => ho'' pins s6 σ H6 z' z6 w' w6 Q I6 r4 r6 q6))
theorem hr_ch3 (hr : Room n X.A) (hK : X.K = G.K) (o1 o2 o3 : COp) (ha : HR G EX X (f a) xa) (hb : HR G EX X (f b) xb) (hc : HR G EX X (f c) xc) (hd : HR G EX X (f d) xd) (hm : lastMarks [cop o1, cop o2, cop o3] [xb, xc, xd] = false) : HR G EX X (fun s => (f a s).bind fun x s => (f b s).bind fun y s => (match cmpD o1 x.d y.d with
      | some true => (f c s).bind fun z s => (match cmpD o2 y.d z.d with
        | some true => (f d s).bind fun u s => toR (lift (cmpD o3 z.d u.d)) s
        | some false => .ok (.dat (.bool false)) s
        | none => .stuck)
      | some false => .ok (.dat (.bool false)) s
      | none => .stuck)) (.Compare xa [cop o1, cop o2, cop o3] [xb, xc, xd] pos) := by
  intro s σ F H Q q p
  refine SE.of (pe_chain3 op_U2 op_U2 op_U2 pe_SE pe_SE pe_SE pe_SE hm) (ha.run q p fun v s1 F1 H1 x g1 r1 a1 _ k1 => ?_)
  refine hb s1 σ F1 H1 _ r1 ((k1.bindB.go g1).imp fun u s2 F2 H2 g2 r2 k2 y a2 _ => ?_)
  have gg := g1.trans g2
  split at k2
  · rename_i e
    refine cmpU hr hK e r2 (a1.go g2).view a2.view fun F3 H3 g3 r3 => ⟨true, rfl, ?_⟩
    rw [if_pos rfl]
    refine hc s2 σ F3 H3 _ r3 ((k2.bindB.go (gg.trans g3)).imp fun t s4 F4 H4 g4 r4 k4 w a4 _ => ?_)
    have g5 := (gg.trans g3).trans g4
    have a5 := a2.go (g3.trans g4)
    split at k4
    · rename_i e4
      refine cmpU hr hK e4 r4 a5.view a4.view fun F6 H6 g6 r6 => ⟨true, rfl, ?_⟩
      rw [if_pos rfl]
      refine hd s4 σ F6 H6 _ r6 ((k4.bindB.go (g5.trans g6)).imp fun t7 s7 F7 H7 g7 r7 k7 w7 a7 _ => ?_)
      obtain ⟨r, e3, p3⟩ := k7.some
      obtain ⟨z, e1, e2⟩ := Option.map_eq_some_iff.mp (show (cmpD o3 t.d t7.d).map (fun b => Vl.dat (.bool b)) = some r from e3)
      subst e2
      exact cmp_ok hr hK o3 e1 r7 ((a4.go (g6.trans g7)).view) a7.view (.of ((g5.trans g6).trans g7) p3)
    · rename_i e4
      refine cmpU hr hK e4 r4 a5.view a4.view fun F6 H6 g6 r6 => ⟨false, rfl, ?_⟩
      rw [if_neg Bool.false_ne_true]
      exact (k4.ok (g5.trans g6) r6) _ (.bl _) trivial
    · exact k4.elim
  · rename_i e
    refine cmpU hr hK e r2 (a1.go g2).view a2.view fun F3 H3 g3 r3 => ⟨false, rfl, ?_⟩
    rw [if_neg Bool.false_ne_true]
    exact (k2.ok (gg.trans g3) r3) _ (.bl _) trivial
  · exact k2.elim
/-! ### several values at once -/
inductive VRels (K : PySem.W.Frag) (T : List Tb) (s : S) (σ : L2.St) (F H : Hp) : List V → List Vl → Prop
  | nil : VRels K T s σ F H [] []
  | cons {w : V} {v : Vl} {ws : List V} {vs : List Vl} : VRel K T s σ F H w v → VRels K T s σ F H ws vs → VRels K T s σ F H (w :: ws) (v :: vs)
theorem VRels.of {K : PySem.W.Frag} {T : List Tb} : ∀ {ws : List V} {vs : List Vl}, OpsRel K T s σ F H ws (vs.map Op.vl) → VRels K T s σ F H ws vs
  | _, [], .nil => .nil
  | _, _ :: _, .cons h t => .cons h (VRels.of t)
theorem VRels.dat {K : PySem.W.Frag} {T : List Tb} : ∀ {ws : List V} {ds : List D}, RpAll K F ws ds → VRels K T s σ F H ws (ds.map Vl.dat)
  | _, _, .nil => .nil
  | _, _, .cons h t => .cons h (VRels.dat t)
def frV : List V → List Vl → List Addr
  | .ref l :: ws, .fr _ :: vs => l :: frV ws vs
  | _ :: ws, _ :: vs => frV ws vs
  | _, _ => []
theorem frV_dat : ∀ (ws : List V) (ds : List D), frV ws (ds.map Vl.dat) = []
  | [], _ => by simp [frV]
  | _ :: _, [] => by simp [frV]
  | w :: ws, d :: ds => by
    have := frV_dat ws ds
    cases w <;> simpa [frV] using this
theorem frV_frA : ∀ {ws : List V} {vs : List Vl}, frV ws vs = frA ws (vs.map Op.vl)
  | [], [] => rfl
  | [], _ :: _ => rfl
  | w :: _, [] => by cases w <;> rfl
  | w :: ws, v :: vs => by
    have ih := frV_frA (ws := ws) (vs := vs)
    cases w <;> cases v <;> simp_all [frV, frA]
theorem VRel.setV {K : PySem.W.Frag} {T : List Tb} {w u : V} {v v2 : Vl} {i : Nat} (h : VRel K T s σ F H u v2) (hd : ∀ l, w = .ref l → (∃ d, v = .fr d) → u = .ref l → ∃ d, v2 = .dat d) : VRel K T (s.set i v.sl) (σ.set i (some w)) F H u v2 := by
  cases v2 with
  | dat d => exact h
  | fr d =>
    obtain ⟨l, rfl, h1, h2, h3, h4⟩ := h
    refine ⟨l, rfl, h1, h2, fun ⟨j, b, d', e1, e2⟩ => ?_, h4⟩
    rcases get_set e1 with ⟨rfl, z⟩ | ⟨hj, z⟩
    · cases v with
      | dat d => cases z
      | fr d =>
        have hl : j < σ.length := by
          have := (List.getElem?_eq_some_iff.mp e2).1
          simpa using this
        rw [List.getElem?_set_self hl] at e2
        cases e2
        obtain ⟨d2, z2⟩ := hd l rfl ⟨d, rfl⟩ rfl
        cases z2
    · rw [List.getElem?_set_ne (fun z => hj z.symm)] at e2
      exact h3 ⟨j, b, d', z, e2⟩
theorem VRels.setV {K : PySem.W.Frag} {T : List Tb} {w : V} {v : Vl} {i : Nat} : ∀ {ws : List V} {vs : List Vl}, VRels K T s σ F H ws vs → (∀ l, w = .ref l → (∃ d, v = .fr d) → l ∉ frV ws vs) → VRels K T (s.set i v.sl) (σ.set i (some w)) F H ws vs
  | _, _, .nil, _ => .nil
  | _, _, .cons (w := u) (v := v2) (ws := ws) (vs := vs) h t, hd => by
    refine .cons (h.setV fun l e1 e2 e3 => ?_) (t.setV fun l e1 e2 z => hd l e1 e2 ?_)
    · cases v2 with
      | dat d => exact ⟨d, rfl⟩
      | fr d =>
        subst e3
        exact absurd List.mem_cons_self (hd l e1 e2)
    · cases u <;> cases v2 <;> first | exact z | exact List.mem_cons_of_mem _ z
theorem setAll_ok : ∀ {is : List Nat} {vs : List Vl} {ws : List V} {s : S} {σ : L2.St}, Rel G.K G.T s σ F H → VRels G.K G.T s σ F H ws vs → (frV ws vs).Nodup → setAll is vs s = some s1 →
    Rel G.K G.T s1 (setVs is ws σ) F H ∧ ∀ s0 σ0 F0 H0, Go G.T s0 σ0 F0 H0 s σ F H → (∀ l ∈ frV ws vs, New s0 σ0 H0 l) → Go G.T s0 σ0 F0 H0 s1 (setVs is ws σ) F H
  | [], [], ws, s, σ, q, h, _, e => by
    have e : some s = some s1 := e
    cases e; cases h
    exact ⟨q, fun _ _ _ _ g _ => g⟩
  | [], _ :: _, _, _, _, _, _, _, e => by cases e
  | _ :: _, [], _, _, _, _, _, _, e => by cases e
  | i :: is, v :: vs, _, s, σ, q, .cons (w := w) (ws := ws) h t, nd, e => by
    have e : (if free s i then setAll is vs (s.set i v.sl) else none) = some s1 := e
    by_cases hf : free s i = true
    · rw [if_pos hf] at e
      have nd2 : (frV ws vs).Nodup ∧ ∀ l, w = .ref l → (∃ d, v = .fr d) → l ∉ frV ws vs := by
        cases w <;> cases v <;> first
          | exact ⟨(List.nodup_cons.mp nd).2, fun l e1 _ => by cases e1; exact (List.nodup_cons.mp nd).1⟩
          | exact ⟨nd, fun l e1 ⟨d, e2⟩ => by first | (cases e1; done) | (cases e2; done)⟩
      obtain ⟨a1, a2⟩ := setAll_ok (is := is) (q.setV h i) (t.setV nd2.2) nd2.1 e
      refine ⟨a1, fun s0 σ0 F0 H0 g hn => a2 s0 σ0 F0 H0 (g.setV ?_ (free_nb hf).1) fun l hl => hn l ?_⟩
      · cases v with
        | dat d => trivial
        | fr d =>
          intro l e1
          subst e1
          exact hn l List.mem_cons_self
      · cases w <;> cases v <;> first | exact hl | exact List.mem_cons_of_mem _ hl
    · rw [if_neg hf] at e; cases e
theorem vals_opds : ∀ (es : List E) (s : S), (∀ e ∈ es, ∀ i, e ≠ .ref i) → opds f es s = (vals f es s).bind fun vs s => .ok (vs.map Op.vl) s
  | [], s, _ => rfl
  | e :: es, s, h => by
    have he : opd f e s = (f e s).bind fun v s => .ok (.vl v) s := by
      have := h e List.mem_cons_self
      cases e <;> first | rfl | exact absurd rfl (this _)
    unfold opds vals
    rw [he, R.bind_assoc, R.bind_assoc]
    congr 1
    funext v s2
    show (opds f es s2).bind _ = ((vals f es s2).bind _).bind _
    rw [vals_opds es s2 fun x hx => h x (List.mem_cons_of_mem _ hx), R.bind_assoc, R.bind_assoc]
    rfl
theorem vals_len : ∀ (es : List E) (s : S) (vs : List Vl) (s' : S), vals f es s = .ok vs s' → vs.length = es.length
  | [], s, ds, s', h => by
    have h : R.ok [] s = .ok ds s' := h
    cases h; rfl
  | e :: es, s, ds, s', h => by
    unfold vals at h
    cases q : f e s with
    | ok v s1 =>
      rw [q] at h
      have h : (vals f es s1).bind (fun ds s => R.ok (v :: ds) s) = .ok ds s' := h
      cases q2 : vals f es s1 with
      | ok vs s2 =>
        rw [q2] at h
        have hl := vals_len es s1 vs s2 q2
        have h : R.ok (v :: vs) s2 = .ok ds s' := h
        cases h
        simp [hl]
      | exc nm s2 => rw [q2] at h; cases h
      | stuck => rw [q2] at h; cases h
    | exc nm s1 => rw [q] at h; cases h
    | stuck => rw [q] at h; cases h
/-- what a parallel assignment's rule gives -/
def ParOk (X : Cx) (st : Stmt) (is : List Nat) (xs : List Expr) : Prop := ∀ (D : Ends) (σ : L2.St) (H : Hp), SA X xs σ H (fun ws H1 => ws.length = is.length ∧ ∀ H2, (H2 = H1 ∨ ∃ t, H1 t = none ∧ H2 = upd H1 t (.tup ws)) → D.nx (setVs is ws σ) H2) → SS X st D σ H
theorem parOk2 {i j : Nat} {x y : Str} {px py pt : Pos} {kt k2 : Nat} {pt2 : Pos} (hc : X.calm = true) (hN : X.N.Nodup) (hi : X.N[i]? = some x) (hj : X.N[j]? = some y) (hij : i ≠ j)
    (hx : X.env.scope.names.lookup x = some .local) (hy : X.env.scope.names.lookup y = some .local) (hw : swappedStores [.Tuple [.Name x px, .Name y py] kt pt] (.Tuple [xa, xb] k2 pt2) X.env = pure (some [x, y])) :
    ParOk X (.Assign [.Tuple [.Name x px, .Name y py] kt pt] (.Tuple [xa, xb] k2 pt2) pos) [i, j] [xa, xb] := fun D σ H h =>
  SS.of (ps_par hc hN hi hj hij hx hy pa_SA hw rfl) (fun pos pins s I => thn (h pos pins s I) fun us s' ⟨ws, H', I', r, hl, k⟩ => by
    match ws, hl with
    | [v, w], _ => exact ⟨_, H', I', r, v, w, rfl, k H' (.inl rfl)⟩)
theorem parOk3 {i j l : Nat} {x y z : Str} {px py pz pt : Pos} {kt k2 : Nat} {pt2 : Pos} (hc : X.calm = true) (hN : X.N.Nodup) (hi : X.N[i]? = some x) (hj : X.N[j]? = some y) (hl : X.N[l]? = some z) (hij : i ≠ j) (hil : i ≠ l) (hjl : j ≠ l)
    (hx : X.env.scope.names.lookup x = some .local) (hy : X.env.scope.names.lookup y = some .local) (hz : X.env.scope.names.lookup z = some .local) (hw : swappedStores [.Tuple [.Name x px, .Name y py, .Name z pz] kt pt] (.Tuple [xa, xb, xc] k2 pt2) X.env = pure (some [x, y, z])) :
    ParOk X (.Assign [.Tuple [.Name x px, .Name y py, .Name z pz] kt pt] (.Tuple [xa, xb, xc] k2 pt2) pos) [i, j, l] [xa, xb, xc] := fun D σ H h =>
  SS.of (ps_par3 hc hN hi hj hl hij hil hjl hx hy hz pa_SA hw rfl) (fun pos pins s I => thn (h pos pins s I) fun us s' ⟨ws, H', I', r, hl, k⟩ => by
    match ws, hl with
    | [v, w, u], _ => exact ⟨_, H', I', r, v, w, u, rfl, k H' (.inl rfl)⟩)
theorem parOkN {is : List Nat} {tgs xs : List Expr} {pt : Pos} {kt k2 : Nat} {pt2 : Pos} (hc : X.calm = true) (hN : X.N.Nodup) (h : TgsOk X is tgs) (hz : is.length ≤ sizeLine) (hw : swappedStores [.Tuple tgs kt pt] (.Tuple xs k2 pt2) X.env = pure none) :
    ParOk X (.Assign [.Tuple tgs kt pt] (.Tuple xs k2 pt2) pos) is xs := fun D σ H hh => by
  obtain ⟨h1, h2, h3⟩ := pgs_names hN h
  refine SS.of (ps_asg (pe_tup pa_SA) (pg_tup hc h1 h2 h3) rfl hw rfl) (fun pos pins s I => thn (hh pos pins s I) fun us s' ⟨ws, H', I', r, hl, k⟩ => ?_)
  refine ⟨ws, H', I', r, by rw [hl]; exact hz, fun t ht => ⟨t, ws, rfl, .inl (.inl upd_same), hl, gNames_of hl (k _ (.inr ⟨t, ht, rfl⟩))⟩⟩
theorem hs_par {es : List E} {xs : List Expr} {is : List Nat} {st : Stmt} (ho : ParOk X st is xs) (h : HPs G EX X (opds f es) xs) (hr : ∀ e ∈ es, ∀ i, e ≠ .ref i) (hl : es.length = is.length) : HS G EX X (fun s => O.of (vals f es s) fun vs s => toO (setAll is vs s)) st := by
  intro s σ F H D q pp
  refine ho D σ H (h s σ F H _ q ?_)
  rw [vals_opds es s hr]
  have p1 := pp.of
  cases e : vals f es s with
  | stuck => rw [e] at p1; exact p1.elim
  | exc nm s2 => rw [e] at p1; exact p1
  | ok vs s2 =>
    dsimp only at pp
    rw [e] at pp
    have pp : PO G EX s σ F H (toO (setAll is vs s2)) D := pp
    intro F1 H1 g1 r1 ws ho hn
    have hlen : ws.length = is.length := by rw [ho.len, List.length_map, vals_len es s vs s2 e, hl]
    refine ⟨hlen, fun H2 hH => ?_⟩
    cases e2 : setAll is vs s2 with
    | none => rw [e2] at pp; exact pp.elim
    | some s3 =>
      rw [e2] at pp
      obtain ⟨a1, a2⟩ := setAll_ok r1 (.of ho) (by rw [frV_frA]; exact hn.nd) e2
      have a3 := a2 _ _ _ _ g1 fun l hl => hn.new l (by rw [← frV_frA]; exact hl)
      rcases hH with rfl | ⟨t, ht, rfl⟩
      · exact pp _ F1 _ a3 a1
      · exact pp _ F1 _ (a3.trans (Go.alloc ht)) (a1.new ht)
/-- a, b = e, e no tuple as it stands -/
def isTupE : Expr → Bool
  | .Tuple .. => true
  | .List .. => true
  | _ => false
theorem swapped_tup {tgs : List Expr} {kt : Nat} {pt : Pos} {e : Expr} (h : isTupE e = false) (env : Env) : swappedStores [.Tuple tgs kt pt] e env = pure none := by
  cases e <;> first | rfl | simp [isTupE] at h
theorem swapsSole_tup {tgs : List Expr} {kt : Nat} {pt : Pos} {e : Expr} {l : Nat} (env : Env) : swapsWithSole [.Tuple tgs kt pt] e l env = pure false := by
  cases e <;> rfl
theorem hs_unp {is : List Nat} {tgs : List Expr} {kt : Nat} {pt : Pos} {e : Expr} {r : S → R Vl} (hK : X.K = G.K) (hc : X.calm = true) (hN : X.N.Nodup) (t : TgsOk X is tgs) (h : HR G EX X r e) (ht : isTupE e = false) :
    HS G EX X (fun s => O.of (r s) fun v s => (match v with
      | .dat (.tuple ds) => toO (setAll is (ds.map Vl.dat) s)
      | _ => .stuck)) (.Assign [.Tuple tgs kt pt] e pos) := by
  intro s σ F H D q pp
  obtain ⟨h1, h2, h3⟩ := pgs_names hN t
  refine SS.of (ps_asg pe_SE (pg_tup hc h1 h2 h3) (swapsSole_tup _) (swapped_tup ht _) rfl) (h s σ F H _ q (pp.of.imp fun v s1 F1 H1 g1 r1 k1 w hw hn => ?_))
  clear hn
  split at k1
  · rename_i ds
    cases e2 : setAll is (ds.map Vl.dat) s1 with
    | none => rw [e2] at k1; exact k1.elim
    | some s3 =>
      rw [e2] at k1
      have hw : Rp G.K F1 w (.tuple ds) := hw
      obtain ⟨a, vs, rfl, e3, e4⟩ := (show View G.K F1 H1 w (.tuple ds) from .inl hw).tup r1.sub
      have hl : ∀ (is : List Nat) (vs : List Vl) (s : S) (s3 : S), setAll is vs s = some s3 → vs.length = is.length := by
        intro is
        induction is with
        | nil => intro vs s s3 z; cases vs with
          | nil => rfl
          | cons _ _ => cases z
        | cons i is ih => intro vs s s3 z; cases vs with
          | nil => cases z
          | cons v vs =>
            have z : (if free s i then setAll is vs (s.set i v.sl) else none) = some s3 := z
            by_cases hf : free s i = true
            · rw [if_pos hf] at z; simp [ih _ _ _ z]
            · rw [if_neg hf] at z; cases z
      have hlen : vs.length = is.length := by rw [e4.length, ← hl _ _ _ _ e2, List.length_map]
      obtain ⟨a1, a2⟩ := setAll_ok r1 (VRels.dat e4) (by rw [frV_dat]; exact .nil) e2
      refine ⟨a, vs, rfl, .inl (.inl (by first | exact e3 | (rw [hK]; exact e3))), hlen, gNames_of hlen ?_⟩
      exact k1 _ F1 _ (a2 _ _ _ _ g1 fun l hl => by rw [frV_dat] at hl; cases hl) a1
  · exact k1.elim
end
end Fs
set_option Elab.async false
set_option linter.all false
set_option maxRecDepth 100000
set_option maxHeartbeats 2000000
namespace Fs
open PySem PySem.Spec PyProof.Rows L2
/-! ### the error's __init__ -/
/-- what it keeps -/
def initSp (C : Addr) : Sp := fun vs H Q _ => ∃ (a : Addr) (x : Str), vs = [.ref a, .str x] ∧ x.length ≤ 1000 ∧ H a = some (exo a C none) ∧ ∀ dx, H dx = none → dx ≠ a → Q .non (upd (upd H dx (exd dx [("name", .str x)])) a (exo a C (some dx)))
def initE (msg : Str) (j : Nat) (p2 p3 p4 : Pos) : Expr := .BinOp (.Constant (.str msg) j p2) .Add (.Name "name" p3) p4
def initBody (msg : Str) (j : Nat) (p0 p1 apos p2 p3 p4 p5 p6 p7 p8 p9 p10 : Pos) : List Stmt :=
  [.Expr (.Call (.Attribute (.Call (.Name "super" p0) [] [] p1) "__init__" apos) [initE msg j p2 p3 p4] [] p5) p6,
   .Assign [.Attribute (.Name "self" p7) "name" p8] (.Name "name" p9) p10]
theorem inter_f {env : Env} (h : env.scope.kind = .function) : interactive env = false := by
  unfold interactive; rw [h]; rfl
theorem ev_loc {M : Model} {A : Around} {E : Value → Shared → Prop} {s : Shared} {env : Env} {m : Str → Option Value} {x : Str} {pos : Pos} {v : Value} {Q : Value → Shared → Prop} (hk : env.scope.kind = .function) (hl : env.kindOf x = some .local) (hn : s.heap.Ns env.locals m) (hv : m x = some v) (h : Q v s)
    (hd : (x == ("__debug__" : Str)) = false := by decide) : wpAny M A (eval (.Name x pos) env) Q E s := wpAny_Name (wpAny_loadName_local hk hl hn hv h) hd
def InitEv (msg : Str) (j : Nat) (p0 p1 apos p2 p3 p4 p5 : Pos) (pl : Env → Sem Bool) : Prop := ∀ env : Env, eval (.Call (.Attribute (.Call (.Name "super" p0) [] [] p1) "__init__" apos) [initE msg j p2 p3 p4] [] p5) env = (do
  let ov ← attributeBase (.Call (.Name "super" p0) [] [] p1) "__init__" env (eval (.Call (.Name "super" p0) [] [] p1) env)
  standAt apos.atName
  let (f, first) ← holding [ov] (getMethod ov "__init__" (pl env))
  callWith p5 f first (backTo p5 (starEach [initE msg j p2 p3 p4] env)) [])
theorem init_ok {CX : CXT} {P : Program} {w : World} {K : PySem.W.Frag} {mg : Str → Option Value} {base : Heap} {k : Nat} {C fI cda cc N : Addr} {name qual msg file nm q : Str} {params : Arguments} {scope : Scope} {dV kV doc pm ct oc ccl cl : Value} {an od cdd cld : Option Addr} {osl ccs csl : Array (Option Value)} {ar : Arg} {vs : Array Value} {tf : Tok} {bs bm : List Value} {sn : List Str} {sub : List Value} {ab : Bool} {col : Option Bool} {dd : Option Addr} {k0 k1 k2 k3 k5 : Option Value} {j : Nat} {p0 p1 apos p2 p3 p4 p5 p6 p7 p8 p9 p10 : Pos}
    (lk : K.lookup fI = some ⟨oc, od, .func (PySem.W.ksFn name qual params (initBody msg j p0 p1 apos p2 p3 p4 p5 p6 p7 p8 p9 p10) scope dV kV doc pm an (.ref cda) ct cc), osl⟩)
    (hcd : PySem.W.codeIn K (.ref cda) qual = true) (hco2 : K.lookup cda = some ⟨ccl, cdd, .fields vs, ccs⟩) (hvs : vs[2]? = some (.str file tf)) (hfile : ((P.main.file : Str) == file) = true)
    (hcell : K.lookup cc = some ⟨cl, cld, .cell (some (.ref C)), csl⟩) (T : OexC K C)
    (hCl : K.lookup C = some (excClassObj nm q C N bs bm true sn sub ab col dd k0 k1 k2 k3 k5 "ValueError.__new__")) (hbm : PySem.HandSPX.refsVE bm = true) (hinit : PySem.W.excInitIn K C [.type "ValueError", .type "Exception", .type "BaseException", .type "object"] "ValueError.__new__" = true)
    (hsub : PySem.W.mroIn K C (.ref C) = some true) (hB : PySem.W.subIn K (.ref C) (.type "ValueError") = some true) (hop : PySem.W.nsIn K cStatics "thirdparty.any" = some none) (hsi : PySem.W.ks_superIn K C C "__init__" = some (some (.builtin "ValueError.__init__")))
    (hno : PySem.W.findIn K (.ref C) "name" = some none) (hmsup : mg "super" = none)
    (hp : (params.posonlyargs ++ params.args).head? = some ar) (har : ar.arg = "self") (hks : scope.names.lookup ("super" : Str) = some .globalImplicit) (hkc : scope.names.lookup ("__class__" : Str) = some .free)
    (hself : scope.names.lookup ("self" : Str) = some .local) (hname : scope.names.lookup ("name" : Str) = some .local) (hkind : scope.kind = .function) (hco : scope.isCoroutine = false) (hgen : scope.isGenerator = false) (hcells : ∀ x ∈ scope.names, x.2 ≠ .cell)
    (htop : (P.main.scope.names.lookup ("super" : Str)).isSome = false) (hmsg : msg.length ≤ 1000) {pl : Env → Sem Bool} (hev : InitEv msg j p0 p1 apos p2 p3 p4 p5 pl) :
    FnOk P w K mg base CX k fI (PySem.W.ksFn name qual params (initBody msg j p0 p1 apos p2 p3 p4 p5 p6 p7 p8 p9 p10) scope dV kV doc pm an (.ref cda) ct cc) ["self", "name"] (initSp C) := by
  refine ⟨fun vs H Q E ⟨a, x, e, _⟩ => by rw [e]; rfl, fun A outer s H args us vs' Q E hr e0 hb r hsp => ?_⟩
  obtain ⟨a, x, rfl, hxl, hHa, hq⟩ := hsp
  obtain ⟨tx, rfl⟩ : ∃ tx, us = [.ref a, .str x tx] := by
    cases r with
    | cons h1 t => cases t with
      | cons h2 t2 =>
        cases t2
        obtain ⟨tx, h2⟩ := h2
        have h1 : _ = Value.ref a := h1
        exact ⟨tx, by rw [h1, h2]⟩
  have KX : K.In s.heap := e0.mod.kin.keeps fun b o e => (e0.bs b o e).1
  have nolim : s.heap.NoLimit := e0.mod.nolimit.keeps fun b o e => (e0.bs b o e).1
  obtain ⟨t1, hoa⟩ := exo_at e0.hok hHa
  -- the ground: all but the exception
  have aK : ∀ b o, K.lookup b = some o → b ≠ a := fun b o e z => by
    have := (e0.bs b o (e0.mod.kin b o e)).2
    rw [z, hHa] at this; cases this
  obtain ⟨g, hg⟩ : ∃ g, g = PySem.W.hideAll s.heap [a] := ⟨_, rfl⟩
  have gK : K.In g := fun b o e => by
    rw [hg]; exact PySem.W.hideAll_get [a] (KX b o e) fun z => aK b o e (List.mem_singleton.mp z)
  have gsub : ∀ b o, g.get? b = some o → s.heap.get? b = some o := fun b o e => by rw [hg] at e; exact PySem.W.of_hideAll _ e
  have gkeep : ∀ b o, b ≠ a → s.heap.get? b = some o → g.get? b = some o := fun b o n e => by
    rw [hg]; exact PySem.W.hideAll_get [a] e fun z => n (List.mem_singleton.mp z)
  have gsz : g.objs.size = s.heap.objs.size := by rw [hg]; exact PySem.W.hideAll_size _ _
  have ga : g.get? a = none := by rw [hg]; exact PySem.W.hideAll_none _ (List.mem_singleton.mpr rfl)
  obtain ⟨mb, hmb1, hmb2⟩ := e0.mod.blt
  refine PySem.ks_codeAny_call_defAt hr.depth (KX _ _ lk) rfl nolim (PySem.W.codeRec_of KX hcd) rfl hb hcells ?_ (fun h₁ hns hk₁ => ?_) hco hgen hkind
  · intro y hy
    have hy : y ∈ [(("self" : Str), Value.ref a), (("name" : Str), Value.str x tx)] := hy
    rcases List.mem_cons.mp hy with rfl | hy
    · exact hself
    · rcases List.mem_cons.mp hy with rfl | hy
      · exact hname
      · cases hy
  have sz1 : ∀ b o, s.heap.get? b = some o → b ≠ s.heap.objs.size := fun b o e => Nat.ne_of_lt (Heap.lt_size e)
  have F1 : Fr g s.heap.objs.size h₁ (fun y => ([(("self" : Str), Value.ref a), (("name" : Str), Value.str x tx)] : List (Str × Value)).reverse.lookup y) := ⟨hns, fun b o e => hk₁ b o (gsub b o e), Nat.le_of_eq gsz⟩
  have N1 : News g s.heap.objs.size h₁ [(a, PySem.W.excObj C t1 none .none)] := fun p hp => by
    rw [List.mem_singleton.mp hp]
    exact ⟨hk₁ _ _ hoa, sz1 _ _ hoa, ga⟩
  have glo : h₁.Ns mainGlobals mg := (e0.mod.glob.keeps fun b o e => (e0.bs b o e).1).keeps hk₁
  have bl1 : h₁.Ns builtinsNs mb := (hmb1.keeps fun b o e => (e0.bs b o e).1).keeps hk₁
  have K1 : K.In h₁ := KX.keeps hk₁
  refine PySem.ks_wpAt_execs_cons (PySem.ks_wpAt_Expr_any (PySem.ks_wpAt_MethodCall (PySem.ks_wpAt_super_base hks hkc (by decide) rfl (K1 _ _ lk) rfl hp rfl (K1 _ _ hco2) rfl hvs hfile htop ?_) (hev _)) (inter_f hkind) rfl)
  refine PySem.W.ks_loadName_global hkind hks (PySem.Calls.loadGlobal_builtin glo hmsup bl1 ((hmb2 _ (by decide)).trans (show bootBuiltins "super" = some (Value.type "super") by decide +kernel)) ⟨rfl, ?_⟩)
  refine wpAny_loadName_free hkind hkc rfl ⟨_, K1 _ _ hcell, rfl⟩ ?_
  rw [har]
  refine wpAny_loadName_local hkind hself F1.ns (v := .ref a) rfl ?_
  obtain ⟨oD, hD1, cdD, hD2⟩ : ∃ oD, h₁.get? C = some oD ∧ ∃ cdD, oD.data = .cls cdD := ⟨_, K1 _ _ hCl, _, rfl⟩
  obtain ⟨cdC, hCn, hmro, hhd⟩ : ∃ cd, PySem.W.clsIn K C = some cd ∧ cd.mro = .ref C :: bm ∧ cd.hasDict = true :=
    ⟨{ name := nm, bases := bs, mro := .ref C :: bm, ns := N, qualname := q, hasDict := true, slotNames := sn, subclasses := sub, abstract := ab, collection := col, hasDel := false }, by unfold PySem.W.clsIn; rw [hCl] <;> rfl, rfl, rfl⟩
  refine PySem.ks_wpAny_isType_cls hD1 hD2 ⟨rfl, ?_⟩
  refine PySem.ks_wpAny_call_super hD1 hD2 (hk₁ _ _ hoa) rfl (fun c e => by cases e) (PySem.W.looks_mroIn K1 hsub) (fun h2 e2 kp2 => ?_)
  obtain ⟨F2, N2, l2⟩ := PySem.W.ks_newsPush (s := ⟨h₁, s.gens, s.drawn, s.toks + 2, s.os⟩) F1 N1 rfl e2 kp2
  have hne2 : PySem.W.InstAt h2 a (PySem.W.excObj C t1 none .none) C none := ⟨kp2 _ _ (hk₁ _ _ hoa), rfl, rfl, trivial⟩
  refine PySem.W.kxs_method PySem.W.kxs_ValueError (s := ⟨h2, s.gens, s.drawn, _, s.os⟩) F2 gK N2 List.mem_cons_self hne2 hop hsi hB (by decide) (fun u h3 F3 N3 l3 => ?_)
  have n1 : u ≠ h₁.objs.size := Nat.ne_of_gt (l3 _ List.mem_cons_self)
  have n2 : u ≠ a := Nat.ne_of_gt (l3 (a, PySem.W.excObj C t1 none .none) (List.mem_cons_of_mem _ List.mem_cons_self))
  have n3 : h₁.objs.size ≠ a := Nat.ne_of_gt (l2 (a, PySem.W.excObj C t1 none .none) List.mem_cons_self)
  refine PySem.W.kxs_callWith1 N3 List.mem_cons_self (PySem.Calls.spliced_cons ?_) rfl rfl
  refine wpAny_BinOp (PySem.Calls.Constant_str ?_)
  refine ev_loc hkind hname F3.ns (v := .str x tx) rfl ?_
  refine add_str (fun t' tk => ?_) (by rw [← lim_eq]; unfold Fs.lim; omega)
  refine PySem.Calls.spliced_nil ⟨(N3 _ List.mem_cons_self).1, ?_⟩
  refine PySem.W.kxs_call (s := ⟨h3, s.gens, s.drawn, _, s.os⟩) F3 gK N3 F.excBase_ValueError hinit List.mem_cons_self (.tail n2 (.tail n3 (.head fun _ h => nomatch h))) (by rw [← lim_eq]; unfold Fs.lim; simp) (fun t4 h4 F4 N4 l4 => ?_)
  have ha4 := (N4 (a, PySem.W.excObj C t4 none .none) (by simp)).1
  have K4 : K.In h4 := gK.keeps F4.keep
  show PySem.wpAt _ _ _ _ _ _ _
  refine PySem.ks_wpAt_execs_cons (PySem.ks_wpAt_Assign_Attr ?_ rfl)
  refine PySem.wpAt_of_wpAny (ev_loc hkind hname F4.ns (v := .str x tx) rfl ?_)
  refine ev_loc hkind hself F4.ns (v := .ref a) rfl ?_
  refine PySem.W.set_plain K4 (ox := PySem.W.excObj C t4 none .none) (od := none) ⟨ha4, rfl, rfl, trivial⟩ T.sa ?_
  refine PySem.HandSPX.exc_osa K4 ha4 hCn (by rw [hmro]; exact hbm) hhd hno (fun h5 tk5 dx kp5 dn dne hx5 hn5 => ?_)
  refine PySem.wpAt_of_wpAny (wpAny_pure ?_)
  have kp : ∀ b o, b ≠ a → s.heap.get? b = some o → h5.get? b = some o := fun b o n e => kp5 b o n (F4.keep b o (gkeep b o n e))
  have hLlt : s.heap.objs.size < h4.objs.size := by
    obtain ⟨oL, _, _, hoL, _⟩ := F4.ns
    exact Heap.lt_size hoL
  have hdx : s.heap.objs.size ≤ dx := Nat.le_trans (Nat.le_of_lt hLlt) dn
  have hnd : H dx = none := e0.hok.fresh hdx
  have nd : ∀ {b : Addr} {o : Obj}, s.heap.get? b = some o → b ≠ dx := fun {b o} z => Nat.ne_of_lt (Nat.lt_of_lt_of_le (Heap.lt_size z) hdx)
  have na : ∀ {b : Addr}, H b = none → b ≠ a := fun {b} n z => by
    rw [z, hHa] at n; cases n
  refine ⟨.non, upd (upd H dx (exd dx [("name", .str x)])) a (exo a C (some dx)), rfl, e0.bare, ?_, ?_, rfl, hq dx hnd dne⟩
  · exact {
      keep := fun b o z n _ _ => kp b o (na n) z
      slot := fun b o z n _ _ => ⟨o.slots, kp b o (na n) z⟩
      free := fun b o z n _ => by rw [upd_ne (na n), upd_ne (nd z)]; exact n
      there := fun b o z _ => by
        by_cases hb : b = a
        · exact ⟨_, by rw [hb]; exact hx5⟩
        · exact ⟨o, kp b o hb z⟩
      tups := fun b xs z => by rw [upd_ne (at_ne hHa z exo_tup), upd_ne (ne_of_none z hnd)]; exact z
      frzs := fun b o v z => by rw [upd_ne (at_ne hHa z exo_frz), upd_ne (ne_of_none z hnd)]; exact z
      tbls := fun b ps z => ⟨#[], by rw [upd_ne (at_ne hHa z exo_tbl), upd_ne (ne_of_none z hnd), z]; simp⟩ }
  · intro b o z
    by_cases hb : b = a
    · subst hb
      rw [upd_same] at z; cases z
      exact exo_ok hx5
    · rw [upd_ne hb] at z
      by_cases hd : b = dx
      · subst hd
        rw [upd_same] at z; cases z
        exact exd_ok hn5 (relO_put (fs := []) ⟨tx, rfl⟩ fun _ => True.intro)
      · rw [upd_ne hd] at z
        refine (e0.hok b o z).stay (fun c v hc y => kp c v ?_ y) (fun c hc => by rw [upd_ne (at_ne hHa hc exo_own), upd_ne (ne_of_none hc hnd)]; exact hc) (fun c xs hc => by rw [upd_ne (at_ne hHa hc exo_tup), upd_ne (ne_of_none hc hnd)]; exact hc)
        rcases hc with hc | hc
        · rw [hc]; exact hb
        · exact at_ne hHa hc exo_own
end Fs
set_option Elab.async false
set_option linter.all false
set_option maxRecDepth 100000
set_option maxHeartbeats 2000000
namespace Fs
open PySem PySem.Spec PyProof.Rows L2
/-- the error class and its __init__ -/
structure ErrC (P : Program) (w : World) (K : PySem.W.Frag) (mg : Str → Option Value) (base : Heap) (C : Addr) (lv : Nat) : Prop where
  T : OexC K C
  gm : mg "BadArgument" = some (.ref C)
  ex : ∃ (fI : Addr) (fd : FuncData), PySem.W.findIn K (.ref C) "__init__" = some (some (.ref fI)) ∧ PySem.W.typeIn K (.ref fI) = some (.type "function") ∧
    FnOk P w K mg base (L2.CX P w) lv fI fd ["self", "name"] (initSp C) ∧ Binds K fd ["self", "name"] []
section
variable {G : Gl0} {EX : XK} {X : Cx} {s s1 : S} {σ σ1 : L2.St} {F H F1 H1 : Hp} {f : E → S → R Vl} {pos p p2 : Pos} {Dn : Ends} {lv : Nat}
theorem hs_raise {e : Expr} {r : S → R Vl} (hr : Room (lv + 1) X.A) (hc : X.calm = true) (ec : ErrC X.prog X.w X.K X.mg X.base G.C lv) (hg : Gl X "BadArgument") (tk : Takes X fun c d _ H => EX c d H) (h : HR G EX X r e) (hst : isStar e = false) :
    HS G EX X (fun s => O.of (r s) fun v s => (match v with
      | .dat (.str x) => if x.length ≤ 1000 then .xc (.str x) s else .stuck
      | _ => .stuck)) (.Raise (some (.Call (.Name "BadArgument" p) [e] [] p2)) none pos) := by
  intro s σ F H Dn q pp
  obtain ⟨fI, fd, h1, h2, h3, h4⟩ := ec.ex
  refine SS.of (ps_raise hc tk (pmk_oex ec.T h1 h2 h3 hr h4 .nil (passes_call LamX.takes0 fun _ _ _ _ z => z) hg ec.gm (pa_SA (es := [e])) (by decide) (starEach_cons hst _) rfl)) ?_
  refine SA.of (pa_cons pe_SE pa_nil (starEach_cons hst _)) (h s σ F H _ q (pp.of.imp fun v s1 F1 H1 g1 r1 k1 w hw hn => ?_))
  clear hn
  split at k1
  · rename_i x
    split at k1
    · rename_i hx
      cases hw
      refine ⟨by simp, fun a ha => ⟨a, x, rfl, hx, upd_same, fun dx hdx dne => ⟨rfl, dx, [("name", .str x)], upd_same, ?_, ?_, ?_⟩⟩⟩
      · rw [upd_ne dne, upd_same]
      · rw [upd_ne dne] at hdx; exact hdx
      · rw [upd_ne dne] at hdx
        have eH : upd (del (upd (upd (upd H1 a (exo a G.C none)) dx (exd dx [("name", .str x)])) a (exo a G.C (some dx))) a) dx (.xd [("name", .str x)]) = upd H1 dx (.xd [("name", .str x)]) := by
          funext b
          by_cases hb : b = dx
          · rw [hb, upd_same, upd_same]
          · rw [upd_ne hb, upd_ne hb]
            by_cases hb2 : b = a
            · rw [hb2, del_same, ha]
            · rw [del_ne hb2, upd_ne hb2, upd_ne hb, upd_ne hb2]
        rw [eH]
        refine k1 x dx σ F1 _ rfl (g1.trans (Go.alloc hdx)) (r1.new hdx) upd_same ?_
        cases z : H dx with
        | none => rfl
        | some o => exact absurd hdx (g1.alive dx (by rw [z]; simp))
    · exact k1.elim
  · exact k1.elim
end
end Fs
set_option Elab.async false
set_option linter.all false
set_option maxRecDepth 100000
set_option maxHeartbeats 2000000
namespace Fs
open PySem PySem.Spec PyProof.Rows L2 LamX
/-! ### refused(lambda: e) -/
def TTref (C : Addr) (ret : Str) : (XK → Hp → VK → Prop) → Hp → VK → Prop := fun tl H Q =>
  tl (fun cls d H' => cls = .ref C ∧ ∃ (dd : Addr) (x : Str), d = some dd ∧ H' dd = some (.xd [("name", .str x)]) ∧ Q (.str x) H') H fun _ H' => Q (.str ret) H'
/-- what must be known of the class -/
structure ErrX (K : PySem.W.Frag) (C : Addr) : Prop where
  xf : XfC K C
  no : PySem.W.findIn K (.ref C) "name" = some none
  ex : PySem.W.exmOne K (.ref C) (.ref C) = some true
def refBody (ec a ret : Str) (j : Nat) (p1 p2 p3 p4 p5 p6 p7 p8 p9 p10 p11 : Pos) : List Stmt :=
  [.Try [.Expr (.Call (.Name a p1) [] [] p2) p3] [.ExceptHandler (some (.Name ec p4)) (some "e") [.Return (some (.Attribute (.Name "e" p5) "name" p6)) p7] p8] [] [] p9, .Return (some (.Constant (.str ret) j p10)) p11]
abbrev refCx (X : Cx) (Ng : List Str) (x : Str) (sg : Scope) (g : Addr) (cdg : Value) (s : Shared) (H : Hp) : Cx := (cxOf C8.CX0 X.prog X.w X.K X.mg X.base Ng x sg g cdg X.A X.stack s H C8.E0).nox
theorem ref_gives {X : Cx} {Ng : List Str} {x a ec q ret : Str} {sg : Scope} {g C : Addr} {cdg : Value} {j : Nat} {p1 p2 p3 p4 p5 p6 p7 p8 p9 p10 p11 : Pos} (hge : sg.names.lookup ec = some .globalImplicit) (hme : X.mg ec = some (.ref C)) (hde : (ec == ("__debug__" : Str)) = false)
    (hN : Ng.Nodup) (h1 : Ng[1]? = some ("e" : Str)) (hln : sg.names.lookup ("e" : Str) = some .local) (h0 : ∀ f : Addr, (L2.start Ng [V.ref f])[0]? = some (some (V.ref f))) (ex : ErrX X.K C) :
    GivesTo X Ng x sg g cdg (refBody ec a ret j p1 p2 p3 p4 p5 p6 p7 p8 p9 p10 p11) a q (TTref C ret) := by
  intro f c' s H0 Q tl act hc h
  have hgl : Gl (refCx X Ng x sg g cdg s H0) ec := hge
  have rtry := ps_try_as (X := refCx X Ng x sg g cdg s H0) (np := p4) (pos := p9) (pos' := p8) (n := "e") (i := 1) (x := ec) (c := .ref C) (body := [.Expr (.Call (.Name a p1) [] [] p2) p3]) (b₀ := .Return (some (.Attribute (.Name "e" p5) "name" p6)) p7) (suite := [])
    (tb := fun W D σ H => ∃ Ech : XK, (∀ cls d σ' H', Ech cls d H' → σ'.length = Ng.length → W cls d σ' H') ∧ σ[0]? = some (some (.ref f)) ∧ H c' = some (CodeO c' q) ∧ tl Ech H fun _ H' => D.nx σ H')
    (ts := fun a cls d => fun D σ H => tXf a cls d C "name" (tVar 1) σ H D.rt)
    (Wout := fun _ _ _ _ => False) rfl rfl hN h1 hln ⟨hgl, hde, .inl hme⟩ takes0 (fun W pn xe tk _ => ?_) (fun a oe cls d pn hz hfl => ?_)
  · refine ⟨_, pss_cons rtry (pss_one (ps_ret pe_str)), ?_⟩
    refine ⟨_, fun cls d σ' H' hh hle => ?_, h0 f, hc, h⟩
    obtain ⟨rfl, dd, x, rfl, hd, hq⟩ := hh
    have hl : 1 < σ'.length := by rw [hle]; exact (List.getElem?_eq_some_iff.mp h1).1
    exact ⟨true, ex.ex, fun _ a _ => ⟨.ref a, List.getElem?_set_self hl, rfl, rfl, dd, [("name", .str x)], .str x, rfl, hd, rfl, hq⟩, fun z => by cases z⟩
  · refine ⟨fun pins s' σ H' D I h' => ?_⟩
    obtain ⟨Ech, hW, h1, h2, h3⟩ := h'
    have tk2 : Takes ((refCx X Ng x sg g cdg s H0).tr pn xe) (fun c d σ H => σ.length = Ng.length → W c d σ H) := fun u s' ⟨a, B, sI, pins, σ, H, cls, d, e, I, nb, up, sky, na, os, ag, w⟩ =>
      tk u s' ⟨a, B, sI, pins, σ, H, cls, d, e, I, nb, up, sky, na, os, ag, w I.len⟩
    exact (pss_one (ps_expr (pos := p3) (act _ pn xe Ech p1 p2 tk2 hW) rfl)).run pins s' σ H' D I ⟨h1, h2, h3⟩
  · have pv : PE ((refCx X Ng x sg g cdg s H0).suite a ((a, oe) :: pn)) (.Name "e" p5) (tVar 1) := pe_var (i := 1) h1 (.inl hln)
    exact pss_one (ps_ret (pe_xf (X := refCx X Ng x sg g cdg s H0) ex.xf ex.no hz hfl pv rfl))
end Fs
set_option Elab.async false
set_option linter.all false
set_option maxRecDepth 100000
set_option maxHeartbeats 2000000
namespace Fs
open PySem PySem.Spec PyProof.Rows L2 LamX
/-! ### a lambda made: the abstract heap is told in full -/
/-- the abstract heap behind: as before, or with one more code object in the table -/
def LamH (H : Hp) (P c' : Addr) (q : Str) (H1 : Hp) : Prop := H1 = H ∨ (H c' = none ∧ ∃ (ps : Array Value) (gp : Pos), H P = some (.tbl ps) ∧ TriplesOk ps.toList ∧ H1 = upd (upd H P (.tbl (ps ++ #[rawInt gp.line, rawInt gp.col, .ref c']))) c' (CodeO c' q))
abbrev lamObj (X : Cx) (params : Arguments) (body : Expr) (scope : Scope) (pm : Value) (c' : Addr) (ctv : Value) : Obj := PySem.W.kla_obj "<lambda>" (X.env.qual ++ "<lambda>") params body scope (cloFrom X.env.cells scope.names []) pm c' ctv
theorem lam_mk {X : Cx} {pins : List (Addr × Obj)} {σ : L2.St} {H : Hp} {st : Shared} {c P : Addr} {params : Arguments} {body : Expr} {scope : Scope} {pos : Pos} {E : Value → Shared → Prop} {Q : Value → Shared → Prop}
    (I : Inv X pins σ H st) (tb : LamX.TabB X.base X.mg c P) (hc : X.env.code = .ref c) (t : TabS H P (X.env.qual ++ "<lambda>")) (hd : defaultsOf params X.env = ([], [])) (hf : ∀ y ∈ scope.names, y.2 = .free → ∃ c, X.env.cells.lookup y.1 = some c)
    (k : ∀ (f c' : Addr) (pm ctv : Value) (H1 : Hp) (s1 : Shared), Inv X pins σ H1 s1 → LamH H P c' (X.env.qual ++ "<lambda>") H1 → s1.heap.get? f = some (lamObj X params body scope pm c' ctv) → H1 f = none → f ∉ frs X.stack → H1 c' = some (CodeO c' (X.env.qual ++ "<lambda>")) → Q (.ref f) s1) :
    wpAny (model X.prog X.w) X.A (eval (.Lambda params body scope pos) X.env) Q E st := by
  obtain ⟨ps, e1, e2, e3⟩ := t
  have bp := tb.bm.keeps I.bk
  have ep : st.heap.get? P = some { cls := .none, data := .fields ps } := I.hok P _ e1
  have far : ∀ {f : Addr}, st.heap.objs.size ≤ f → f ∉ frs X.stack := fun {f} hf z => by
    rcases List.mem_cons.mp (I.stkSub _ z) with e | e
    · have y := I.lt
      rw [← e] at y
      exact absurd (Nat.lt_of_lt_of_le y hf) (Nat.lt_irrefl _)
    · exact I.nofs hf e
  refine PySem.W.kla_eval hd ?_
  cases q : codeAmong pos ps.toList with
  | some cv =>
    obtain ⟨c', rfl, hco⟩ := e3 pos cv q
    refine PySem.W.kla_makeFunctionHit (mg := X.mg) (c := c) (P := P) (ps := ps) (closure_ok hf) I.ok.glob (I.mod.glob.keeps I.bk) hc (tb.code.keeps I.bk) ep e2 q bp fun ctv h1 tk hx hsz => ?_
    have I1 : Inv X pins σ H { st with heap := h1.push (lamObj X params body scope ((X.mg "__name__").getD .none) c' ctv), toks := tk } := I.kept fun b o e => Heap.get?_push_of_some _ (hx b o e)
    exact k h1.objs.size c' _ ctv H _ I1 (.inl rfl) (Heap.get?_push_size _ rfl) (I.hok.fresh hsz) (far hsz) hco
  | none =>
    refine PySem.W.kla_makeFunction (mg := X.mg) (c := c) (P := P) (ps := ps) (closure_ok hf) I.ok.glob (I.mod.glob.keeps I.bk) hc (tb.code.keeps I.bk) ep e2 q tb.gP bp fun c' ctv h1 tk hx hge hlt hrec htb => ?_
    obtain ⟨c2, oc, vs, u, z, h3, h4, h5⟩ := hrec
    cases z
    have sz : st.heap.objs.size ≤ h1.objs.size := by omega
    have hn : H c' = none := I.hok.fresh hge
    have n1 : h1.objs.size ≠ c' := by omega
    have n2 : h1.objs.size ≠ P := Nat.ne_of_gt (Nat.lt_of_lt_of_le (Heap.lt_size ep) sz)
    have I1 := inv_table (t' := tk) (c := c') (q := X.env.qual ++ "<lambda>") (more := #[rawInt pos.line, rawInt pos.col, .ref c']) (h' := h1.push (lamObj X params body scope ((X.mg "__name__").getD .none) c' ctv)) I e1
      (fun b o hb e => Heap.get?_push_of_some _ (hx b o hb e)) (Heap.get?_push_of_some _ htb) hge ⟨oc, vs, u, Heap.get?_push_of_some _ h3, h4, h5⟩
    refine k h1.objs.size c' _ ctv _ _ I1 (.inr ⟨hn, ps, pos, e1, e2, rfl⟩) (Heap.get?_push_size _ rfl) ?_ (far sz) upd_same
    rw [upd_ne n1, upd_ne n2]
    exact I.hok.fresh sz
/-- the def refused -/
structure RefC (K : PySem.W.Frag) (mg : Str → Option Value) (C : Addr) (x : Str) : Prop where
  err : mg "BadArgument" = some (.ref C)
  ex : ∃ (g : Addr) (oc : Value) (od : Option Addr) (pg : Arguments) (sg : Scope) (dV kV doc pm cdv ct : Value) (an : Option Addr) (osl : Array (Option Value)) (j : Nat) (p1 p2 p3 p4 p5 p6 p7 p8 p9 p10 p11 : Pos),
    mg x = some (.ref g) ∧ PySem.W.keepIn K (.ref g) = true ∧ K.lookup g = some ⟨oc, od, .func (PySem.W.fnOf x x pg (refBody "BadArgument" "call" ⟨#[]⟩ j p1 p2 p3 p4 p5 p6 p7 p8 p9 p10 p11) sg dV kV doc pm an cdv ct), osl⟩ ∧
    PySem.W.codeIn K cdv x = true ∧ L2.Binds K (PySem.W.fnOf x x pg (refBody "BadArgument" "call" ⟨#[]⟩ j p1 p2 p3 p4 p5 p6 p7 p8 p9 p10 p11) sg dV kV doc pm an cdv ct) ["call"] [] ∧
    FnScope ["call", "e"] ["call"] sg ∧ sg.names.lookup ("BadArgument" : Str) = some NameKind.globalImplicit ∧ sg.names.lookup ("e" : Str) = some NameKind.local ∧ sg.names.lookup ("call" : Str) = some NameKind.local
section
variable {G : Gl0} {EX : XK} {X : Cx} {s s1 : S} {σ σ1 : L2.St} {F H F1 H1 : Hp} {pos p lpos : Pos} {lv : Nat}
/-- the def's code object and its table of lambdas -/
structure LamTb (G : Gl0) (X : Cx) (c P : Addr) : Prop where
  tb : LamX.TabB X.base X.mg c P
  code : X.env.code = .ref c
  mem : (P, X.env.qual ++ "<lambda>") ∈ G.T
  one : ∀ q ∈ G.T, q.1 = P → q.2 = X.env.qual ++ "<lambda>"
def refR (r : S → R Vl) : S → R Vl := fun s => match r s with
  | .ok _ s => .ok (.dat (.str ⟨#[]⟩)) s
  | .exc nm s => .ok (.dat nm) s
  | .stuck => .stuck
/-- for every lambda's frame -/
def AllL (X : Cx) (scope : Scope) (lv : Nat) (Pr : XK → Cx → Prop) : Prop := ∀ (A : Around) (outer : List Env) (s : Shared) (H : Hp) (E : XK) (f c' : Addr), Room lv (A.deeper (lamEnv X scope s.heap.objs.size f c')) → Pr E (lamCx X A outer s H E scope f c')
def uL (X : Cx) (scope : Scope) (lv : Nat) (body : Expr) (E : XK) : TE := fun σ H Q => ∀ (A : Around) (outer : List Env) (s : Shared) (H0 : Hp) (f c' : Addr), Room lv (A.deeper (lamEnv X scope s.heap.objs.size f c')) → SE (lamCx X A outer s H0 E scope f c') body σ H Q
theorem hr_refused {r : S → R Vl} {params : Arguments} {body : Expr} {scope : Scope} {x : Str} {c P : Addr} (hr : Room (lv + 2) X.A) (hx : Gl X x) (hdb : (x == ("__debug__" : Str)) = false) (rc : RefC X.K X.mg G.C x) (ec : ErrX X.K G.C) (tb : LamTb G X c P) (L : LamS X.env.scope scope) (hdef : defaultsOf params X.env = ([], []))
    (hbind : ∀ (q : Str) (cl : List (Str × Addr)) (pm cv ctv : Value), bindArgs (PySem.W.kla_fn "<lambda>" q params body scope cl pm cv ctv) ⟨[], []⟩ = pure []) (hb : AllL X scope lv fun E Y => HR G E Y r body) :
    HR G EX X (refR r) (.Call (.Name x p) [.Lambda params body scope lpos] [] pos) := by
  intro s σ F H Q q pp
  obtain ⟨g, oc, od, pg, sg, dV, kV, doc, pm, cdv, ct, an, osl, j, p1, p2, p3, p4, p5, p6, p7, p8, p9, p10, p11, hm, hk, lk, hcg, hbd, Sg, h1, h2, h3⟩ := rc.ex
  intro pins st I
  refine wpAny_Call_Name_kw (ld_glob I hx hm ?_ hdb)
  refine PySem.W.callWith_K (h₀ := X.base) I.ok.mod.kin hk ?_ (by rfl) (by rfl)
  show wpAny _ _ (spliced ((false, eval (.Lambda params body scope lpos) X.env) :: backTo pos (starEach [] X.env))) _ _ st
  obtain ⟨hFP, hTab⟩ := q.tab _ tb.mem
  refine Calls.spliced_cons (lam_mk I tb.tb tb.code hTab hdef (L.has I.ok) fun f c' pm' ctv H1 s' I1 hH hf hfn hfr hco => ?_)
  obtain ⟨q1, g1⟩ : Rel G.K G.T s σ F H1 ∧ Go G.T s σ F H s σ F H1 := by
    rcases hH with rfl | ⟨hn, ps, gp, e1, e2, rfl⟩
    · exact ⟨q, Go.refl⟩
    · exact ⟨q.tabUp e1 hFP ⟨_, tb.mem, rfl⟩ tb.one hn e2, Go.refl.tabUp ⟨_, tb.mem, rfl⟩ hn⟩
  refine Calls.spliced_nil ⟨I1.kIn, ?_⟩
  have hTT : TTref G.C ⟨#[]⟩ (fun E H' Q' => uL X scope lv body E σ H' Q') H1 Q := by
    intro A outer s0 H0 f0 c0 hr2
    refine hb A outer s0 H0 _ f0 c0 hr2 s σ F H1 _ q1 ?_
    unfold refR at pp
    cases hrs : r s with
    | ok v s2 =>
      rw [hrs] at pp
      exact fun F' H' gg rr w _ _ => (pp.ok (g1.trans gg) rr) _ (.str _) trivial
    | exc nm s2 =>
      rw [hrs] at pp
      intro y d F' H' e gg rr hd hn
      subst e
      exact ⟨rfl, d, y, rfl, hd, (pp.ok (g1.trans gg) rr) _ (.str _) trivial⟩
    | stuck => rw [hrs] at pp; exact pp.elim
  have rcall : codeAny (model X.prog X.w) X.A (.call (.ref g) ⟨[.ref f], []⟩) (L2.CR C8.CX0 X.stack X.prog X.w H1 s' Q C8.E0) s' := by
    refine run_ofS (N := ["call", "e"]) (ps := ["call"]) (us := [.ref f]) (vs := [.ref f]) lk hcg Sg hr I1.env0 (hbd s' [.ref f] I1.kIn rfl) (.cons rfl .nil) rfl fun hr' => ?_
    obtain ⟨t', ht', hq'⟩ := ref_gives (X := X) (Ng := ["call", "e"]) (x := x) (a := "call") (ec := "BadArgument") (q := X.env.qual ++ "<lambda>") (ret := ⟨#[]⟩) (sg := sg) (g := g) (C := G.C) (cdg := cdv) (j := j) (p1 := p1) (p2 := p2) (p3 := p3) (p4 := p4) (p5 := p5) (p6 := p6) (p7 := p7) (p8 := p8) (p9 := p9) (p10 := p10) (p11 := p11)
      h1 rc.err (by decide) (by decide) rfl h2 (fun f => rfl) ec f c' s' H1 Q (fun E H' Q' => uL X scope lv body E σ H' Q') (fun W pn xe E p1 p2 tk hW => pe_act (i := 0) I1 L hf hfn hfr (hbind _ _ _ _ _) tk hW hr' (fun A outer s H hr2 => ⟨fun pins' s2 σ2 H2 Q2 J hh => hh A outer s H f c' hr2 pins' s2 J⟩) rfl (.inl h3) (by decide) (by decide)) hco hTT
    exact ⟨t', ht'.nox, hq'⟩
  refine wpAny_call (codeAny_mono rcall fun rr s2 hq => ?_)
  cases rr with
  | error e => exact (show False from hq).elim
  | ok fl =>
    cases fl with
    | ret u => exact I1.after hq
    | next => exact False.elim hq
    | brk => exact False.elim hq
    | cont => exact False.elim hq
end
end Fs
set_option Elab.async false
set_option linter.all false
set_option maxRecDepth 100000
set_option maxHeartbeats 2000000
namespace Fs
open PySem PySem.Spec PyProof.Rows L2
/-! ### what the checks rest on -/
/-- of a def: its names; the module ints; the names left to the builtins; the defs (name, parameters, how many by place); has it generator expressions, lambdas; the name of refused -/
structure Cf where
  N : List Str
  gis : List (Str × Int)
  bts : List Str
  fns : List (Str × List Str × List Nat)
  gen : Bool
  lam : Bool
  ref : Str
section
variable (G : Gl0) (C : CT) (cf : Cf) (lv : Nat)
structure CxOk (top : Bool) (sc : Scope) (EX : XK) (X : Cx) : Prop where
  K : X.K = G.K
  N : X.N = cf.N
  nd : X.N.Nodup
  sc : X.env.scope = sc
  calm : X.calm = true
  room : Room (lv + if top = true then 3 else 0) X.A
  gis : ∀ x i, cf.gis.lookup x = some i → ∃ t, X.mg x = some (.int i t)
  bts : ∀ x ∈ cf.bts, X.mg x = none
  fns : ∀ (fi : Nat) (x : Str) (ps : List Str) (ms : List Nat), cf.fns[fi]? = some (x, ps, ms) → FnFact G C lv X.prog X.w X.K X.mg X.base fi x ps.length ps ms
  tk : Takes X fun c d _ H => EX c d H
  fn : top = true → ∀ x, X.fn x = true
  gen : top = true → cf.gen = true → ∃ c P, GenTb G X c P
  lam : top = true → cf.lam = true → ∃ c P, LamTb G X c P
  ref : cf.lam = true → RefC X.K X.mg G.C cf.ref ∧ ErrX X.K G.C
end
section
variable {G : Gl0} {C : CT} {cf : Cf} {lv : Nat} {top : Bool} {sc : Scope} {EX : XK} {X : Cx} {f : E → S → R Vl}
theorem CxOk.rm (h : CxOk G C cf lv top sc EX X) : Room lv X.A := h.room.mono (by omega)
theorem CxOk.blk (h : CxOk G C cf lv top sc EX X) (scope : Scope) : AllB X scope fun Y => CxOk G C cf lv false (relS scope sc) EX0 Y := fun s H D cl fp =>
  ⟨h.K, h.N, h.nd, by rw [← h.sc]; rfl, h.calm, h.rm, h.gis, h.bts, h.fns, LamX.takes0, fun z => absurd z Bool.false_ne_true, fun z => absurd z Bool.false_ne_true, fun z => absurd z Bool.false_ne_true, h.ref⟩
theorem CxOk.genc (h : CxOk G C cf lv top sc EX X) (scope : Scope) : AllG X scope lv fun Y => CxOk G C cf lv false scope EX0 Y := fun s H D code fp B pn hr =>
  ⟨h.K, h.N, h.nd, rfl, rfl, hr, h.gis, h.bts, h.fns, LamX.takes0, fun z => absurd z Bool.false_ne_true, fun z => absurd z Bool.false_ne_true, fun z => absurd z Bool.false_ne_true, h.ref⟩
theorem CxOk.lamc (h : CxOk G C cf lv top sc EX X) (scope : Scope) : AllL X scope lv fun E Y => CxOk G C cf lv false scope E Y := fun A outer s H E f c' hr =>
  ⟨h.K, h.N, h.nd, rfl, rfl, hr, h.gis, h.bts, h.fns, takes_of rfl rfl rfl rfl, fun z => absurd z Bool.false_ne_true, fun z => absurd z Bool.false_ne_true, fun z => absurd z Bool.false_ne_true, h.ref⟩
/-! ### names -/
def visB (sc : Scope) (x : Str) : Bool := match sc.names.lookup x with
  | some .local => true | some .cell => true | some .free => true
  | _ => false
theorem visB_ok {x : Str} (h : visB sc x = true) : Vis sc x := by
  unfold visB at h
  split at h
  · exact .inl ‹_›
  · exact .inr (.inl ‹_›)
  · exact .inr (.inr ‹_›)
  · cases h
def glB (sc : Scope) (x : Str) : Bool := decide (sc.names.lookup x = some .globalImplicit) && !(x == ("__debug__" : Str))
def nmB (cf : Cf) (sc : Scope) (i : Nat) (x : Str) : Bool := decide (cf.N[i]? = some x) && visB sc x && !(x == ("__debug__" : Str)) && !(x == ("__classdict__" : Str))
theorem nmB_ok (h : CxOk G C cf lv top sc EX X) {i : Nat} {x : Str} (e : nmB cf sc i x = true) : NmOk X i x := by
  unfold nmB at e
  simp only [Bool.and_eq_true, Bool.not_eq_true', decide_eq_true_eq] at e
  exact ⟨by rw [h.N]; exact e.1.1.1, by rw [h.sc]; exact visB_ok e.1.1.2, e.1.2, e.2⟩
theorem glB_ok (h : CxOk G C cf lv top sc EX X) {x : Str} (e : glB sc x = true) : Gl X x ∧ (x == ("__debug__" : Str)) = false := by
  unfold glB at e
  simp only [Bool.and_eq_true, Bool.not_eq_true', decide_eq_true_eq] at e
  exact ⟨by show X.env.scope.names.lookup x = _; rw [h.sc]; exact e.1, e.2⟩
def btB (cf : Cf) (sc : Scope) (x : Str) : Bool := glB sc x && cf.bts.contains x
theorem btB_ok (h : CxOk G C cf lv top sc EX X) {x : Str} (e : btB cf sc x = true) : BtOk X x := by
  unfold btB at e
  rw [Bool.and_eq_true] at e
  exact ⟨(glB_ok h e.1).1, h.bts _ (List.contains_iff_mem.mp e.2)⟩
/-- a target of a store -/
def tgB (cf : Cf) (top : Bool) (sc : Scope) (i : Nat) (x : Str) : Bool := decide (cf.N[i]? = some x) && (decide (sc.names.lookup x = some .local) || (top && decide (sc.names.lookup x = some .cell)))
theorem tgB_ok (h : CxOk G C cf lv top sc EX X) {i : Nat} {x : Str} (e : tgB cf top sc i x = true) : TgOk X i x := by
  unfold tgB at e
  simp only [Bool.and_eq_true, Bool.or_eq_true, decide_eq_true_eq] at e
  have hN : X.N[i]? = some x := by rw [h.N]; exact e.1
  rcases e.2 with hl | ⟨ht, hl⟩
  · have hl : X.env.scope.names.lookup x = some .local := by rw [h.sc]; exact hl
    exact ⟨hN, .inl hl, .inr hl⟩
  · have hl : X.env.scope.names.lookup x = some .cell := by rw [h.sc]; exact hl
    exact ⟨hN, .inr hl, .inl (h.fn ht x)⟩
/-! ### operands, lists of them -/
abbrev CkF : Type := Bool → Scope → E → Expr → Bool
def SndE (G : Gl0) (C : CT) (cf : Cf) (lv : Nat) (ck : CkF) (f : E → S → R Vl) : Prop := ∀ top sc EX X e x, CxOk G C cf lv top sc EX X → ck top sc e x = true → HR G EX X (f e) x
def SndT (G : Gl0) (C : CT) (cf : Cf) (lv : Nat) (ck : CkF) (f : E → S → R Vl) : Prop := ∀ top sc EX X e x, CxOk G C cf lv top sc EX X → ck top sc e x = true → HT G EX X (fun s => tst (f e s)) x
def ckP (cf : Cf) (ck : CkF) : CkF := fun top sc e x => match e with
  | .ref i => (match x with
    | .Name y _ => nmB cf sc i y
    | _ => false)
  | e => ck top sc e x
theorem ckP_ok {ck : CkF} (hs : SndE G C cf lv ck f) (h : CxOk G C cf lv top sc EX X) {e : E} {x : Expr} (k : ckP cf ck top sc e x = true) : HP G EX X (opd f e) x := by
  unfold ckP at k
  split at k
  · split at k
    · have n := nmB_ok h k
      exact ho_ref n.at_ n.vis n.d n.c
    · cases k
  · rename_i hne
    exact ho_of (fun i z => hne i z) (hs _ _ _ _ _ _ h k)
def ckL (ck : CkF) (top : Bool) (sc : Scope) : List E → List Expr → Bool
  | [], [] => true
  | e :: es, x :: xs => !isStar x && (ck top sc e x && ckL ck top sc es xs)
  | _, _ => false
theorem ckL_len {ck : CkF} : ∀ {es : List E} {xs : List Expr}, ckL ck top sc es xs = true → es.length = xs.length
  | [], [], _ => rfl
  | [], _ :: _, k => by cases k
  | _ :: _, [], k => by cases k
  | e :: es, x :: xs, k => by
    unfold ckL at k
    simp only [Bool.and_eq_true] at k
    simp [ckL_len k.2.2]
theorem ckL_star {ck : CkF} : ∀ {es : List E} {xs : List Expr}, ckL ck top sc es xs = true → xs.any isStar = false
  | [], [], _ => rfl
  | [], _ :: _, k => by cases k
  | _ :: _, [], k => by cases k
  | e :: es, x :: xs, k => by
    unfold ckL at k
    simp only [Bool.and_eq_true, Bool.not_eq_true'] at k
    simp [k.1, ckL_star k.2.2]
theorem ckL_ds {ck : CkF} (hs : SndE G C cf lv ck f) (h : CxOk G C cf lv top sc EX X) : ∀ {es : List E} {xs : List Expr}, ckL ck top sc es xs = true → HDs G EX X (evs f es) xs
  | [], [], _ => hds_nil
  | [], _ :: _, k => by cases k
  | _ :: _, [], k => by cases k
  | e :: es, x :: xs, k => by
    unfold ckL at k
    simp only [Bool.and_eq_true, Bool.not_eq_true'] at k
    exact hds_cons (hs _ _ _ _ _ _ h k.2.1) (ckL_ds hs h k.2.2) k.1
theorem ckL_ps {ck : CkF} (hs : SndE G C cf lv ck f) (h : CxOk G C cf lv top sc EX X) : ∀ {es : List E} {xs : List Expr}, ckL (ckP cf ck) top sc es xs = true → HPs G EX X (opds f es) xs
  | [], [], _ => hos_nil
  | [], _ :: _, k => by cases k
  | _ :: _, [], k => by cases k
  | e :: es, x :: xs, k => by
    unfold ckL at k
    simp only [Bool.and_eq_true, Bool.not_eq_true'] at k
    exact hos_cons (ckP_ok hs h k.2.1) (ckL_ps hs h k.2.2) k.1
/-- positional, then keyword arguments -/
def ckK (ck : CkF) (top : Bool) (sc : Scope) : List E → List Expr → List Keyword → Bool
  | [], [], [] => true
  | e :: es, [], ⟨_, x, _⟩ :: kws => ck top sc e x && ckK ck top sc es [] kws
  | e :: es, x :: xs, kws => !isStar x && (ck top sc e x && ckK ck top sc es xs kws)
  | _, _, _ => false
theorem ckK_ok {ck : CkF} (hs : SndE G C cf lv ck f) (h : CxOk G C cf lv top sc EX X) : ∀ {es : List E} {xs : List Expr} {kws : List Keyword}, ckK (ckP cf ck) top sc es xs kws = true → HPk G EX X (opds f es) xs kws ∧ xs.any isStar = false
  | [], [], [], _ => ⟨hpk_nil, rfl⟩
  | [], [], _ :: _, k => by cases k
  | [], _ :: _, _, k => by cases k
  | e :: es, [], ⟨nm, x, kp⟩ :: kws, k => by
    unfold ckK at k
    rw [Bool.and_eq_true] at k
    exact ⟨hpk_kw (ckP_ok hs h k.1) (ckK_ok hs h k.2).1, rfl⟩
  | _ :: _, [], [], k => by cases k
  | e :: es, x :: xs, kws, k => by
    unfold ckK at k
    simp only [Bool.and_eq_true, Bool.not_eq_true'] at k
    obtain ⟨h1, h2⟩ := ckK_ok hs h k.2.2
    exact ⟨hpk_cons (ckP_ok hs h k.2.1) h1, by simp [k.1, h2]⟩
/-! ### scopes of comprehensions -/
def ownNs (cf : Cf) (own : List Nat) : List (Str × Nat) := own.map fun i => ((cf.N[i]?).getD ⟨#[]⟩, i)
def blkB (cf : Cf) (sc scope : Scope) (own : List Nat) : Bool :=
  decide (scope.kind = .function) && scope.names.all (fun y => decide (scope.names.lookup y.1 = some y.2)) && own.all (fun i => decide (i < cf.N.length))
    && scope.names.all (fun y => !decide (y.2 = .free) || decide (sc.names.lookup y.1 = some .cell) || decide (sc.names.lookup y.1 = some .free))
    && scope.names.all (fun y => !(decide (y.2 = .local) || decide (y.2 = .cell)) || ((ownNs cf own).map (·.1)).contains y.1 || !cf.N.contains y.1)
theorem blkB_ok (h : CxOk G C cf lv top sc EX X) {scope : Scope} {own : List Nat} (k : blkB cf sc scope own = true) : BlkOk X.N X.env.scope scope (ownNs cf own) ∧ (ownNs cf own).map (·.2) = own := by
  unfold blkB at k
  simp only [Bool.and_eq_true, Bool.or_eq_true, Bool.not_eq_true', decide_eq_true_eq, decide_eq_false_iff_not, List.all_eq_true, Bool.or_eq_false_iff] at k
  obtain ⟨⟨⟨⟨k1, k2⟩, k3⟩, k4⟩, k5⟩ := k
  refine ⟨⟨k1, fun y hy => k2 y hy, fun p hp => ?_, fun y hy e => ?_, fun y hy e => ?_⟩, ?_⟩
  · obtain ⟨i, hi, rfl⟩ := List.mem_map.mp hp
    show X.N[i]? = _
    rw [h.N]
    have := k3 i hi
    rw [List.getElem?_eq_getElem this]; rfl
  · rw [h.sc]
    rcases k4 y hy with (z | z) | z
    · exact absurd e z
    · exact .inl z
    · exact .inr z
  · rw [h.N]
    rcases k5 y hy with (z | z) | z
    · rcases e with e | e
      · exact absurd e z.1
      · exact absurd e z.2
    · exact .inl (List.contains_iff_mem.mp z)
    · exact .inr fun hm => by rw [List.contains_iff_mem.mpr hm] at z; cases z
  · show List.map _ (List.map _ own) = own
    rw [List.map_map]
    exact List.map_id' own
def gnB (cf : Cf) (sc scope : Scope) (x : Str) : Bool :=
  decide (scope.kind = .function) && !scope.isCoroutine && scope.names.all (fun y => !decide (y.2 = .cell)) && decide (scope.names.lookup (".0" : Str) = some .local) && decide (scope.names.lookup x = some .local)
    && scope.names.all (fun y => !decide (y.2 = .local) || y.1 == x || !cf.N.contains y.1)
    && scope.names.all (fun y => !decide (y.2 = .free) || decide (sc.names.lookup y.1 = some .cell) || decide (sc.names.lookup y.1 = some .free))
theorem gnB_ok (h : CxOk G C cf lv top sc EX X) {scope : Scope} {x : Str} (k : gnB cf sc scope x = true) : GnS X.N X.env.scope scope x := by
  unfold gnB at k
  simp only [Bool.and_eq_true, Bool.or_eq_true, Bool.not_eq_true', decide_eq_true_eq, decide_eq_false_iff_not, List.all_eq_true] at k
  obtain ⟨⟨⟨⟨⟨⟨k1, k2⟩, k3⟩, k4⟩, k5⟩, k6⟩, k7⟩ := k
  refine ⟨k1, k2, k3, k4, k5, fun y hy e => ?_, fun y hy e => ?_⟩
  · rw [h.N]
    rcases k6 y hy with (z | z) | z
    · exact absurd e z
    · exact .inl (eq_of_beq z)
    · exact .inr fun hm => by rw [List.contains_iff_mem.mpr hm] at z; cases z
  · rw [h.sc]
    rcases k7 y hy with (z | z) | z
    · exact absurd e z
    · exact .inl z
    · exact .inr z
/-! ### targets -/
def ckTs (p : Nat → Str → Bool) : List Nat → List Expr → Bool
  | [], [] => true
  | i :: is, .Name x _ :: xs => p i x && ckTs p is xs
  | _, _ => false
theorem ckTs_ok {p : Nat → Str → Bool} (hp : ∀ i x, p i x = true → TgOk X i x) : ∀ {is : List Nat} {xs : List Expr}, ckTs p is xs = true → TgsOk X is xs
  | [], [], _ => .nil
  | [], _ :: _, k => by cases k
  | _ :: _, [], k => by cases k
  | i :: is, x :: xs, k => by
    unfold ckTs at k
    split at k
    · rename_i e1 e2; cases e1
    · rename_i e1 e2
      cases e1; cases e2
      rw [Bool.and_eq_true] at k
      exact .cons (hp _ _ k.1) (ckTs_ok hp k.2)
    · cases k
/-- a block's own names -/
def tgBB (cf : Cf) (scope : Scope) (i : Nat) (x : Str) : Bool := decide (cf.N[i]? = some x) && (decide (scope.names.lookup x = some .local) || decide (scope.names.lookup x = some .cell))
theorem tgBB_ok (h : CxOk G C cf lv top sc EX X) {scope : Scope} : AllB X scope fun Y => ∀ i x, tgBB cf scope i x = true → TgOk Y i x := fun s H D cl fp i x e => by
  unfold tgBB at e
  simp only [Bool.and_eq_true, Bool.or_eq_true, decide_eq_true_eq] at e
  have hN : X.N[i]? = some x := by rw [h.N]; exact e.1
  rcases e.2 with hl | hl
  · have hl := lookup_relS_keep (sc := X.env.scope) (by decide) hl
    exact ⟨hN, .inl hl, .inr hl⟩
  · have hl2 := lookup_relS_keep (sc := X.env.scope) (by decide) hl
    exact ⟨hN, .inr hl2, .inl (by show (scope.names.lookup x == some .cell) = true; rw [hl]; rfl)⟩
end
end Fs
set_option Elab.async false
set_option linter.all false
set_option maxRecDepth 100000
set_option maxHeartbeats 2000000
namespace Fs
open PySem PySem.Spec PyProof.Rows L2
section
variable {G : Gl0} {C : CT} {cf : Cf} {lv : Nat} {top : Bool} {sc : Scope} {EX : XK} {X : Cx} {f : E → S → R Vl} {ck ckt : CkF} {e a b c d : E} {x : Expr}
/-! ### expressions, one by one -/
def strip1 : Expr → Expr
  | .BoolOp _ [x] _ => x
  | x => x
theorem strip_hr {r : S → R Vl} (h : HR G EX X r (strip1 x)) : HR G EX X r x := by
  unfold strip1 at h
  split at h
  · exact hr_one h
  · exact h
theorem strip_ht {r : S → R Bool} (h : HT G EX X r (strip1 x)) : HT G EX X r x := by
  unfold strip1 at h
  split at h
  · exact ht_one h
  · exact h
def ckLit (d : D) (x : Expr) : Bool := match x with
  | .Constant c _ _ => constOk d c
  | _ => false
theorem ckLit_ok {d : D} (k : ckLit d x = true) : HR G EX X (fun s => .ok (.dat d) s) x := by
  unfold ckLit at k
  split at k
  · exact hr_lit k
  · cases k
def ckGint (cf : Cf) (sc : Scope) (i : Int) (x : Expr) : Bool := match x with
  | .Name y _ => glB sc y && decide (cf.gis.lookup y = some i)
  | _ => false
theorem ckGint_ok (h : CxOk G C cf lv top sc EX X) {i : Int} (k : ckGint cf sc i x = true) : HR G EX X (fun s => .ok (.dat (.int i)) s) x := by
  unfold ckGint at k
  split at k
  · simp only [Bool.and_eq_true, decide_eq_true_eq] at k
    obtain ⟨t, ht⟩ := h.gis _ _ k.2
    exact hr_gint (glB_ok h k.1).1 ht (glB_ok h k.1).2
  · cases k
def ckNm (cf : Cf) (sc : Scope) (i : Nat) (x : Expr) : Bool := match x with
  | .Name y _ => nmB cf sc i y
  | _ => false
theorem ckNm_ok (h : CxOk G C cf lv top sc EX X) {i : Nat} (k : ckNm cf sc i x = true) : ∃ y pos, x = .Name y pos ∧ NmOk X i y := by
  unfold ckNm at k
  split at k
  · exact ⟨_, _, rfl, nmB_ok h k⟩
  · cases k
def ckTup (ck : CkF) (top : Bool) (sc : Scope) (es : List E) (x : Expr) : Bool := match x with
  | .Tuple xs _ _ => decide (xs.length ≤ 1000) && ckL ck top sc es xs
  | _ => false
theorem ln1000 {n : Nat} (h : n ≤ 1000) : n ≤ sizeLine := by rw [← lim_eq]; unfold lim; omega
theorem ckTup_ok (hs : SndE G C cf lv ck f) (h : CxOk G C cf lv top sc EX X) {es : List E} (k : ckTup ck top sc es x = true) : HR G EX X (fun s => (evs f es s).bind fun ds s => .ok (.dat (.tuple ds)) s) x := by
  unfold ckTup at k
  split at k
  · simp only [Bool.and_eq_true, decide_eq_true_eq] at k
    exact hr_tup (ckL_ds hs h k.2) (ln1000 k.1) fun s ds s' e => by rw [evs_len _ _ _ _ e, ckL_len k.2]
  · cases k
def ckLst (ck : CkF) (top : Bool) (sc : Scope) (es : List E) (x : Expr) : Bool := match x with
  | .List xs _ => decide (xs.length ≤ 1000) && ckL ck top sc es xs
  | _ => false
theorem ckLst_ok (hs : SndE G C cf lv ck f) (h : CxOk G C cf lv top sc EX X) {es : List E} (k : ckLst ck top sc es x = true) : HR G EX X (fun s => (evs f es s).bind fun ds s => .ok (.fr (.list ds)) s) x := by
  unfold ckLst at k
  split at k
  · simp only [Bool.and_eq_true, decide_eq_true_eq] at k
    exact hr_lst (ckL_ds hs h k.2) (ln1000 k.1) fun s ds s' e => by rw [evs_len _ _ _ _ e, ckL_len k.2]
  · cases k
def ckBin (cf : Cf) (ck : CkF) (top : Bool) (sc : Scope) (op : BOp) (a b : E) (x : Expr) : Bool := match x with
  | .BinOp xa o xb _ => decide (o = bop op) && (ckP cf ck top sc a xa && ckP cf ck top sc b xb)
  | _ => false
theorem ckBin_ok (hs : SndE G C cf lv ck f) (h : CxOk G C cf lv top sc EX X) {op : BOp} (k : ckBin cf ck top sc op a b x = true) : HR G EX X (fun s => withO f [a, b] s fun
      | [x, y] => binop op x y
      | _ => none) x := by
  unfold ckBin at k
  split at k
  · simp only [Bool.and_eq_true, decide_eq_true_eq] at k
    rw [k.1]
    exact hr_bin h.K op (ckP_ok hs h k.2.1) (ckP_ok hs h k.2.2)
  · cases k
def ckNeg (cf : Cf) (ck : CkF) (top : Bool) (sc : Scope) (a : E) (x : Expr) : Bool := match x with
  | .UnaryOp .USub xa _ => ckP cf ck top sc a xa
  | _ => false
theorem ckNeg_ok (hs : SndE G C cf lv ck f) (h : CxOk G C cf lv top sc EX X) (k : ckNeg cf ck top sc a x = true) : HR G EX X (fun s => withO f [a] s fun
      | [.int i] => some (.dat (.int (-i)))
      | _ => none) x := by
  unfold ckNeg at k
  split at k
  · exact hr_neg (ckP_ok hs h k)
  · cases k
def ckNot (ck : CkF) (top : Bool) (sc : Scope) (a : E) (x : Expr) : Bool := match x with
  | .UnaryOp .Not xa _ => ck top sc a xa
  | _ => false
theorem ckNot_ok (hs : SndE G C cf lv ck f) (h : CxOk G C cf lv top sc EX X) (k : ckNot ck top sc a x = true) : HR G EX X (fun s => (tst (f a s)).bind fun b s => .ok (.dat (.bool !b)) s) x := by
  unfold ckNot at k
  split at k
  · exact hr_not (hs _ _ _ _ _ _ h k)
  · cases k
theorem ckNotT_ok (hs : SndT G C cf lv ck f) (h : CxOk G C cf lv top sc EX X) (k : ckNot ck top sc a x = true) : HT G EX X (fun s => tst ((tst (f a s)).bind fun b s => .ok (.dat (.bool !b)) s)) x := by
  unfold ckNot at k
  split at k
  · exact ht_not (hs _ _ _ _ _ _ h k)
  · cases k
def ckCmp (cf : Cf) (ck : CkF) (top : Bool) (sc : Scope) (op : COp) (a b : E) (x : Expr) : Bool := match x with
  | .Compare xa [o] [xb] _ => decide (o = cop op) && !behindInMarks (cop op) xb && (ckP cf ck top sc a xa && ckP cf ck top sc b xb)
  | _ => false
theorem ckCmp_ok (hs : SndE G C cf lv ck f) (h : CxOk G C cf lv top sc EX X) {op : COp} (k : ckCmp cf ck top sc op a b x = true) : HR G EX X (fun s => withO f [a, b] s fun
      | [x, y] => lift (cmpD op x y)
      | _ => none) x ∧ HT G EX X (fun s => tst (withO f [a, b] s fun
      | [x, y] => lift (cmpD op x y)
      | _ => none)) x := by
  unfold ckCmp at k
  split at k
  · simp only [Bool.and_eq_true, decide_eq_true_eq, Bool.not_eq_true'] at k
    rw [k.1.1]
    exact ⟨hr_cmp h.rm h.K op (ckP_ok hs h k.2.1) (ckP_ok hs h k.2.2) k.1.2, ht_cmp h.rm h.K op (ckP_ok hs h k.2.1) (ckP_ok hs h k.2.2) k.1.2⟩
  · cases k
def ckIsN (cf : Cf) (ck : CkF) (top : Bool) (sc : Scope) (a : E) (x : Expr) : Bool := match x with
  | .Compare xa [.Is] [.Constant .none _ _] _ => ckP cf ck top sc a xa
  | _ => false
theorem ckIsN_ok (hs : SndE G C cf lv ck f) (h : CxOk G C cf lv top sc EX X) (k : ckIsN cf ck top sc a x = true) : HR G EX X (fun s => withO f [a] s fun
      | [.none] => some (.dat (.bool true))
      | [_] => some (.dat (.bool false))
      | _ => none) x ∧ HT G EX X (fun s => tst (withO f [a] s fun
      | [.none] => some (.dat (.bool true))
      | [_] => some (.dat (.bool false))
      | _ => none)) x := by
  unfold ckIsN at k
  split at k
  · exact ⟨hr_isN (ckP_ok hs h k), ht_isN (ckP_ok hs h k)⟩
  · cases k
def ckNotN (cf : Cf) (ck : CkF) (top : Bool) (sc : Scope) (a : E) (x : Expr) : Bool := match x with
  | .Compare xa [.IsNot] [.Constant .none _ _] _ => ckP cf ck top sc a xa
  | _ => false
theorem ckNotN_ok (hs : SndE G C cf lv ck f) (h : CxOk G C cf lv top sc EX X) (k : ckNotN cf ck top sc a x = true) : HR G EX X (fun s => withO f [a] s fun
      | [.none] => some (.dat (.bool false))
      | [_] => some (.dat (.bool true))
      | _ => none) x ∧ HT G EX X (fun s => tst (withO f [a] s fun
      | [.none] => some (.dat (.bool false))
      | [_] => some (.dat (.bool true))
      | _ => none)) x := by
  unfold ckNotN at k
  split at k
  · exact ⟨hr_notN (ckP_ok hs h k), ht_notN (ckP_ok hs h k)⟩
  · cases k
def ckCh2 (ck : CkF) (top : Bool) (sc : Scope) (o1 o2 : COp) (a b c : E) (x : Expr) : Bool := match x with
  | .Compare xa [p1, p2] [xb, xc] _ => decide (p1 = cop o1) && decide (p2 = cop o2) && !lastMarks [cop o1, cop o2] [xb, xc] && (ck top sc a xa && (ck top sc b xb && ck top sc c xc))
  | _ => false
theorem ckCh2_ok (hs : SndE G C cf lv ck f) (h : CxOk G C cf lv top sc EX X) {o1 o2 : COp} (k : ckCh2 ck top sc o1 o2 a b c x = true) : HR G EX X (fun s => (f a s).bind fun x s => (f b s).bind fun y s => (match cmpD o1 x.d y.d with
      | some true => (f c s).bind fun z s => toR (lift (cmpD o2 y.d z.d)) s
      | some false => .ok (.dat (.bool false)) s
      | none => .stuck)) x ∧ HT G EX X (fun s => tst ((f a s).bind fun x s => (f b s).bind fun y s => (match cmpD o1 x.d y.d with
      | some true => (f c s).bind fun z s => toR (lift (cmpD o2 y.d z.d)) s
      | some false => .ok (.dat (.bool false)) s
      | none => .stuck))) x := by
  unfold ckCh2 at k
  split at k
  · simp only [Bool.and_eq_true, decide_eq_true_eq, Bool.not_eq_true'] at k
    obtain ⟨⟨⟨k1, k2⟩, k3⟩, k4, k5, k6⟩ := k
    rw [k1, k2]
    exact ⟨hr_ch2 h.rm h.K o1 o2 (hs _ _ _ _ _ _ h k4) (hs _ _ _ _ _ _ h k5) (hs _ _ _ _ _ _ h k6) k3, ht_ch2 h.rm h.K o1 o2 (hs _ _ _ _ _ _ h k4) (hs _ _ _ _ _ _ h k5) (hs _ _ _ _ _ _ h k6) k3⟩
  · cases k
def ckCh3 (ck : CkF) (top : Bool) (sc : Scope) (o1 o2 o3 : COp) (a b c d : E) (x : Expr) : Bool := match x with
  | .Compare xa [p1, p2, p3] [xb, xc, xd] _ => decide (p1 = cop o1) && decide (p2 = cop o2) && decide (p3 = cop o3) && !lastMarks [cop o1, cop o2, cop o3] [xb, xc, xd] && (ck top sc a xa && (ck top sc b xb && (ck top sc c xc && ck top sc d xd)))
  | _ => false
theorem ckCh3_ok (hs : SndE G C cf lv ck f) (h : CxOk G C cf lv top sc EX X) {o1 o2 o3 : COp} (k : ckCh3 ck top sc o1 o2 o3 a b c d x = true) : HR G EX X (fun s => (f a s).bind fun x s => (f b s).bind fun y s => (match cmpD o1 x.d y.d with
      | some true => (f c s).bind fun z s => (match cmpD o2 y.d z.d with
        | some true => (f d s).bind fun u s => toR (lift (cmpD o3 z.d u.d)) s
        | some false => .ok (.dat (.bool false)) s
        | none => .stuck)
      | some false => .ok (.dat (.bool false)) s
      | none => .stuck)) x := by
  unfold ckCh3 at k
  split at k
  · simp only [Bool.and_eq_true, decide_eq_true_eq, Bool.not_eq_true'] at k
    obtain ⟨⟨⟨⟨k1, k2⟩, k3⟩, k9⟩, k4, k5, k6, k7⟩ := k
    rw [k1, k2, k3]
    exact hr_ch3 h.rm h.K o1 o2 o3 (hs _ _ _ _ _ _ h k4) (hs _ _ _ _ _ _ h k5) (hs _ _ _ _ _ _ h k6) (hs _ _ _ _ _ _ h k7) k9
  · cases k
def ckAnd (ck : CkF) (top : Bool) (sc : Scope) (a b : E) (x : Expr) : Bool := match x with
  | .BoolOp .And (xa :: xb :: rest) pos => ck top sc a xa && ck top sc b (.BoolOp .And (xb :: rest) pos)
  | _ => false
theorem ckAnd_ok (hs : SndE G C cf lv ck f) (h : CxOk G C cf lv top sc EX X) (k : ckAnd ck top sc a b x = true) : HR G EX X (fun s => (tst (f a s)).bind fun k s => (match k with
      | true => (tst (f b s)).bind fun k s => .ok (.dat (.bool k)) s
      | false => .ok (.dat (.bool false)) s)) x := by
  unfold ckAnd at k
  split at k
  · rw [Bool.and_eq_true] at k
    exact hr_and (hs _ _ _ _ _ _ h k.1) (hs _ _ _ _ _ _ h k.2)
  · cases k
theorem ckAndT_ok (hs : SndT G C cf lv ck f) (h : CxOk G C cf lv top sc EX X) (k : ckAnd ck top sc a b x = true) : HT G EX X (fun s => tst ((tst (f a s)).bind fun k s => (match k with
      | true => (tst (f b s)).bind fun k s => .ok (.dat (.bool k)) s
      | false => .ok (.dat (.bool false)) s))) x := by
  unfold ckAnd at k
  split at k
  · rw [Bool.and_eq_true] at k
    exact ht_and (hs _ _ _ _ _ _ h k.1) (hs _ _ _ _ _ _ h k.2)
  · cases k
def ckOr (ck : CkF) (top : Bool) (sc : Scope) (a b : E) (x : Expr) : Bool := match x with
  | .BoolOp .Or (xa :: xb :: rest) pos => ck top sc a xa && ck top sc b (.BoolOp .Or (xb :: rest) pos)
  | _ => false
theorem ckOr_ok (hs : SndE G C cf lv ck f) (h : CxOk G C cf lv top sc EX X) (k : ckOr ck top sc a b x = true) : HR G EX X (fun s => (tst (f a s)).bind fun k s => (match k with
      | true => .ok (.dat (.bool true)) s
      | false => (tst (f b s)).bind fun k s => .ok (.dat (.bool k)) s)) x := by
  unfold ckOr at k
  split at k
  · rw [Bool.and_eq_true] at k
    exact hr_or (hs _ _ _ _ _ _ h k.1) (hs _ _ _ _ _ _ h k.2)
  · cases k
theorem ckOrT_ok (hs : SndT G C cf lv ck f) (h : CxOk G C cf lv top sc EX X) (k : ckOr ck top sc a b x = true) : HT G EX X (fun s => tst ((tst (f a s)).bind fun k s => (match k with
      | true => .ok (.dat (.bool true)) s
      | false => (tst (f b s)).bind fun k s => .ok (.dat (.bool k)) s))) x := by
  unfold ckOr at k
  split at k
  · rw [Bool.and_eq_true] at k
    exact ht_or (hs _ _ _ _ _ _ h k.1) (hs _ _ _ _ _ _ h k.2)
  · cases k
def ckIfe (ck ckt : CkF) (top : Bool) (sc : Scope) (t a b : E) (x : Expr) : Bool := match x with
  | .IfExp xt xa xb _ => ckt top sc t xt && (ck top sc a xa && ck top sc b xb)
  | _ => false
theorem ckIfe_ok (hs : SndE G C cf lv ck f) (ht : SndT G C cf lv ckt f) (h : CxOk G C cf lv top sc EX X) {t : E} (k : ckIfe ck ckt top sc t a b x = true) : HR G EX X (fun s => (tst (f t s)).bind fun k s => (match k with
      | true => f a s
      | false => f b s)) x := by
  unfold ckIfe at k
  split at k
  · simp only [Bool.and_eq_true] at k
    exact hr_ife (ht _ _ _ _ _ _ h k.1) (hs _ _ _ _ _ _ h k.2.1) (hs _ _ _ _ _ _ h k.2.2)
  · cases k
def ckIdx (cf : Cf) (ck : CkF) (top : Bool) (sc : Scope) (a b : E) (x : Expr) : Bool := match x with
  | .Subscript xa xb _ => !isSlice xb && (ckP cf ck top sc a xa && ckP cf ck top sc b xb)
  | _ => false
theorem ckIdx_ok (hs : SndE G C cf lv ck f) (h : CxOk G C cf lv top sc EX X) (k : ckIdx cf ck top sc a b x = true) : HR G EX X (fun s => withS f [a, b] s fun
      | [x, y] => (idxD x y).map Vl.dat
      | _ => none) x := by
  unfold ckIdx at k
  split at k
  · simp only [Bool.and_eq_true, Bool.not_eq_true'] at k
    exact hr_idx h.K (ckP_ok hs h k.2.1) (ckP_ok hs h k.2.2) k.1
  · cases k
def ckO (ck : CkF) (top : Bool) (sc : Scope) : Option E → Option Expr → Bool
  | none, none => true
  | some e, some x => ck top sc e x
  | _, _ => false
theorem ckO_ok (hs : SndE G C cf lv ck f) (h : CxOk G C cf lv top sc EX X) : ∀ {o : Option E} {y : Option Expr}, ckO ck top sc o y = true → ∃ t, HPart G EX X (part f o) y t
  | none, none, _ => ⟨_, hpart_none⟩
  | none, some _, k => by cases k
  | some _, none, k => by cases k
  | some e, some x, k => ⟨_, hpart_some (hs _ _ _ _ _ _ h k)⟩
def ckSlc (cf : Cf) (ck : CkF) (top : Bool) (sc : Scope) (a : E) (lo hi : Option E) (x : Expr) : Bool := match x with
  | .Subscript xa (.Slice xl xh none _) _ => ckP cf ck top sc a xa && (ckO ck top sc lo xl && ckO ck top sc hi xh)
  | _ => false
theorem ckSlc_ok (hs : SndE G C cf lv ck f) (h : CxOk G C cf lv top sc EX X) {lo hi : Option E} (k : ckSlc cf ck top sc a lo hi x = true) : HR G EX X (fun s => (opds f [a] s).bind fun os s =>
      (part f lo s).bind fun l s => (part f hi s).bind fun h s => (match looksS s os with
        | some [d] => toR (slcD d l h) s
        | _ => .stuck)) x := by
  unfold ckSlc at k
  split at k
  · simp only [Bool.and_eq_true] at k
    obtain ⟨t1, h1⟩ := ckO_ok hs h k.2.1
    obtain ⟨t2, h2⟩ := ckO_ok hs h k.2.2
    exact hr_slc h.K (ckP_ok hs h k.1) h1 h2
  · cases k
def ckRev (cf : Cf) (ck : CkF) (top : Bool) (sc : Scope) (a : E) (x : Expr) : Bool := match x with
  | .Subscript xa (.Slice none none (some (.UnaryOp .USub (.Constant (.int 1) _ _) _)) _) _ => ckP cf ck top sc a xa
  | _ => false
theorem ckRev_ok (hs : SndE G C cf lv ck f) (h : CxOk G C cf lv top sc EX X) (k : ckRev cf ck top sc a x = true) : HR G EX X (fun s => withO f [a] s fun
      | [.list xs] => some (.fr (.list xs.reverse))
      | _ => none) x := by
  unfold ckRev at k
  split at k
  · exact hr_rev h.K (ckP_ok hs h k)
  · cases k
def ckCall (cf : Cf) (ck : CkF) (top : Bool) (sc : Scope) (fi : Nat) (es : List E) (x : Expr) : Bool := match x with
  | .Call (.Name nm _) xs kws _ => (match cf.fns[fi]? with
    | some (y, ps, ms) => decide (nm = y) && glB sc nm && ckK (ckP cf ck) top sc es xs kws && decide (xs.length ∈ ms) && decide (kwN kws = (ps.drop xs.length).map some) && decide (es.length = ps.length)
    | none => false)
  | _ => false
theorem ckCall_ok (hs : SndE G C cf lv ck f) (h : CxOk G C cf lv top sc EX X) {fi : Nat} {es : List E} (k : ckCall cf ck top sc fi es x = true) : HR G EX X (fun s => (opds f es s).bind fun os s => doCall C fi os s) x := by
  unfold ckCall at k
  split at k
  · split at k
    · rename_i e
      simp only [Bool.and_eq_true, decide_eq_true_eq] at k
      obtain ⟨⟨⟨⟨⟨k1, k2⟩, k3⟩, k4⟩, k5⟩, k6⟩ := k
      subst k1
      obtain ⟨h1, h2⟩ := ckK_ok hs h k3
      exact hr_call (h.fns _ _ _ _ e) h.rm (glB_ok h k2).1 (glB_ok h k2).2 h.tk h1 h2 k4 k5 k6
    · cases k
  · cases k
def ckPrim (cf : Cf) (ck : CkF) (top : Bool) (sc : Scope) (q : Pr) (es : List E) (x : Expr) : Bool := match x with
  | .Call (.Name nm _) (y :: ys) [] _ => plainP q && decide (nm = primN q) && btB cf sc nm && ckL (ckP cf ck) top sc es (y :: ys)
  | _ => false
theorem ckPrim_ok (hs : SndE G C cf lv ck f) (h : CxOk G C cf lv top sc EX X) {q : Pr} {es : List E} (k : ckPrim cf ck top sc q es x = true) : plainP q = true ∧ HR G EX X (fun s => withO f es s (prim q)) x := by
  unfold ckPrim at k
  split at k
  · simp only [Bool.and_eq_true, decide_eq_true_eq] at k
    obtain ⟨⟨⟨k1, k2⟩, k3⟩, k4⟩ := k
    subst k2
    have st := ckL_star k4
    rw [List.any_cons, Bool.or_eq_false_iff] at st
    exact ⟨k1, hr_prim h.rm h.calm h.K k1 (btB_ok h k3) (ckL_ps hs h k4) st.1 st.2⟩
  · cases k
def ckLen (cf : Cf) (ck : CkF) (top : Bool) (sc : Scope) (a : E) (x : Expr) : Bool := match x with
  | .Call (.Name nm _) [y] [] _ => decide (nm = "len") && btB cf sc nm && !isStar y && ckP cf ck top sc a y
  | _ => false
theorem ckLen_ok (hs : SndE G C cf lv ck f) (h : CxOk G C cf lv top sc EX X) (k : ckLen cf ck top sc a x = true) : HR G EX X (fun s => withS f [a] s (prim .len)) x := by
  unfold ckLen at k
  split at k
  · simp only [Bool.and_eq_true, decide_eq_true_eq, Bool.not_eq_true'] at k
    obtain ⟨⟨⟨k1, k2⟩, k3⟩, k4⟩ := k
    subst k1
    exact hr_len h.K (btB_ok h k2) (ckP_ok hs h k4) k3
  · cases k
def ckLenSet (cf : Cf) (ck : CkF) (top : Bool) (sc : Scope) (a : E) (x : Expr) : Bool := match x with
  | .Call (.Name nm _) [.Call (.Name nm2 _) [y] [] _] [] _ => decide (nm = "len") && btB cf sc nm && decide (nm2 = "set") && btB cf sc nm2 && !isStar y && ckP cf ck top sc a y
  | _ => false
theorem ckLenSet_ok (hs : SndE G C cf lv ck f) (h : CxOk G C cf lv top sc EX X) (k : ckLenSet cf ck top sc a x = true) : HR G EX X (fun s => withO f [a] s (prim .lenset)) x := by
  unfold ckLenSet at k
  split at k
  · simp only [Bool.and_eq_true, decide_eq_true_eq, Bool.not_eq_true'] at k
    obtain ⟨⟨⟨⟨⟨k1, k2⟩, k5⟩, k6⟩, k3⟩, k4⟩ := k
    subst k1; subst k5
    exact hr_lenset h.rm h.calm h.K (btB_ok h k2) (btB_ok h k6) (ckP_ok hs h k4) k3
  · cases k
def ckIsi (cf : Cf) (ck : CkF) (top : Bool) (sc : Scope) (a : E) (t : Ty) (x : Expr) : Bool := match x with
  | .Call (.Name nm _) [y, .Name nt _] [] _ => decide (nm = "isinstance") && btB cf sc nm && decide (nt = tyS t) && btB cf sc nt && !isStar y && ckP cf ck top sc a y
  | _ => false
theorem ckIsi_ok (hs : SndE G C cf lv ck f) (h : CxOk G C cf lv top sc EX X) {t : Ty} (k : ckIsi cf ck top sc a t x = true) : HR G EX X (fun s => withO f [a] s fun
      | [x] => some (.dat (.bool (isTy t x)))
      | _ => none) x := by
  unfold ckIsi at k
  split at k
  · simp only [Bool.and_eq_true, decide_eq_true_eq, Bool.not_eq_true'] at k
    obtain ⟨⟨⟨⟨⟨k1, k2⟩, k5⟩, k6⟩, k3⟩, k4⟩ := k
    subst k1; subst k5
    exact hr_isi h.K (btB_ok h k2) (btB_ok h k6) (ckP_ok hs h k4) k3
  · cases k
def ckPop (cf : Cf) (sc : Scope) (i : Nat) (x : Expr) : Bool := match x with
  | .Call (.Attribute (.Name y _) m apos) [] [] cpos => decide (m = "pop") && nmB cf sc i y && (apos.endLine == cpos.line)
  | _ => false
theorem ckPop_ok (h : CxOk G C cf lv top sc EX X) {i : Nat} (k : ckPop cf sc i x = true) : HR G EX X (fun s => match s[i]? with
      | some (.mu k (.list xs)) => (match xs.getLast? with
        | some x => .ok (.dat x) (s.set i (.mu k (.list xs.dropLast)))
        | none => .stuck)
      | _ => .stuck) x := by
  unfold ckPop at k
  split at k
  · simp only [Bool.and_eq_true, decide_eq_true_eq] at k
    obtain ⟨⟨k1, k2⟩, k3⟩ := k
    subst k1
    exact hr_pop h.K (nmB_ok h k2) k3
  · cases k
/-! dicts, the place of an int, list(range(..)) -/
def ckDct (ck : CkF) (top : Bool) (sc : Scope) (t : Bool) (ks vs : List E) (x : Expr) : Bool := match ks, vs, x with
  | [], [], .Dict [] [] _ => true
  | [k], [v], .Dict [some xk] [xv] _ => !t && (ck top sc k xk && ck top sc v xv)
  | _, _, _ => false
def dctR (f : E → S → R Vl) (t : Bool) (ks vs : List E) (s : S) : R Vl := match ks, vs with
      | [], [] => .ok (.fr (mkD t [])) s
      | [k], [v] => if t = true then .stuck else (f k s).bind fun a s => (f v s).bind fun b s => (match a with
        | .dat (.int i) => .ok (.fr (mkD false [(.int i, b.d)])) s
        | _ => .stuck)
      | _, _ => .stuck
theorem ckDct_ok (hs : SndE G C cf lv ck f) (h : CxOk G C cf lv top sc EX X) {t : Bool} {ks vs : List E} (k : ckDct ck top sc t ks vs x = true) : HR G EX X (dctR f t ks vs) x := by
  unfold ckDct at k
  split at k
  · exact hr_dct0 t
  · simp only [Bool.and_eq_true, Bool.not_eq_true'] at k
    have kt := k.1
    subst kt
    exact hr_dct1 (hs _ _ _ _ _ _ h k.2.1) (hs _ _ _ _ _ _ h k.2.2)
  · cases k
def ckDin (cf : Cf) (ck : CkF) (top : Bool) (sc : Scope) (neg : Bool) (a b : E) (x : Expr) : Bool := match x with
  | .Compare xa [o] [xb] _ => decide (o = if neg = true then .NotIn else .In) && !behindInMarks (if neg = true then .NotIn else .In) xb && (ckP cf ck top sc a xa && ckP cf ck top sc b xb)
  | _ => false
theorem ckDin_ok (hs : SndE G C cf lv ck f) (h : CxOk G C cf lv top sc EX X) {neg : Bool} (k : ckDin cf ck top sc neg a b x = true) : HR G EX X (fun s => withO f [a, b] s fun
      | [x, y] => (dhas y x).map fun b => .dat (.bool (if neg = true then !b else b))
      | _ => none) x ∧ HT G EX X (fun s => tst (withO f [a, b] s fun
      | [x, y] => (dhas y x).map fun b => .dat (.bool (if neg = true then !b else b))
      | _ => none)) x := by
  unfold ckDin at k
  split at k
  · simp only [Bool.and_eq_true, decide_eq_true_eq, Bool.not_eq_true'] at k
    rw [k.1.1]
    exact ⟨hr_din h.rm neg (ckP_ok hs h k.2.1) (ckP_ok hs h k.2.2) k.1.2, ht_din h.rm neg (ckP_ok hs h k.2.1) (ckP_ok hs h k.2.2) k.1.2⟩
  · cases k
def ckDidx (cf : Cf) (ck : CkF) (top : Bool) (sc : Scope) (a b : E) (x : Expr) : Bool := match x with
  | .Subscript xa xb _ => !isSlice xb && (ckP cf ck top sc a xa && ckP cf ck top sc b xb)
  | _ => false
theorem ckDidx_ok (hs : SndE G C cf lv ck f) (h : CxOk G C cf lv top sc EX X) (k : ckDidx cf ck top sc a b x = true) : HR G EX X (fun s => withO f [a, b] s fun
      | [x, y] => (dat? x y).map Vl.dat
      | _ => none) x := by
  unfold ckDidx at k
  split at k
  · simp only [Bool.and_eq_true, Bool.not_eq_true'] at k
    exact hr_didx h.rm (ckP_ok hs h k.2.1) (ckP_ok hs h k.2.2) k.1
  · cases k
def ckSortd (cf : Cf) (ck : CkF) (top : Bool) (sc : Scope) (a : E) (x : Expr) : Bool := match x with
  | .Call (.Name nm _) [xa] [] _ => decide (nm = "sorted") && btB cf sc nm && !isStar xa && ckP cf ck top sc a xa
  | _ => false
theorem ckSortd_ok (hs : SndE G C cf lv ck f) (h : CxOk G C cf lv top sc EX X) (k : ckSortd cf ck top sc a x = true) : HR G EX X (fun s => withO f [a] s fun
      | [x] => (dsort x).map fun ks => .fr (.list ks)
      | _ => none) x := by
  unfold ckSortd at k
  split at k
  · simp only [Bool.and_eq_true, decide_eq_true_eq, Bool.not_eq_true'] at k
    obtain ⟨⟨⟨k1, k2⟩, k3⟩, k4⟩ := k
    subst k1
    exact hr_sortd h.rm h.K h.calm (btB_ok h k2) (ckP_ok hs h k4) k3
  · cases k
def ckLrng (cf : Cf) (ck : CkF) (top : Bool) (sc : Scope) (a b : E) (x : Expr) : Bool := match x with
  | .Call (.Name nm _) [.Call (.Name n2 _) [xa, xb] [] _] [] _ => decide (nm = "list") && decide (n2 = "range") && btB cf sc nm && btB cf sc n2 && !isStar xa && !isStar xb && (ck top sc a xa && ck top sc b xb)
  | _ => false
theorem ckLrng_ok (hs : SndE G C cf lv ck f) (h : CxOk G C cf lv top sc EX X) (k : ckLrng cf ck top sc a b x = true) : HR G EX X (fun s => (f a s).bind fun v s => (f b s).bind fun w s => (match v, w with
      | .dat (.int l), .dat (.int h) => toR ((rngD l h).map fun ds => .fr (.list ds)) s
      | _, _ => .stuck)) x := by
  unfold ckLrng at k
  split at k
  · simp only [Bool.and_eq_true, decide_eq_true_eq, Bool.not_eq_true'] at k
    obtain ⟨⟨⟨⟨⟨⟨k1, k2⟩, k3⟩, k4⟩, k5⟩, k6⟩, k7, k8⟩ := k
    subst k1; subst k2
    exact hr_lrng h.calm (btB_ok h k3) (btB_ok h k4) (hs _ _ _ _ _ _ h k7) (hs _ _ _ _ _ _ h k8) k5 k6
  · cases k
def ckIndex (cf : Cf) (ck : CkF) (top : Bool) (sc : Scope) (i : Nat) (e : E) (x : Expr) : Bool := match x with
  | .Call (.Attribute (.Name y _) m apos) [xe] [] cpos => decide (m = "index") && nmB cf sc i y && !isStar xe && (apos.endLine == cpos.line) && ck top sc e xe
  | _ => false
theorem ckIndex_ok (hs : SndE G C cf lv ck f) (h : CxOk G C cf lv top sc EX X) {i : Nat} (k : ckIndex cf ck top sc i e x = true) : HR G EX X (fun s => match s[i]? with
      | some (.dat (.list xs)) => (f e s).bind fun v s => toR (findD xs v.d) s
      | some (.dat (.dict [(.none, .tuple xs)])) => (f e s).bind fun v s => toR (findD xs v.d) s
      | _ => .stuck) x := by
  unfold ckIndex at k
  split at k
  · simp only [Bool.and_eq_true, decide_eq_true_eq, Bool.not_eq_true'] at k
    obtain ⟨⟨⟨⟨k1, k2⟩, k3⟩, k4⟩, k5⟩ := k
    subst k1
    exact hr_index h.K (nmB_ok h k2) (hs _ _ _ _ _ _ h k5) k3 k4
  · cases k
end
end Fs
set_option Elab.async false
set_option linter.all false
set_option maxRecDepth 100000
set_option maxHeartbeats 2000000
namespace Fs
open PySem PySem.Spec PyProof.Rows L2
section
variable {G : Gl0} {C : CT} {cf : Cf} {lv : Nat} {top : Bool} {sc : Scope} {EX : XK} {X : Cx} {f : E → S → R Vl} {ck ckt : CkF} {e a b c d : E} {x tgE : Expr}
/-! ### what is walked -/
def isTupT : Expr → Bool
  | .Tuple .. => true
  | _ => false
def isSetE : Expr → Bool
  | .Set .. => true
  | _ => false
def isLstE : Expr → Bool
  | .List .. => true
  | _ => false
def isItE : E → Bool
  | .rng1 _ => true | .rng2 _ _ => true | .zip _ _ => true | .ref _ => true
  | _ => false
def ckI (cf : Cf) (ck : CkF) (top : Bool) (sc : Scope) (it : E) (tgE x : Expr) : Bool := match it with
  | .rng1 a => (match x with
    | .Call (.Name nm _) [xa] [] _ => decide (nm = "range") && btB cf sc nm && !isStar xa && ck top sc a xa
    | _ => false)
  | .rng2 a b => (match x with
    | .Call (.Name nm _) [xa, xb] [] _ => decide (nm = "range") && btB cf sc nm && !isStar xa && !isStar xb && (ck top sc a xa && ck top sc b xb)
    | _ => false)
  | .zip a b => (match x with
    | .Call (.Name nm _) [xa, xb] [] _ => decide (nm = "zip") && btB cf sc nm && !isStar xa && !isStar xb && isTupT tgE && (ckP cf ck top sc a xa && ckP cf ck top sc b xb)
    | _ => false)
  | .ref i => ckNm cf sc i x
  | e => !isItE e && ck top sc e x
theorem iters_val (h : isItE e = false) : iters f e = fun s => (f e s).bind fun v s => toR ((items v.d).map (·, none)) s := by
  cases e <;> first | rfl | simp [isItE] at h
theorem ckI_ok (hs : SndE G C cf lv ck f) (h : CxOk G C cf lv top sc EX X) {it : E} (k : ckI cf ck top sc it tgE x = true) : HI G EX X (iters f it) tgE x := by
  unfold ckI at k
  split at k
  · split at k
    · simp only [Bool.and_eq_true, decide_eq_true_eq, Bool.not_eq_true'] at k
      obtain ⟨⟨⟨k1, k2⟩, k3⟩, k4⟩ := k
      subst k1
      exact hi_rng1 (btB_ok h k2) (hs _ _ _ _ _ _ h k4) k3
    · cases k
  · split at k
    · simp only [Bool.and_eq_true, decide_eq_true_eq, Bool.not_eq_true'] at k
      obtain ⟨⟨⟨⟨k1, k2⟩, k3⟩, k5⟩, k4, k6⟩ := k
      subst k1
      exact hi_rng2 (btB_ok h k2) (hs _ _ _ _ _ _ h k4) (hs _ _ _ _ _ _ h k6) k3 k5
    · cases k
  · split at k
    · simp only [Bool.and_eq_true, decide_eq_true_eq, Bool.not_eq_true'] at k
      obtain ⟨⟨⟨⟨⟨k1, k2⟩, k3⟩, k5⟩, k7⟩, k4, k6⟩ := k
      subst k1
      unfold isTupT at k7
      split at k7
      · exact hi_zip h.K (btB_ok h k2) (ckP_ok hs h k4) (ckP_ok hs h k6) k3 k5
      · cases k7
    · cases k
  · obtain ⟨y, pos, rfl, n⟩ := ckNm_ok h k
    exact hi_ref h.K n
  · simp only [Bool.and_eq_true, Bool.not_eq_true'] at k
    rw [iters_val k.1]
    exact hi_val h.K (hs _ _ _ _ _ _ h k.2)
theorem fold_set (h : isSetE x = false) (env : Env) : ∀ v, foldedSetIterable x env v = pure v := by
  intro v
  cases x <;> first | rfl | simp [isSetE] at h
theorem fold_gen (h : isSetE x = false) (h2 : isLstE x = false) (env : Env) : ∀ v, genFold x env v = pure v := by
  intro v
  cases x <;> first | rfl | (simp [isSetE] at h; done) | (simp [isLstE] at h2; done)
/-! ### targets -/
def ckTg (p : Nat → Str → Bool) (tg : List Nat) (one : Bool) (tgE : Expr) : Bool := match one with
  | true => (match tg, tgE with
    | [i], .Name y _ => p i y
    | _, _ => false)
  | false => (match tgE with
    | .Tuple xs _ _ => ckTs p tg xs
    | _ => false)
def gOf (K : PySem.W.Frag) (tg : List Nat) (one : Bool) : TG := match one with
  | true => (match tg with
    | [i] => gName i
    | _ => gName 0)
  | false => gTup K tg.length (gNames tg)
theorem hgl_tup {is : List Nat} : HGl G is false (gTup G.K is.length (gNames is)) := by
  intro d s s1 v σ F H Q q hp e k
  unfold bind at e
  dsimp only at e
  split at e
  · split at e
    · rename_i hl
      cases e
      cases hp with
      | tup ht hr =>
        rw [setDs_foldl] at k
        exact ⟨_, _, rfl, .inl (.inl (q.sub _ _ ht)), by rw [hr.length, hl], gNames_of (by rw [hr.length, hl]) (k _ (setOk_all q hr))⟩
    · cases e
  · cases e
theorem ckTg_ok {p : Nat → Str → Bool} (hN : X.N.Nodup) (hc : X.calm = true) (hK : X.K = G.K) (hp : ∀ i x, p i x = true → TgOk X i x) {tg : List Nat} {one : Bool} (k : ckTg p tg one tgE = true) : PG X tgE (gOf G.K tg one) := by
  unfold ckTg at k
  split at k
  · split at k
    · exact (hg_one (G := G) hN (hp _ _ k)).1
    · cases k
  · split at k
    · rename_i xs kk pp
      have := (hg_tup (G := G) (kk := kk) (p := pp) hN hc hK (ckTs_ok hp k)).1
      rw [hK] at this
      exact this
    · cases k
theorem ckTg_gl {p : Nat → Str → Bool} {tg : List Nat} {one : Bool} (k : ckTg p tg one tgE = true) : HGl G tg one (gOf G.K tg one) := by
  unfold ckTg at k
  split at k
  · split at k
    · intro d s s1 v σ F H Q q hp e k
      have e : some (s.set _ (.dat d)) = some s1 := e
      cases e
      exact k _ (setOk_one q hp)
    · cases k
  · exact hgl_tup
/-! ### comprehensions, generator expressions, refused -/
def ckCond (ckt : CkF) (sc : Scope) : Option E → List Expr → Bool
  | none, [] => true
  | some c, [x] => ckt false sc c x
  | _, _ => false
def condR (f : E → S → R Vl) (c : Option E) : S → R Bool := fun s => match c with
  | none => .ok true s
  | some c => tst (f c s)
theorem ckCond_ok {Y : Cx} (ht : SndT G C cf lv ckt f) (h : CxOk G C cf lv false sc EX0 Y) : ∀ {c : Option E} {ifs : List Expr}, ckCond ckt sc c ifs = true → HTs G EX0 Y (condR f c) ifs ∧ ifs.length ≤ 1
  | none, [], _ => ⟨rfl, Nat.zero_le _⟩
  | none, _ :: _, k => by cases k
  | some _, [], k => by cases k
  | some c, [x], k => ⟨ht _ _ _ _ _ _ h k, Nat.le_refl _⟩
  | some _, _ :: _ :: _, k => by cases k
theorem ckCond_len : ∀ {c : Option E} {ifs : List Expr}, ckCond ckt sc c ifs = true → ifs.length ≤ 1
  | none, [], _ => Nat.zero_le _
  | none, _ :: _, k => by cases k
  | some _, [], k => by cases k
  | some c, [x], k => Nat.le_refl _
  | some _, _ :: _ :: _, k => by cases k
def ckComp (cf : Cf) (ck ckt : CkF) (top : Bool) (sc : Scope) (tg : List Nat) (one : Bool) (it : E) (c : Option E) (e : E) (own : List Nat) (x : Expr) : Bool := match x with
  | .ListComp elt [⟨tgE, iter, ifs, as⟩] scope _ => decide (as = 0) && ckI cf ck top sc it tgE iter && !isSetE iter && blkB cf sc scope own && tg.all own.contains && ckTg (tgBB cf scope) tg one tgE && ckCond ckt (relS scope sc) c ifs && ck false (relS scope sc) e elt
  | _ => false
/-- what a comprehension's check gives -/
structure CompOk (G : Gl0) (C : CT) (cf : Cf) (f : E → S → R Vl) (EX : XK) (X : Cx) (tg : List Nat) (one : Bool) (it : E) (c : Option E) (e : E) (own : List Nat) (elt tgE iter : Expr) (ifs : List Expr) (scope : Scope) : Prop where
  hi : HI G EX X (iters f it) tgE iter
  ok : BlkOk X.N X.env.scope scope (ownNs cf own)
  ho : (ownNs cf own).map (·.2) = own
  htg : ∀ i ∈ tg, i ∈ own
  hg : HGl G tg one (gOf G.K tg one)
  hpg : AllB X scope fun Y => PG Y tgE (gOf G.K tg one)
  ht : AllB X scope fun Y => HTs G EX0 Y (condR f c) ifs
  hl : ifs.length ≤ 1
  he : AllB X scope fun Y => HR G EX0 Y (f e) elt
  hs : ∀ v, foldedSetIterable iter X.env v = pure v
theorem ckComp_ok (hs : SndE G C cf lv ck f) (ht : SndT G C cf lv ckt f) (h : CxOk G C cf lv top sc EX X) {tg own : List Nat} {one : Bool} {it : E} {c : Option E} (k : ckComp cf ck ckt top sc tg one it c e own x = true) :
    ∃ elt tgE iter ifs scope pos, x = .ListComp elt [⟨tgE, iter, ifs, 0⟩] scope pos ∧ CompOk G C cf f EX X tg one it c e own elt tgE iter ifs scope := by
  unfold ckComp at k
  split at k
  · simp only [Bool.and_eq_true, decide_eq_true_eq, Bool.not_eq_true', List.all_eq_true] at k
    obtain ⟨⟨⟨⟨⟨⟨⟨k1, k2⟩, k3⟩, k4⟩, k5⟩, k6⟩, k7⟩, k8⟩ := k
    subst k1
    obtain ⟨b1, b2⟩ := blkB_ok h k4
    have hb := h.blk
    exact ⟨_, _, _, _, _, _, rfl, ckI_ok hs h k2, b1, b2, fun i hi => List.contains_iff_mem.mp (k5 i hi), ckTg_gl k6, fun s H D cl fp => ckTg_ok (h.blk _ s H D cl fp).nd (h.blk _ s H D cl fp).calm (h.blk _ s H D cl fp).K (tgBB_ok h s H D cl fp) k6, fun s H D cl fp => (ckCond_ok ht (h.blk _ s H D cl fp) k7).1, ckCond_len k7,
      fun s H D cl fp => hs _ _ _ _ _ _ (h.blk _ s H D cl fp) k8, fold_set k3 _⟩
  · cases k
theorem CompOk.hr (h : CxOk G C cf lv top sc EX X) {tg own : List Nat} {one : Bool} {it : E} {c : Option E} {elt iter : Expr} {ifs : List Expr} {scope : Scope} {pos : Pos} (k : CompOk G C cf f EX X tg one it c e own elt tgE iter ifs scope) :
    HR G EX X (fun s => (iters f it s).bind fun xs s => compR tg one (condR f c) (fun s => (f e s).bind fun v s => .ok v.d s) own xs s) (.ListComp elt [⟨tgE, iter, ifs, 0⟩] scope pos) :=
  hr_lc h.calm h.nd k.hi k.ok k.ho k.htg k.hg k.hpg k.ht k.hl k.he k.hs
def ckGen (cf : Cf) (ck : CkF) (top : Bool) (sc : Scope) (al : Bool) (i : Nat) (it e : E) (x : Expr) : Bool := match x with
  | .Call (.Name nm _) [.GeneratorExp elt [⟨.Name y px, iter, [], as⟩] scope _] [] _ => decide (as = 0) && decide (nm = if al = true then "all" else "any") && btB cf sc nm && top && cf.gen && decide (cf.N[i]? = some y) && gnB cf sc scope y && ckI cf ck top sc it (.Name y px) iter && !isSetE iter && !isLstE iter && ck false scope e elt
  | _ => false
theorem ckGen_ok (hs : SndE G C cf lv ck f) (h : CxOk G C cf lv top sc EX X) {al : Bool} {i : Nat} {it : E} (k : ckGen cf ck top sc al i it e x = true) : HR G EX X (genR al i (iters f it) (f e)) x := by
  unfold ckGen at k
  split at k
  · simp only [Bool.and_eq_true, decide_eq_true_eq, Bool.not_eq_true'] at k
    obtain ⟨⟨⟨⟨⟨⟨⟨⟨⟨⟨k0, k1⟩, k2⟩, k3⟩, k4⟩, k5⟩, k6⟩, k7⟩, k8⟩, k9⟩, k10⟩ := k
    subst k0; subst k3
    obtain ⟨c, P, tb⟩ := h.gen rfl k4
    have hr : Room (lv + 3) X.A := by have := h.room; rwa [if_pos rfl] at this
    have hx := k5
    rw [← h.N] at hx
    cases al with
    | true =>
      rw [if_pos rfl] at k1
      subst k1
      exact hr_gen_all hr h.nd (btB_ok h k2) tb (ckI_ok hs h k7) (gnB_ok h k6) hx (fun s H D code fp B pn hr2 => hs _ _ _ _ _ _ (h.genc _ s H D code fp B pn hr2) k10) (fold_gen k8 k9 _)
    | false =>
      rw [if_neg Bool.false_ne_true] at k1
      subst k1
      exact hr_gen_any hr h.nd (btB_ok h k2) tb (ckI_ok hs h k7) (gnB_ok h k6) hx (fun s H D code fp B pn hr2 => hs _ _ _ _ _ _ (h.genc _ s H D code fp B pn hr2) k10) (fold_gen k8 k9 _)
  · cases k
def noArgs : Arguments → Bool
  | ⟨[], [], none, [], [], none, []⟩ => true
  | _ => false
theorem noArgs_ok {p : Arguments} (h : noArgs p = true) : p = ⟨[], [], none, [], [], none, []⟩ := by
  unfold noArgs at h
  split at h
  · rfl
  · cases h
def ckRef (cf : Cf) (ck : CkF) (top : Bool) (sc : Scope) (e : E) (x : Expr) : Bool := match x with
  | .Call (.Name nm _) [.Lambda params body scope _] [] _ => decide (nm = cf.ref) && glB sc nm && top && cf.lam && LamX.lamSB sc scope && noArgs params && ck false scope e body
  | _ => false
theorem ckRef_ok (hs : SndE G C cf lv ck f) (h : CxOk G C cf lv top sc EX X) (k : ckRef cf ck top sc e x = true) : HR G EX X (refR (f e)) x := by
  unfold ckRef at k
  split at k
  · simp only [Bool.and_eq_true, decide_eq_true_eq] at k
    obtain ⟨⟨⟨⟨⟨⟨k1, k2⟩, k3⟩, k4⟩, k5⟩, k6⟩, k7⟩ := k
    subst k1; subst k3
    have k6 := noArgs_ok k6
    subst k6
    obtain ⟨c, P, tb⟩ := h.lam rfl k4
    obtain ⟨r1, r2⟩ := h.ref k4
    have hr : Room (lv + 3) X.A := by have := h.room; rwa [if_pos rfl] at this
    exact hr_refused (hr.mono (by omega)) (glB_ok h k2).1 (glB_ok h k2).2 r1 r2 tb (by rw [h.sc]; exact LamX.lamS_by k5) rfl (fun q cl pm cv ctv => rfl) fun A outer s H E f c' hr2 => hs _ _ _ _ _ _ (h.lamc _ A outer s H E f c' hr2) k7
  · cases k
end
end Fs
set_option Elab.async false
set_option linter.all false
set_option maxRecDepth 100000
set_option maxHeartbeats 2000000
namespace Fs
open PySem PySem.Spec PyProof.Rows L2
/-! ### expressions and tests -/
def ckE1 (cf : Cf) (ck ckt : CkF) (top : Bool) (sc : Scope) (e : E) (x : Expr) : Bool := match e with
  | .lit d => ckLit d x
  | .gint i => ckGint cf sc i x
  | .var i => ckNm cf sc i x
  | .take i => ckNm cf sc i x
  | .ref _ => false
  | .fz a => ck top sc a x
  | .tup es => ckTup ck top sc es x
  | .lst es => ckLst ck top sc es x
  | .dct t ks vs => ckDct ck top sc t ks vs x
  | .din neg a b => ckDin cf ck top sc neg a b x
  | .didx a b => ckDidx cf ck top sc a b x
  | .sortd a => ckSortd cf ck top sc a x
  | .bin op a b => ckBin cf ck top sc op a b x
  | .neg a => ckNeg cf ck top sc a x
  | .not a => ckNot ck top sc a x
  | .cmp op a b => ckCmp cf ck top sc op a b x
  | .isN a => ckIsN cf ck top sc a x
  | .notN a => ckNotN cf ck top sc a x
  | .ch2 o1 o2 a b c => ckCh2 ck top sc o1 o2 a b c x
  | .ch3 o1 o2 o3 a b c d => ckCh3 ck top sc o1 o2 o3 a b c d x
  | .and a b => ckAnd ck top sc a b x
  | .or a b => ckOr ck top sc a b x
  | .ife t a b => ckIfe ck ckt top sc t a b x
  | .idx a i => ckIdx cf ck top sc a i x
  | .slc a lo hi => ckSlc cf ck top sc a lo hi x
  | .rev a => ckRev cf ck top sc a x
  | .call f as _ => ckCall cf ck top sc f as x
  | .prim .len as => (match as with
    | [a] => ckLen cf ck top sc a x
    | _ => false)
  | .prim .lenset as => (match as with
    | [a] => ckLenSet cf ck top sc a x
    | _ => false)
  | .prim p as => ckPrim cf ck top sc p as x
  | .isi a t => ckIsi cf ck top sc a t x
  | .comp tg one it c e own => ckComp cf ck ckt top sc tg one it c e own x
  | .gen al i it e => ckGen cf ck top sc al i it e x
  | .rng1 _ => false
  | .rng2 _ _ => false
  | .zip _ _ => false
  | .refused _ e => ckRef cf ck top sc e x
  | .pop i => ckPop cf sc i x
  | .get _ _ _ => false
  | .index i e => ckIndex cf ck top sc i e x
  | .lrng a b => ckLrng cf ck top sc a b x
def plainT : Expr → Bool
  | .Name .. => true
  | .Call .. => true
  | .Subscript .. => true
  | _ => false
theorem plainT_ok {x : Expr} (h : plainT x = true) (env : Env) : ∀ whole, isTrue x env whole = (do let v ← whole; standAt x.pos; holding [v] (truthy v)) := by
  intro whole
  cases x <;> first | rfl | simp [plainT] at h
def ckT1 (cf : Cf) (ck ckt : CkF) (top : Bool) (sc : Scope) (e : E) (x : Expr) : Bool := match e with
  | .not a => ckNot ckt top sc a x
  | .cmp op a b => ckCmp cf ck top sc op a b x
  | .din neg a b => ckDin cf ck top sc neg a b x
  | .isN a => ckIsN cf ck top sc a x
  | .notN a => ckNotN cf ck top sc a x
  | .ch2 o1 o2 a b c => ckCh2 ck top sc o1 o2 a b c x
  | .and a b => ckAnd ckt top sc a b x
  | .or a b => ckOr ckt top sc a b x
  | e => plainT x && ckE1 cf ck ckt top sc e x
/-- the checks, by fuel: of values, of tests -/
def ckET (cf : Cf) : Nat → CkF × CkF
  | 0 => (fun _ _ _ _ => false, fun _ _ _ _ => false)
  | n + 1 => (fun top sc e x => ckE1 cf (ckET cf n).1 (ckET cf n).2 top sc e (strip1 x), fun top sc e x => ckT1 cf (ckET cf n).1 (ckET cf n).2 top sc e (strip1 x))
section
variable {G : Gl0} {C : CT} {cf : Cf} {lv : Nat} {top : Bool} {sc : Scope} {EX : XK} {X : Cx} {f : E → S → R Vl} {ck ckt : CkF} {x : Expr}
theorem hr_fz {r : S → R Vl} (h : HR G EX X r x) : HR G EX X (fun s => (r s).bind fun v s => .ok (.dat v.d) s) x := by
  intro s σ F H Q q p
  exact h.run q p fun v s1 F1 H1 w g r a b k => by
    obtain ⟨F2, g2, r2, hp, _⟩ := settle g r a b
    exact (k.ok g2 r2) w hp trivial
theorem ckE1_ok {n : Nat} (hs : SndE G C cf lv ck (ev C n)) (ht : SndT G C cf lv ckt (ev C n)) (h : CxOk G C cf lv top sc EX X) {e : E} (k : ckE1 cf ck ckt top sc e x = true) : HR G EX X (ev C (n + 1) e) x := by
  cases e with
  | lit d => exact ckLit_ok k
  | gint i => exact ckGint_ok h k
  | var i => obtain ⟨y, pos, rfl, nm⟩ := ckNm_ok h k; exact hr_var nm
  | take i => obtain ⟨y, pos, rfl, nm⟩ := ckNm_ok h k; exact hr_take nm
  | ref i => cases k
  | fz a => exact hr_fz (hs _ _ _ _ _ _ h k)
  | tup es => exact ckTup_ok hs h k
  | lst es => exact ckLst_ok hs h k
  | dct t ks vs =>
    have e : ev C (n + 1) (.dct t ks vs) = dctR (ev C n) t ks vs := by
      funext s
      unfold dctR
      rfl
    rw [e]
    exact ckDct_ok hs h k
  | din neg a b => exact (ckDin_ok hs h k).1
  | didx a b => exact ckDidx_ok hs h k
  | sortd a => exact ckSortd_ok hs h k
  | bin op a b => exact ckBin_ok hs h k
  | neg a => exact ckNeg_ok hs h k
  | not a => exact ckNot_ok hs h k
  | cmp op a b => exact (ckCmp_ok hs h k).1
  | isN a => exact (ckIsN_ok hs h k).1
  | notN a => exact (ckNotN_ok hs h k).1
  | ch2 o1 o2 a b c => exact (ckCh2_ok hs h k).1
  | ch3 o1 o2 o3 a b c d => exact ckCh3_ok hs h k
  | and a b => exact ckAnd_ok hs h k
  | or a b => exact ckOr_ok hs h k
  | ife t a b => exact ckIfe_ok hs ht h k
  | idx a i => exact ckIdx_ok hs h k
  | slc a lo hi => exact ckSlc_ok hs h k
  | rev a => exact ckRev_ok hs h k
  | call fi as ks => exact ckCall_ok hs h k
  | prim p as =>
    have gen : ckPrim cf ck top sc p as x = true → HR G EX X (ev C (n + 1) (.prim p as)) x := fun k => by
      obtain ⟨k1, k2⟩ := ckPrim_ok hs h k
      cases p <;> first | exact k2 | (cases k1; done)
    cases p with
    | len =>
      unfold ckE1 at k
      dsimp only at k
      split at k
      · exact ckLen_ok hs h k
      · cases k
    | lenset =>
      unfold ckE1 at k
      dsimp only at k
      split at k
      · exact ckLenSet_ok hs h k
      · cases k
    | _ => exact gen k
  | isi a t => exact ckIsi_ok hs h k
  | comp tg one it c e own =>
    obtain ⟨elt, tgE, iter, ifs, scope, pos, rfl, co⟩ := ckComp_ok hs ht h k
    exact co.hr h
  | gen al i it e => exact ckGen_ok hs h k
  | rng1 _ => cases k
  | rng2 _ _ => cases k
  | zip _ _ => cases k
  | refused _ e => exact ckRef_ok hs h k
  | pop i => exact ckPop_ok h k
  | get _ _ _ => cases k
  | index i e => exact ckIndex_ok hs h k
  | lrng a b => exact ckLrng_ok hs h k
theorem ckT1_ok {n : Nat} (hs : SndE G C cf lv ck (ev C n)) (ht : SndT G C cf lv ckt (ev C n)) (h : CxOk G C cf lv top sc EX X) {e : E} (k : ckT1 cf ck ckt top sc e x = true) : HT G EX X (fun s => tst (ev C (n + 1) e s)) x := by
  have gen : (plainT x && ckE1 cf ck ckt top sc e x) = true → HT G EX X (fun s => tst (ev C (n + 1) e s)) x := fun k => by
    rw [Bool.and_eq_true] at k
    exact ht_of (ckE1_ok hs ht h k.2) (plainT_ok k.1 _)
  cases e with
  | not a => exact ckNotT_ok ht h k
  | cmp op a b => exact (ckCmp_ok hs h k).2
  | din neg a b => exact (ckDin_ok hs h k).2
  | isN a => exact (ckIsN_ok hs h k).2
  | notN a => exact (ckNotN_ok hs h k).2
  | ch2 o1 o2 a b c => exact (ckCh2_ok hs h k).2
  | and a b => exact ckAndT_ok ht h k
  | or a b => exact ckOrT_ok ht h k
  | _ => exact gen k
theorem ckET_ok (G : Gl0) (C : CT) (cf : Cf) (lv : Nat) : ∀ n, SndE G C cf lv (ckET cf n).1 (ev C n) ∧ SndT G C cf lv (ckET cf n).2 (ev C n)
  | 0 => ⟨fun top sc EX X e x h k => absurd k Bool.false_ne_true, fun top sc EX X e x h k => absurd k Bool.false_ne_true⟩
  | n + 1 => by
    obtain ⟨h1, h2⟩ := ckET_ok G C cf lv n
    exact ⟨fun top sc EX X e x h k => strip_hr (ckE1_ok h1 h2 h k), fun top sc EX X e x h k => strip_ht (ckT1_ok h1 h2 h k)⟩
end
end Fs
set_option Elab.async false
set_option linter.all false
set_option maxRecDepth 100000
set_option maxHeartbeats 2000000
namespace Fs
open PySem PySem.Spec PyProof.Rows L2
section
variable (G : Gl0) (C : CT) (cf : Cf) (lv : Nat)
structure SxOk (sc : Scope) (EX : XK) (X : Cx) : Prop where
  cx : CxOk G C cf lv true sc EX X
  po : PassesOwn (model X.prog X.w) X.A X.env X.xe
  err : ErrC X.prog X.w X.K X.mg X.base G.C lv
  kind : sc.kind = .function
end
section
variable {G : Gl0} {C : CT} {cf : Cf} {lv : Nat} {sc : Scope} {EX : XK} {X : Cx} {f : E → S → R Vl} {x : Expr}
/-! ### stores that are exchanged -/
def pureOf {α : Type} : Sem α → Option α
  | .pure a => some a
  | _ => none
theorem pureOf_ok {α : Type} {m : Sem α} {a : α} (h : pureOf m = some a) : m = pure a := by
  unfold pureOf at h
  split at h
  · cases h; rfl
  · cases h
/-- a frame of that scope -/
def envD (sc : Scope) : Env := { scope := sc, locals := 0, globals := 0, cells := [], qual := ⟨#[]⟩, func := none, code := .none, frame := none, builtins := 0 }
theorem swaps_env (v : Expr) (y : Str) (py : Pos) (l : Nat) (env : Env) (h : env.scope = sc) : swapsWith v (some (.Name y py)) l env = swapsWith v (some (.Name y py)) l (envD sc) := by
  subst h
  cases v <;> rfl
theorem ss_env (ts vs : List Expr) (kt k2 : Nat) (pt pt2 : Pos) (env : Env) (h : env.scope = sc) : swappedStores [.Tuple ts kt pt] (.Tuple vs k2 pt2) env = swappedStores [.Tuple ts kt pt] (.Tuple vs k2 pt2) (envD sc) := by
  subst h
  rfl
/-! ### statements, one by one -/
def ckSetLc (cf : Cf) (sc : Scope) (e : E) (v : Expr) : Nat → Bool
  | 0 => false
  | m + 1 => (match e with
    | .comp tg one it c e own => ckComp cf (ckET cf m).1 (ckET cf m).2 true sc tg one it c e own v
    | .fz (.comp tg one it c e own) => (match m with
      | 0 => false
      | k + 1 => ckComp cf (ckET cf k).1 (ckET cf k).2 true sc tg one it c e own v)
    | _ => false)
def ckSet (cf : Cf) (n : Nat) (sc : Scope) (i : Nat) (e : E) (st : Stmt) : Bool := match st with
  | .Assign [.Name y py] v pos => tgB cf true sc i y && (match pureOf (swapsWith v (some (.Name y py)) pos.line (envD sc)) with
    | some true => decide (sc.names.lookup y = some .local) && ckSetLc cf sc e v n
    | some false => (ckET cf n).1 true sc e v
    | none => false)
  | _ => false
theorem ckSet_ok {n : Nat} (h : SxOk G C cf lv sc EX X) {i : Nat} {e : E} {st : Stmt} (k : ckSet cf n sc i e st = true) : HS G EX X (fun s => O.of (ev C n e s) fun v s => if free s i then .nx (s.set i v.sl) else .stuck) st := by
  unfold ckSet at k
  split at k
  · rw [Bool.and_eq_true] at k
    obtain ⟨k1, k2⟩ := k
    have tg := tgB_ok h.cx k1
    split at k2
    · rename_i hp
      have hp := pureOf_ok hp
      rw [← swaps_env _ _ _ _ X.env h.cx.sc] at hp
      cases n with
      | zero => rw [Bool.and_eq_true] at k2; cases k2.2
      | succ m =>
        rw [Bool.and_eq_true, decide_eq_true_eq] at k2
        obtain ⟨kl, k2⟩ := k2
        unfold ckSetLc at k2
        dsimp only at k2
        split at k2
        · obtain ⟨elt, tgE, iter, ifs, scope, p2, rfl, co⟩ := ckComp_ok (ckET_ok G C cf lv m).1 (ckET_ok G C cf lv m).2 h.cx k2
          exact hs_setLc h.cx.calm h.cx.nd co.hi co.ok co.ho co.htg co.hg co.hpg co.ht co.hl co.he co.hs tg.at_ (by rw [h.cx.sc]; exact kl) hp
        · cases m with
          | zero => cases k2
          | succ m =>
            obtain ⟨elt, tgE, iter, ifs, scope, p2, rfl, co⟩ := ckComp_ok (ckET_ok G C cf lv m).1 (ckET_ok G C cf lv m).2 h.cx k2
            exact hs_setLcF h.cx.calm h.cx.nd co.hi co.ok co.ho co.htg co.hg co.hpg co.ht co.hl co.he co.hs tg.at_ (by rw [h.cx.sc]; exact kl) hp
        · cases k2
    · rename_i hp
      have hp := pureOf_ok hp
      rw [← swaps_env _ _ _ _ X.env h.cx.sc] at hp
      exact hs_set h.cx.nd tg ((ckET_ok G C cf lv n).1 _ _ _ _ _ _ h.cx k2) hp
    · cases k2
  · cases k
def noRefs : List E → Bool
  | [] => true
  | .ref _ :: _ => false
  | _ :: es => noRefs es
theorem noRefs_ok : ∀ {es : List E}, noRefs es = true → ∀ e ∈ es, ∀ i, e ≠ .ref i
  | [], _, e, he, i => by cases he
  | x :: es, h, e, he, i => by
    have h2 : noRefs es = true ∧ ∀ i, x ≠ .ref i := by
      cases x <;> first | (cases h; done) | exact ⟨h, fun i z => by cases z⟩
    rcases List.mem_cons.mp he with rfl | he
    · exact h2.2 i
    · exact noRefs_ok h2.1 e he i
def locB (sc : Scope) (xs : List Str) : Bool := xs.all fun x => decide (sc.names.lookup x = some .local)
theorem locB_ok (h : CxOk G C cf lv true sc EX X) {xs : List Str} (k : locB sc xs = true) {x : Str} (hx : x ∈ xs) : X.env.scope.names.lookup x = some .local := by
  rw [h.sc]; exact of_decide_eq_true (List.all_eq_true.mp k x hx)
def ckPar (cf : Cf) (n : Nat) (sc : Scope) (is : List Nat) (es : List E) (st : Stmt) : Bool := match st with
  | .Assign [.Tuple tgs kt pt] (.Tuple xs k2 pt2) _ => ckTs (tgB cf true sc) is tgs && ckL (ckP cf (ckET cf n).1) true sc es xs && noRefs es && decide (es.length = is.length) && decide (is.length ≤ 1000)
      && (match pureOf (swappedStores [.Tuple tgs kt pt] (.Tuple xs k2 pt2) (envD sc)) with
    | some none => true
    | some (some nms) => (match is, tgs, xs with
      | [i, j], [.Name x _, .Name y _], [_, _] => decide (nms = [x, y]) && decide (i ≠ j) && locB sc [x, y]
      | [i, j, l], [.Name x _, .Name y _, .Name z _], [_, _, _] => decide (nms = [x, y, z]) && decide (i ≠ j) && decide (i ≠ l) && decide (j ≠ l) && locB sc [x, y, z]
      | _, _, _ => false)
    | none => false)
  | _ => false
theorem tgs_two {i j : Nat} {x y : Str} {p1 p2 : Pos} (h : ckTs (tgB cf true sc) [i, j] [.Name x p1, .Name y p2] = true) : tgB cf true sc i x = true ∧ tgB cf true sc j y = true := by
  simp only [ckTs, Bool.and_eq_true] at h
  exact ⟨h.1, h.2.1⟩
theorem tgs_three {i j l : Nat} {x y z : Str} {p1 p2 p3 : Pos} (h : ckTs (tgB cf true sc) [i, j, l] [.Name x p1, .Name y p2, .Name z p3] = true) : tgB cf true sc i x = true ∧ tgB cf true sc j y = true ∧ tgB cf true sc l z = true := by
  simp only [ckTs, Bool.and_eq_true] at h
  exact ⟨h.1, h.2.1, h.2.2.1⟩
theorem ckPar_ok {n : Nat} (h : SxOk G C cf lv sc EX X) {is : List Nat} {es : List E} {st : Stmt} (k : ckPar cf n sc is es st = true) : HS G EX X (fun s => O.of (vals (ev C n) es s) fun vs s => toO (setAll is vs s)) st := by
  unfold ckPar at k
  split at k
  · simp only [Bool.and_eq_true, decide_eq_true_eq] at k
    obtain ⟨⟨⟨⟨⟨k1, k2⟩, k3⟩, k4⟩, k5⟩, k6⟩ := k
    have hps := ckL_ps (ckET_ok G C cf lv n).1 h.cx k2
    have ht := ckTs_ok (fun _ _ e => tgB_ok h.cx e) k1
    split at k6
    · rename_i hp
      have hp := pureOf_ok hp
      rw [← ss_env _ _ _ _ _ _ X.env h.cx.sc] at hp
      exact hs_par (parOkN h.cx.calm h.cx.nd ht (ln1000 k5) hp) hps (noRefs_ok k3) k4
    · rename_i hp
      have hp := pureOf_ok hp
      rw [← ss_env _ _ _ _ _ _ X.env h.cx.sc] at hp
      split at k6
      · simp only [Bool.and_eq_true, decide_eq_true_eq] at k6
        obtain ⟨t1, t2⟩ := tgs_two k1
        rw [k6.1.1] at hp
        exact hs_par (parOk2 h.cx.calm h.cx.nd (tgB_ok h.cx t1).at_ (tgB_ok h.cx t2).at_ k6.1.2 (locB_ok h.cx k6.2 (by simp)) (locB_ok h.cx k6.2 (by simp)) hp) hps (noRefs_ok k3) k4
      · simp only [Bool.and_eq_true, decide_eq_true_eq] at k6
        obtain ⟨t1, t2, t3⟩ := tgs_three k1
        rw [k6.1.1.1.1] at hp
        exact hs_par (parOk3 h.cx.calm h.cx.nd (tgB_ok h.cx t1).at_ (tgB_ok h.cx t2).at_ (tgB_ok h.cx t3).at_ k6.1.1.1.2 k6.1.1.2 k6.1.2 (locB_ok h.cx k6.2 (by simp)) (locB_ok h.cx k6.2 (by simp)) (locB_ok h.cx k6.2 (by simp)) hp) hps (noRefs_ok k3) k4
      · cases k6
    · cases k6
  · cases k
def ckUnp (cf : Cf) (n : Nat) (sc : Scope) (is : List Nat) (e : E) (st : Stmt) : Bool := match st with
  | .Assign [.Tuple tgs _ _] v _ => !isTupE v && ckTs (tgB cf true sc) is tgs && (ckET cf n).1 true sc e v
  | _ => false
theorem ckUnp_ok {n : Nat} (h : SxOk G C cf lv sc EX X) {is : List Nat} {e : E} {st : Stmt} (k : ckUnp cf n sc is e st = true) : HS G EX X (fun s => O.of (ev C n e s) fun v s => (match v with
      | .dat (.tuple ds) => toO (setAll is (ds.map Vl.dat) s)
      | _ => .stuck)) st := by
  unfold ckUnp at k
  split at k
  · simp only [Bool.and_eq_true, Bool.not_eq_true'] at k
    exact hs_unp h.cx.K h.cx.calm h.cx.nd (ckTs_ok (fun _ _ e => tgB_ok h.cx e) k.1.2) ((ckET_ok G C cf lv n).1 _ _ _ _ _ _ h.cx k.2) k.1.1
  · cases k
def ckPut (cf : Cf) (n : Nat) (sc : Scope) (i : Nat) (k e : E) (st : Stmt) : Bool := match st with
  | .Assign [.Subscript (.Name y _) xk _] v _ => nmB cf sc i y && !isSlice xk && (ckET cf n).1 true sc e v && (ckET cf n).1 true sc k xk
  | _ => false
theorem ckPut_ok {n : Nat} (h : SxOk G C cf lv sc EX X) {i : Nat} {ke e : E} {st : Stmt} (k : ckPut cf n sc i ke e st = true) : HS G EX X (fun s => if isMuL s i then O.of (ev C n e s) fun v s => O.of (ev C n ke s) fun w s => (match s[i]? with
      | some (.mu b (.list xs)) => (match w.d with
        | .int j => if 0 ≤ j ∧ j < xs.length then .nx (s.set i (.mu b (.list (xs.set j.toNat v.d)))) else .stuck
        | _ => .stuck)
      | _ => .stuck) else .stuck) st := by
  unfold ckPut at k
  split at k
  · simp only [Bool.and_eq_true, Bool.not_eq_true'] at k
    exact hs_put (nmB_ok h.cx k.1.1.1) ((ckET_ok G C cf lv n).1 _ _ _ _ _ _ h.cx k.1.2) ((ckET_ok G C cf lv n).1 _ _ _ _ _ _ h.cx k.2) k.1.1.2
  · cases k
def ckDput (cf : Cf) (n : Nat) (sc : Scope) (i : Nat) (k e : E) (st : Stmt) : Bool := match st with
  | .Assign [.Subscript (.Name y _) xk _] v _ => nmB cf sc i y && (ckET cf n).1 true sc e v && (ckET cf n).1 true sc k xk
  | _ => false
theorem ckDput_ok {n : Nat} (h : SxOk G C cf lv sc EX X) {i : Nat} {ke e : E} {st : Stmt} (k : ckDput cf n sc i ke e st = true) : HS G EX X (fun s => if isMuD s i then O.of (ev C n e s) fun v s => O.of (ev C n ke s) fun w s => (match s[i]? with
      | some (.mu b d) => (match dput d w.d v.d with
        | some d' => .nx (s.set i (.mu b d'))
        | none => .stuck)
      | _ => .stuck) else .stuck) st := by
  unfold ckDput at k
  split at k
  · simp only [Bool.and_eq_true] at k
    exact hs_dput h.cx.rm (nmB_ok h.cx k.1.1) ((ckET_ok G C cf lv n).1 _ _ _ _ _ _ h.cx k.1.2) ((ckET_ok G C cf lv n).1 _ _ _ _ _ _ h.cx k.2)
  · cases k
def ckApp (cf : Cf) (n : Nat) (sc : Scope) (i : Nat) (e : E) (st : Stmt) : Bool := match st with
  | .Expr (.Call (.Attribute (.Name y _) m apos) [xe] [] cpos) _ => decide (m = "append") && nmB cf sc i y && !isStar xe && (apos.endLine == cpos.line) && (ckET cf n).1 true sc e xe
  | _ => false
theorem ckApp_ok {n : Nat} (h : SxOk G C cf lv sc EX X) {i : Nat} {e : E} {st : Stmt} (k : ckApp cf n sc i e st = true) : HS G EX X (fun s => if isMuL s i then O.of (ev C n e s) fun v s => (match s[i]? with
      | some (.mu b (.list xs)) => if xs.length < lim then .nx (s.set i (.mu b (.list (xs ++ [v.d])))) else .stuck
      | _ => .stuck) else .stuck) st := by
  unfold ckApp at k
  split at k
  · simp only [Bool.and_eq_true, Bool.not_eq_true', decide_eq_true_eq] at k
    obtain ⟨⟨⟨⟨k1, k2⟩, k3⟩, k4⟩, k5⟩ := k
    subst k1
    exact hs_app h.cx.K (nmB_ok h.cx k2) ((ckET_ok G C cf lv n).1 _ _ _ _ _ _ h.cx k5) k3 k4
  · cases k
def ckExt (cf : Cf) (n : Nat) (sc : Scope) (i : Nat) (e : E) (st : Stmt) : Bool := match st with
  | .Expr (.Call (.Attribute (.Name y _) m apos) [xe] [] cpos) _ => decide (m = "extend") && nmB cf sc i y && !isStar xe && (apos.endLine == cpos.line) && ckP cf (ckET cf n).1 true sc e xe
  | _ => false
theorem ckExt_ok {n : Nat} (h : SxOk G C cf lv sc EX X) {i : Nat} {e : E} {st : Stmt} (k : ckExt cf n sc i e st = true) : HS G EX X (fun s => if isMuL s i then O.of (opds (ev C n) [e] s) fun os s => (match s[i]?, looks s os with
      | some (.mu b (.list xs)), some [.list ys] => if xs.length + ys.length ≤ lim then .nx (s.set i (.mu b (.list (xs ++ ys)))) else .stuck
      | _, _ => .stuck) else .stuck) st := by
  unfold ckExt at k
  split at k
  · simp only [Bool.and_eq_true, Bool.not_eq_true', decide_eq_true_eq] at k
    obtain ⟨⟨⟨⟨k1, k2⟩, k3⟩, k4⟩, k5⟩ := k
    subst k1
    exact hs_ext h.cx.K (nmB_ok h.cx k2) (ckP_ok (ckET_ok G C cf lv n).1 h.cx k5) k3 k4
  · cases k
def ckAug (cf : Cf) (n : Nat) (sc : Scope) (i : Nat) (e : E) (st : Stmt) : Bool := match st with
  | .AugAssign (.Name y _) .Add v _ => tgB cf true sc i y && (ckET cf n).1 true sc e v
  | _ => false
theorem ckAug_ok {n : Nat} (h : SxOk G C cf lv sc EX X) {i : Nat} {e : E} {st : Stmt} (k : ckAug cf n sc i e st = true) : HS G EX X (fun s => (match s[i]? with
      | some (.dat (.int a)) => O.of (ev C n e s) fun v s => (match v with
        | .dat (.int b) => .nx (s.set i (.dat (.int (a + b))))
        | _ => .stuck)
      | _ => .stuck)) st := by
  unfold ckAug at k
  split at k
  · rw [Bool.and_eq_true] at k
    exact hs_aug h.cx.nd (tgB_ok h.cx k.1) ((ckET_ok G C cf lv n).1 _ _ _ _ _ _ h.cx k.2)
  · cases k
def ckRet (cf : Cf) (n : Nat) (sc : Scope) (e : E) (st : Stmt) : Bool := match st with
  | .Return (some v) _ => (ckET cf n).1 true sc e v
  | _ => false
def ckRetN (st : Stmt) : Bool := match st with
  | .Return none _ => true
  | _ => false
def ckEff (cf : Cf) (n : Nat) (sc : Scope) (e : E) (st : Stmt) : Bool := match st with
  | .Expr v _ => !isComp v && (ckET cf n).1 true sc e v
  | _ => false
def ckBrk (st : Stmt) : Bool := match st with
  | .Break _ => true
  | _ => false
def ckRaise (cf : Cf) (n : Nat) (sc : Scope) (e : E) (st : Stmt) : Bool := match st with
  | .Raise (some (.Call (.Name nm _) [v] [] _)) none _ => decide (nm = "BadArgument") && glB sc nm && !isStar v && (ckET cf n).1 true sc e v
  | _ => false
theorem ckRaise_ok {n : Nat} (h : SxOk G C cf lv sc EX X) {e : E} {st : Stmt} (k : ckRaise cf n sc e st = true) : HS G EX X (fun s => O.of (ev C n e s) fun v s => (match v with
      | .dat (.str x) => if x.length ≤ 1000 then .xc (.str x) s else .stuck
      | _ => .stuck)) st := by
  unfold ckRaise at k
  split at k
  · simp only [Bool.and_eq_true, Bool.not_eq_true', decide_eq_true_eq] at k
    obtain ⟨⟨⟨k1, k2⟩, k3⟩, k4⟩ := k
    subst k1
    have hr : Room (lv + 3) X.A := by have := h.cx.room; rwa [if_pos rfl] at this
    exact hs_raise (hr.mono (by omega)) h.cx.calm h.err (glB_ok h.cx k2).1 h.cx.tk ((ckET_ok G C cf lv n).1 _ _ _ _ _ _ h.cx k4) k3
  · cases k
end
end Fs
set_option Elab.async false
set_option linter.all false
set_option maxRecDepth 100000
set_option maxHeartbeats 2000000
namespace Fs
open PySem PySem.Spec PyProof.Rows L2
section
variable {G : Gl0} {C : CT} {cf : Cf} {lv : Nat} {sc : Scope} {EX : XK} {X : Cx} {f : E → S → R Vl} {x : Expr}
/-- lists of statements -/
def ckSs (ck : St → Stmt → Bool) : List St → List Stmt → Bool
  | [], [] => true
  | .kill _ :: ts, sts => ckSs ck ts sts
  | t :: ts, st :: sts => ck t st && ckSs ck ts sts
  | _, _ => false
def isKill : St → Bool
  | .kill _ => true
  | _ => false
theorem ckSs_ok {g : St → S → O} {ck : St → Stmt → Bool} (hg : ∀ is s, g (.kill is) s = if is.all (free s) then .nx (wipe is s) else .stuck) (h : ∀ t st, ck t st = true → HS G EX X (g t) st) : ∀ {ts : List St} {sts : List Stmt}, ckSs ck ts sts = true → HSs G EX X (exs g ts) sts
  | [], [], _ => hss_nil
  | [], _ :: _, k => by cases k
  | t :: ts, sts, k => by
    by_cases hk : isKill t = true
    · unfold isKill at hk
      split at hk
      · have k : ckSs ck ts sts = true := by unfold ckSs at k; exact k
        exact hss_kill (hg _) (ckSs_ok hg h k)
      · cases hk
    · cases sts with
      | nil => cases t <;> first | (cases k; done) | exact absurd rfl hk
      | cons st sts =>
        have k : (ck t st && ckSs ck ts sts) = true := by cases t <;> first | exact k | exact absurd rfl hk
        rw [Bool.and_eq_true] at k
        exact hss_cons (h _ _ k.1) (ckSs_ok hg h k.2)
def ckIff (cf : Cf) (n : Nat) (sc : Scope) (cs : List St → List Stmt → Bool) (c : E) (a b : List St) (st : Stmt) : Bool := match st with
  | .If xc xa xb _ => (ckET cf n).2 true sc c xc && cs a xa && cs b xb
  | _ => false
def ckFor (cf : Cf) (n : Nat) (sc : Scope) (cs : List St → List Stmt → Bool) (tg : List Nat) (one : Bool) (it : E) (b : List St) (st : Stmt) : Bool := match st with
  | .For tgE iter body [] _ => ckI cf (ckET cf n).1 true sc it tgE iter && ckTg (tgB cf true sc) tg one tgE && !isSetE iter && cs b body
  | _ => false
def ckWhl (cf : Cf) (n : Nat) (sc : Scope) (cs : List St → List Stmt → Bool) (c : E) (b : List St) (st : Stmt) : Bool := match st with
  | .While xc body [] _ => (ckET cf n).2 true sc c xc && cs b body
  | _ => false
def ckS (cf : Cf) (sc : Scope) : Nat → St → Stmt → Bool
  | 0, _, _ => false
  | n + 1, t, st => match t with
    | .set i e => ckSet cf n sc i e st
    | .par is es => ckPar cf n sc is es st
    | .unp is e => ckUnp cf n sc is e st
    | .put i k e => ckPut cf n sc i k e st
    | .dput i k e => ckDput cf n sc i k e st
    | .app i e => ckApp cf n sc i e st
    | .ext i e => ckExt cf n sc i e st
    | .aug i e => ckAug cf n sc i e st
    | .eff e => ckEff cf n sc e st
    | .iff c a b => decide (n ≠ 0) && ckIff cf n sc (ckSs (ckS cf sc n)) c a b st
    | .for tg one it b => decide (n ≠ 0) && ckFor cf n sc (ckSs (ckS cf sc n)) tg one it b st
    | .whl c b => decide (n ≠ 0) && ckWhl cf n sc (ckSs (ckS cf sc n)) c b st
    | .ret none => ckRetN st
    | .ret (some e) => ckRet cf n sc e st
    | .raise e => ckRaise cf n sc e st
    | .brk => ckBrk st
    | .kill _ => false
theorem kill_ex {n : Nat} (h : n ≠ 0) : ∀ is s, ex C n (.kill is) s = if is.all (free s) then .nx (wipe is s) else .stuck := by
  intro is s
  cases n with
  | zero => exact absurd rfl h
  | succ m => rfl
theorem ckS_ok (h : SxOk G C cf lv sc EX X) : ∀ (n : Nat) (t : St) (st : Stmt), ckS cf sc n t st = true → HS G EX X (ex C n t) st
  | 0, t, st, k => by cases k
  | n + 1, t, st, k => by
    have E1 := (ckET_ok G C cf lv n).1
    have T1 := (ckET_ok G C cf lv n).2
    have ss : n ≠ 0 → ∀ {ts : List St} {sts : List Stmt}, ckSs (ckS cf sc n) ts sts = true → HSs G EX X (exs (ex C n) ts) sts := fun hn => ckSs_ok (kill_ex hn) (fun t st => ckS_ok h n t st)
    cases t with
    | set i e => exact ckSet_ok h k
    | par is es => exact ckPar_ok h k
    | unp is e => exact ckUnp_ok h k
    | put i ke e => exact ckPut_ok h k
    | dput i ke e => exact ckDput_ok h k
    | app i e => exact ckApp_ok h k
    | ext i e => exact ckExt_ok h k
    | aug i e => exact ckAug_ok h k
    | eff e =>
      have k : ckEff cf n sc e st = true := k
      unfold ckEff at k
      split at k
      · simp only [Bool.and_eq_true, Bool.not_eq_true'] at k
        exact hs_eff (E1 _ _ _ _ _ _ h.cx k.2) k.1
      · cases k
    | iff c a b =>
      have k : (decide (n ≠ 0) && ckIff cf n sc (ckSs (ckS cf sc n)) c a b st) = true := k
      rw [Bool.and_eq_true, decide_eq_true_eq] at k
      obtain ⟨hn, k⟩ := k
      unfold ckIff at k
      split at k
      · simp only [Bool.and_eq_true] at k
        exact hs_iff (T1 _ _ _ _ _ _ h.cx k.1.1) (ss hn k.1.2) (ss hn k.2)
      · cases k
    | «for» tg one it b =>
      have k : (decide (n ≠ 0) && ckFor cf n sc (ckSs (ckS cf sc n)) tg one it b st) = true := k
      rw [Bool.and_eq_true, decide_eq_true_eq] at k
      obtain ⟨hn, k⟩ := k
      unfold ckFor at k
      split at k
      · simp only [Bool.and_eq_true, Bool.not_eq_true'] at k
        obtain ⟨⟨⟨k1, k2⟩, k3⟩, k4⟩ := k
        exact hs_for h.po h.cx.calm (ckI_ok E1 h.cx k1) (ckTg_ok h.cx.nd h.cx.calm h.cx.K (fun _ _ e => tgB_ok h.cx e) k2) (ckTg_gl k2) (ss hn k4) (fold_set k3 _)
      · cases k
    | whl c b =>
      have k : (decide (n ≠ 0) && ckWhl cf n sc (ckSs (ckS cf sc n)) c b st) = true := k
      rw [Bool.and_eq_true, decide_eq_true_eq] at k
      obtain ⟨hn, k⟩ := k
      unfold ckWhl at k
      split at k
      · rw [Bool.and_eq_true] at k
        exact hs_while h.po (T1 _ _ _ _ _ _ h.cx k.1) (ss hn k.2)
      · cases k
    | ret o =>
      cases o with
      | none =>
        have k : ckRetN st = true := k
        unfold ckRetN at k
        split at k
        · exact hs_retN
        · cases k
      | some e =>
        have k : ckRet cf n sc e st = true := k
        unfold ckRet at k
        split at k
        · exact hs_ret (E1 _ _ _ _ _ _ h.cx k)
        · cases k
    | raise e => exact ckRaise_ok h k
    | brk =>
      have k : ckBrk st = true := k
      unfold ckBrk at k
      split at k
      · exact hs_brk
      · cases k
    | kill is => cases k
/-- a body -/
def ckBody (cf : Cf) (sc : Scope) (n : Nat) (b : List St) (body : List Stmt) : Bool := decide (n ≠ 0) && ckSs (ckS cf sc n) b body
theorem ckBody_ok (h : SxOk G C cf lv sc EX X) {n : Nat} {b : List St} {body : List Stmt} (k : ckBody cf sc n b body = true) : HSs G EX X (exs (ex C n) b) body := by
  unfold ckBody at k
  rw [Bool.and_eq_true, decide_eq_true_eq] at k
  exact ckSs_ok (kill_ex k.1) (fun t st => ckS_ok h n t st) k.2
end
end Fs
set_option Elab.async false
set_option linter.all false
set_option maxRecDepth 100000
set_option maxHeartbeats 2000000
namespace Fs
open PySem PySem.Spec PyProof.Rows L2
/-! ### functions -/
/-- a def: as the text has it; its parameters; its frame's names; how many arguments by place; what it computes; has it a table of generator expressions, of lambdas -/
structure FI where
  name : Str
  params : Arguments
  body : List Stmt
  scope : Scope
  ps : List Str
  N : List Str
  ms : List Nat
  fn : Fn
  gen : Bool
  lam : Bool
/-- the module -/
structure Md where
  gis : List (Str × Int)
  bts : List Str
  ref : Str
  fis : List FI
def Md.tbl (m : Md) : List Fn := m.fis.map (·.fn)
def Md.cf (m : Md) (fi : FI) : Cf := { N := fi.N, gis := m.gis, bts := m.bts, fns := m.fis.map fun g => (g.name, g.ps, g.ms), gen := fi.gen, lam := fi.lam, ref := m.ref }
def Md.ckFn (m : Md) (fi : FI) : Bool := C8.scC fi.N fi.ps fi.scope && decide (fi.fn.np = fi.ps.length) && decide (fi.fn.ns = fi.N.length) && decide (fi.ps.length ≤ fi.N.length) && ckBody (m.cf fi) fi.scope deep fi.fn.body fi.body
/-- what the head tells of a def -/
structure FnSt (G : Gl0) (mg : Str → Option Value) (base : Heap) (fi : FI) : Prop where
  ex : ∃ (f : Addr) (fd : FuncData), FunD G.K fi.name fi.name fi.params fi.body fi.scope [] [] f fd ∧ mg fi.name = some (.ref f) ∧ (∀ m ∈ fi.ms, Bd G.K fd fi.ps m) ∧
    (fi.gen = true → ∃ c Pt, fd.code = .ref c ∧ LamX.TabB base mg c Pt ∧ (Pt, (fi.name ++ ".<locals>.") ++ "<genexpr>") ∈ G.T ∧ ∀ q ∈ G.T, q.1 = Pt → q.2 = (fi.name ++ ".<locals>.") ++ "<genexpr>") ∧
    (fi.lam = true → ∃ c Pt, fd.code = .ref c ∧ LamX.TabB base mg c Pt ∧ (Pt, (fi.name ++ ".<locals>.") ++ "<lambda>") ∈ G.T ∧ ∀ q ∈ G.T, q.1 = Pt → q.2 = (fi.name ++ ".<locals>.") ++ "<lambda>")
/-- .. of the module -/
structure MdSt (G : Gl0) (P : Program) (w : World) (mg : Str → Option Value) (base : Heap) (m : Md) : Prop where
  gis : ∀ x i, m.gis.lookup x = some i → ∃ t, mg x = some (.int i t)
  bts : ∀ x ∈ m.bts, mg x = none
  err : ∀ lv, ErrC P w G.K mg base G.C lv
  ref : RefC G.K mg G.C m.ref ∧ ErrX G.K G.C
  fns : ∀ fi ∈ m.fis, FnSt G mg base fi
section
variable {G : Gl0} {P : Program} {w : World} {mg : Str → Option Value} {base : Heap} {m : Md} {C : CT} {lv : Nat}
theorem fn_body {fi : FI} (M : MdSt G P w mg base m) (hcall : ∀ (i : Nat) (x : Str) (ps : List Str) (ms : List Nat), (m.cf fi).fns[i]? = some (x, ps, ms) → FnFact G C lv P w G.K mg base i x ps.length ps ms) (hk : m.ckFn fi = true) {f : Addr} {fd : FuncData} (F : FunD G.K fi.name fi.name fi.params fi.body fi.scope [] [] f fd)
    (hg : fi.gen = true → ∃ c Pt, fd.code = .ref c ∧ LamX.TabB base mg c Pt ∧ (Pt, (fi.name ++ ".<locals>.") ++ "<genexpr>") ∈ G.T ∧ ∀ q ∈ G.T, q.1 = Pt → q.2 = (fi.name ++ ".<locals>.") ++ "<genexpr>")
    (hlm : fi.lam = true → ∃ c Pt, fd.code = .ref c ∧ LamX.TabB base mg c Pt ∧ (Pt, (fi.name ++ ".<locals>.") ++ "<lambda>") ∈ G.T ∧ ∀ q ∈ G.T, q.1 = Pt → q.2 = (fi.name ++ ".<locals>.") ++ "<lambda>")
    {sp : Sp} (hsp : ∀ vs H Q E, sp vs H Q E → vs.length = fi.ps.length ∧ ∃ (F : Hp) (as : List Sl), as.length = fi.ps.length ∧ Rel G.K G.T (in0 fi.ps.length fi.N.length as) (inV fi.ps.length fi.N.length vs) F H ∧
      PO G E (in0 fi.ps.length fi.N.length as) (inV fi.ps.length fi.N.length vs) F H (exs (ex C deep) fi.fn.body (in0 fi.ps.length fi.N.length as)) { nx := fun _ H' => Q .non H', rt := Q }) :
    FnOk P w G.K mg base (L2.CX P w) (lv + 3 + 1) f fd fi.ps sp := by
  unfold Md.ckFn at hk
  simp only [Bool.and_eq_true, decide_eq_true_eq] at hk
  obtain ⟨⟨⟨⟨k1, k2⟩, k3⟩, k4⟩, k5⟩ := hk
  have S := C8.fnScope_by k1
  obtain ⟨oc, od, dV, kV, doc, pm, an, cdv, ct, osl, rfl, lk, hcd, _, _⟩ := F.ex
  refine fn_of lk hcd S (fun vs H Q E h => (hsp vs H Q E h).1) fun A outer s H vs Q E hr h => ?_
  obtain ⟨hl, Fz, as, hla, hrel, hpo⟩ := hsp vs H Q E h
  have sx : SxOk G C (m.cf fi) lv fi.scope E (cxOf (L2.CX P w) P w G.K mg base fi.N fi.name fi.scope f cdv A outer s H E) := {
    cx := {
      K := rfl
      N := rfl
      nd := S.nd
      sc := rfl
      calm := rfl
      room := by rw [if_pos rfl]; exact hr
      gis := M.gis
      bts := M.bts
      fns := hcall
      tk := takes_of rfl rfl rfl rfl
      fn := fun _ _ => rfl
      gen := fun _ e => by
        obtain ⟨c, Pt, e1, e2, e3, e4⟩ := hg e
        exact ⟨c, Pt, ⟨e2.code, e2.bm, e2.gP⟩, e1, e3, e4⟩
      lam := fun _ e => by
        obtain ⟨c, Pt, e1, e2, e3, e4⟩ := hlm e
        exact ⟨c, Pt, e2, e1, e3, e4⟩
      ref := fun _ => M.ref }
    po := passes_of rfl
    err := M.err lv
    kind := S.kind }
  refine ⟨_, pss_SS, ?_⟩
  have e : L2.start fi.N vs = inV fi.ps.length fi.N.length vs := by unfold L2.start inV; rw [hl]
  rw [e]
  exact ckBody_ok sx k5 _ _ Fz H _ hrel hpo
/-- one step: a def, from its callees -/
theorem fn_step (M : MdSt G P w mg base m) (hk : m.fis.all m.ckFn = true) {n : Nat} (ih : ∀ (i : Nat) (fi : FI), m.fis[i]? = some fi → FnFact G (call m.tbl n) (4 * n) P w G.K mg base i fi.name fi.ps.length fi.ps fi.ms) {i : Nat} {fi : FI} (e : m.fis[i]? = some fi)
    {f : Addr} {fd : FuncData} (F : FunD G.K fi.name fi.name fi.params fi.body fi.scope [] [] f fd)
    (hg : fi.gen = true → ∃ c Pt, fd.code = .ref c ∧ LamX.TabB base mg c Pt ∧ (Pt, (fi.name ++ ".<locals>.") ++ "<genexpr>") ∈ G.T ∧ ∀ q ∈ G.T, q.1 = Pt → q.2 = (fi.name ++ ".<locals>.") ++ "<genexpr>")
    (hlm : fi.lam = true → ∃ c Pt, fd.code = .ref c ∧ LamX.TabB base mg c Pt ∧ (Pt, (fi.name ++ ".<locals>.") ++ "<lambda>") ∈ G.T ∧ ∀ q ∈ G.T, q.1 = Pt → q.2 = (fi.name ++ ".<locals>.") ++ "<lambda>") :
    FnOk P w G.K mg base (L2.CX P w) (4 * (n + 1)) f fd fi.ps (FSp G (call m.tbl (n + 1)) i fi.ps.length fi.N.length) := by
  have hk1 := List.all_eq_true.mp hk fi (List.mem_of_getElem? e)
  have hk2 := hk1
  unfold Md.ckFn at hk2
  simp only [Bool.and_eq_true, decide_eq_true_eq] at hk2
  obtain ⟨⟨⟨⟨k1, k2⟩, k3⟩, k4⟩, k5⟩ := hk2
  refine fn_body (C := call m.tbl n) (lv := 4 * n) M (fun j x ps ms ej => ?_) hk1 F hg hlm fun vs H Q E h => ?_
  · have ej : (m.fis.map fun g => (g.name, g.ps, g.ms))[j]? = some (x, ps, ms) := ej
    rw [List.getElem?_map] at ej
    obtain ⟨g, h1, h2⟩ := Option.map_eq_some_iff.mp ej
    cases h2
    exact ih j g h1
  · obtain ⟨hl, hn, Fz, as, hla, hrel, hres⟩ := h
    refine ⟨hl, Fz, as, hla, hrel, ?_⟩
    have ec : call m.tbl (n + 1) i as = (match exs (ex (call m.tbl n) deep) fi.fn.body (in0 fi.ps.length fi.N.length as) with
        | .nx s => .ok (.dat .none) (s.take fi.ps.length)
        | .rt v s => .ok v (s.take fi.ps.length)
        | .xc nm s => .exc nm (s.take fi.ps.length)
        | _ => .stuck) := by
      have et : m.tbl[i]? = some fi.fn := by
        unfold Md.tbl
        rw [List.getElem?_map, e]; rfl
      unfold call
      rw [et]
      dsimp only
      rw [if_pos (by rw [hla, k2]), k2, k3]
      rfl
    rw [ec] at hres
    cases hx : exs (ex (call m.tbl n) deep) fi.fn.body (in0 fi.ps.length fi.N.length as) with
    | nx s' =>
      rw [hx] at hres
      exact fun σ' F' H' g r => hres s' σ' .non F' H' g r rfl .non trivial
    | rt v s' =>
      rw [hx] at hres
      exact fun w σ' F' H' g r a b => hres s' σ' w F' H' g r rfl a b
    | bk s' => rw [hx] at hres; exact hres.elim
    | xc nm s' =>
      rw [hx] at hres
      exact fun x d σ' F' H' e1 g r hd hn => hres s' σ' x d F' H' e1 g r rfl hd hn
    | stuck => rw [hx] at hres; exact hres.elim
/-- all defs keep to what is computed -/
theorem fns_all (M : MdSt G P w mg base m) (hk : m.fis.all m.ckFn = true) : ∀ (n : Nat) (i : Nat) (fi : FI), m.fis[i]? = some fi → FnFact G (call m.tbl n) (4 * n) P w G.K mg base i fi.name fi.ps.length fi.ps fi.ms
  | 0, i, fi, e => by
    obtain ⟨f, fd, F, hm, hb, _, _⟩ := (M.fns fi (List.mem_of_getElem? e)).ex
    exact ⟨f, fd, fi.ps.length, hm, F.kp, Nat.le_refl _, rfl, ⟨fun vs H Q E h => h.1, fun A outer s H args us vs Q E hr e0 hb r h => by
      obtain ⟨_, _, Fz, as, _, _, z⟩ := h
      exact z.elim⟩, hb⟩
  | n + 1, i, fi, e => by
    obtain ⟨f, fd, F, hm, hb, hg, hlm⟩ := (M.fns fi (List.mem_of_getElem? e)).ex
    have hk2 := List.all_eq_true.mp hk fi (List.mem_of_getElem? e)
    unfold Md.ckFn at hk2
    simp only [Bool.and_eq_true, decide_eq_true_eq] at hk2
    exact ⟨f, fd, fi.N.length, hm, F.kp, hk2.1.2, rfl, fn_step M hk (fns_all M hk n) e F hg hlm, hb⟩
end
end Fs
set_option Elab.async false
set_option linter.all false
set_option maxRecDepth 100000
set_option maxHeartbeats 2000000
namespace Fs
open PySem PySem.Spec PyProof.Rows L2 He
/-! ### the error class, looked at -/
abbrev InV : Type := Option (Str × Str × Arguments × FuncBody × Scope × Addr × Addr)
def errA (K : PySem.W.Frag) : Addr := ga K "BadArgument"
def initV (K : PySem.W.Frag) : InV := match K.lookup (ma K (errA K) "__init__") with
  | some ⟨_, _, .func fd, _⟩ => some (fd.name, fd.qualname, fd.params, fd.body, fd.scope, fd.globals, fd.builtins)
  | _ => none
def clsB (K : PySem.W.Frag) (C : Addr) : Bool := match K.lookup C with
  | some ⟨.type t, _, .cls cd, sl⟩ => decide (t = "type") && (match cd.mro, sl.toList with
    | .ref C' :: bm, [_, _, _, _, some (.builtin n), _] => decide (C' = C) && decide (n = "ValueError.__new__") && !cd.hasDel && cd.hasDict && PySem.HandSPX.refsVE bm
    | _, _ => false)
  | _ => false
theorem clsB_ok {K : PySem.W.Frag} {C : Addr} (h : clsB K C = true) : ∃ (nm q : Str) (N : Addr) (bs bm : List Value) (sn : List Str) (sub : List Value) (ab : Bool) (col : Option Bool) (dd : Option Addr) (k0 k1 k2 k3 k5 : Option Value),
    K.lookup C = some (excClassObj nm q C N bs bm true sn sub ab col dd k0 k1 k2 k3 k5 "ValueError.__new__") ∧ PySem.HandSPX.refsVE bm = true := by
  unfold clsB at h
  split at h
  · rename_i t dd cd sl ho
    rw [Bool.and_eq_true, decide_eq_true_eq] at h
    obtain ⟨rfl, h⟩ := h
    split at h
    · rename_i C' bm k0 k1 k2 k3 n k5 hm hs
      simp only [Bool.and_eq_true, decide_eq_true_eq, Bool.not_eq_true'] at h
      obtain ⟨⟨⟨⟨rfl, rfl⟩, hd⟩, hh⟩, hv⟩ := h
      obtain ⟨nm, bs, mro, ns, qn, hdct, sn, sub, ab, col, del⟩ := cd
      obtain ⟨l⟩ := sl
      dsimp only at hm hd hh hs
      subst hm hd hh hs
      exact ⟨nm, qn, ns, bs, bm, sn, sub, ab, col, dd, k0, k1, k2, k3, k5, ho, hv⟩
    · cases h
  · cases h
def veB : List Value := [.type "ValueError", .type "Exception", .type "BaseException", .type "object"]
def isNonV : Value → Bool
  | .none => true
  | _ => false
/-- the __init__'s closure and code -/
def iniB (file : Str) (K : PySem.W.Frag) : Bool := match K.lookup (ma K (errA K) "__init__") with
  | some ⟨_, _, .func fd, _⟩ => isNonV fd.defaults && PySem.W.codeIn K fd.code fd.qualname && (match fd.closure with
    | [(y, cc)] => decide (y = "__class__") && (match K.lookup cc with
      | some ⟨_, _, .cell (some (.ref C')), _⟩ => decide (C' = errA K)
      | _ => false)
    | _ => false) && (match fd.code with
    | .ref c => (match K.lookup c with
      | some ⟨_, _, .fields vs, _⟩ => (match (vs[2]? : Option Value) with
        | some (.str f _) => (file == f)
        | _ => false)
      | _ => false)
    | _ => false)
  | _ => false
def errB (file : Str) (K : PySem.W.Frag) : Bool :=
  clsB K (errA K) && PySem.W.excInitIn K (errA K) veB "ValueError.__new__" && eqO (PySem.W.findIn K (.ref (errA K)) "__setattr__") (some (some (.builtin "object.__setattr__")))
    && decide (PySem.W.subIn K (.ref (errA K)) (.type "BaseException") = some true) && decide (PySem.W.typeIn K (.ref (errA K)) = some (.type "type")) && PySem.W.keepIn K (.ref (errA K))
    && eqO (PySem.W.findIn K (.ref (errA K)) "__init__") (some (some (.ref (ma K (errA K) "__init__")))) && decide (PySem.W.typeIn K (.ref (ma K (errA K) "__init__")) = some (.type "function"))
    && decide (PySem.W.mroIn K (errA K) (.ref (errA K)) = some true) && decide (PySem.W.subIn K (.ref (errA K)) (.type "ValueError") = some true) && eqO (PySem.W.nsIn K cStatics "thirdparty.any") (some none)
    && eqO (PySem.W.ks_superIn K (errA K) (errA K) "__init__") (some (some (.builtin "ValueError.__init__"))) && eqO (PySem.W.findIn K (.ref (errA K)) "name") (some none)
    && decide (PySem.W.exmOne K (.ref (errA K)) (.ref (errA K)) = some true) && xfB K (errA K) && iniB file K
/-- the text of the class's __init__ -/
structure InitT (params : Arguments) (body : List Stmt) (scope : Scope) : Prop where
  body : ∃ (msg : Str) (j : Nat) (p0 p1 apos p2 p3 p4 p5 p6 p7 p8 p9 p10 : Pos) (pl : Env → Sem Bool), body = initBody msg j p0 p1 apos p2 p3 p4 p5 p6 p7 p8 p9 p10 ∧ InitEv msg j p0 p1 apos p2 p3 p4 p5 pl ∧ msg.length ≤ 1000
  par : ∃ ar : Arg, (params.posonlyargs ++ params.args).head? = some ar ∧ ar.arg = "self"
  bind : ∀ (fd : FuncData) (us : List Value), fd.params = params → fd.defaults = .none → us.length = 2 → bindArgs fd ⟨us, []⟩ = pure ((["self", "name"] : List Str).zip us)
  s1 : scope.names.lookup ("super" : Str) = some NameKind.globalImplicit
  s2 : scope.names.lookup ("__class__" : Str) = some NameKind.free
  s3 : scope.names.lookup ("self" : Str) = some NameKind.local
  s4 : scope.names.lookup ("name" : Str) = some NameKind.local
  s5 : scope.kind = .function
  s6 : scope.isCoroutine = false
  s7 : scope.isGenerator = false
  s8 : ∀ x ∈ scope.names, x.2 ≠ .cell
theorem err_of {P : Program} {w : World} {K : PySem.W.Frag} {mg : Str → Option Value} {base : Heap} {lv : Nat} {params : Arguments} {body : List Stmt} {scope : Scope} {nm : Str} (h : errB P.main.file K = true) (hv : initV K = some (nm, ("BadArgument.__init__" : Str), params, FuncBody.stmts body, scope, mainGlobals, builtinsNs)) (ht : InitT params body scope)
    (hmB : mg "BadArgument" = some (.ref (errA K))) (hms : mg "super" = none) (htop : (P.main.scope.names.lookup ("super" : Str)).isSome = false) : ErrC P w K mg base (errA K) lv ∧ ErrX K (errA K) := by
  unfold errB at h
  simp only [Bool.and_eq_true, decide_eq_true_eq] at h
  obtain ⟨⟨⟨⟨⟨⟨⟨⟨⟨⟨⟨⟨⟨⟨⟨c1, c2⟩, c3⟩, c4⟩, c5⟩, c6⟩, c7⟩, c8⟩, c9⟩, c10⟩, c11⟩, c12⟩, c13⟩, c14⟩, c15⟩, c16⟩ := h
  obtain ⟨cn, q, N, bs, bm, sn, sub, ab, col, dd, k0, k1, k2, k3, k5, hC, hbm⟩ := clsB_ok c1
  have T : OexC K (errA K) := ⟨⟨cn, q, N, bs, bm, sn, sub, ab, col, dd, k0, k1, k2, k3, k5, hC, hbm⟩, eqO_ok c3, c4, c5, c6⟩
  refine ⟨⟨T, hmB, ma K (errA K) "__init__", ?_⟩, ⟨xfB_ok c15, eqO_ok c13, c14⟩⟩
  unfold iniB at c16
  unfold initV at hv
  cases hl : K.lookup (ma K (errA K) "__init__") with
  | none => rw [hl] at hv; cases hv
  | some o =>
    obtain ⟨oc, od, dt, osl⟩ := o
    rw [hl] at hv c16
    cases dt with
    | func fd =>
      obtain ⟨n1, n2, n3, n4, n5, n6, n7, n8, n9, n10, n11, n12, n13, n14, n15⟩ := fd
      dsimp only at hv c16
      simp only [Option.some.injEq, Prod.mk.injEq] at hv
      obtain ⟨e1, e2, e3, e4, e5, e6, e7⟩ := hv
      subst e1 e2 e3 e4 e5 e6 e7
      simp only [Bool.and_eq_true] at c16
      obtain ⟨⟨⟨d1, d2⟩, d3⟩, d4⟩ := c16
      split at d3
      · rename_i y cc
        rw [Bool.and_eq_true, decide_eq_true_eq] at d3
        obtain ⟨rfl, d3⟩ := d3
        split at d3
        · rename_i cl cld C' csl hcc
          have d3 := of_decide_eq_true d3
          subst d3
          split at d4
          · rename_i cda
            split at d4
            · rename_i ccl cdd vs ccs hco
              split at d4
              · rename_i f tf hvs
                obtain ⟨msg, j, p0, p1, apos, p2, p3, p4, p5, p6, p7, p8, p9, p10, pl, hb, hev, hml⟩ := ht.body
                obtain ⟨ar, ha1, ha2⟩ := ht.par
                have hdv : n8 = Value.none := by
                  unfold isNonV at d1
                  split at d1
                  · rfl
                  · cases d1
                subst hb
                refine ⟨_, eqO_ok c7, c8, init_ok (msg := msg) (j := j) (p0 := p0) (p1 := p1) (apos := apos) (p2 := p2) (p3 := p3) (p4 := p4) (p5 := p5) (p6 := p6) (p7 := p7) (p8 := p8) (p9 := p9) (p10 := p10) hl d2 hco hvs d4 hcc T hC hbm c2 c9 c10 (eqO_ok c11) (eqO_ok c12) (eqO_ok c13) hms ha1 ha2 ht.s1 ht.s2 ht.s3 ht.s4 ht.s5 ht.s6 ht.s7 ht.s8 htop hml hev, ?_⟩
                exact .all fun us hu => ht.bind _ us rfl hdv hu
              · cases d4
            · cases d4
          · cases d4
        · cases d3
      · cases d3
    | _ => cases hv
end Fs
set_option Elab.async false
set_option linter.all false
set_option maxRecDepth 100000
set_option maxHeartbeats 2000000
namespace Fs
open PySem PySem.Spec PyProof.Rows L2 He
/-! ### the hook -/
def frF (g : Addr → Option Obj) : PySem.W.Frag := frT g (asD g 5 ++ [cStatics])
abbrev AlF : Type := AlT × Bool × InV
def obsF (fa : List Fa) (fn : List DefD) (tf : List Defn) (file : Str) (g : Addr → Option Obj) : AlF :=
  (obsT fa fn [] (frF g), errB file (frF g) && tabsB g tf (frF g) && decide ((tf.map fun p => (cT (frF g) p).2).Nodup), initV (frF g))
structure SaysF (fa : List Fa) (fn : List DefD) (tf : List Defn) (file : Str) (iv : InV) (w : World) (h : Heap) (K : PySem.W.Frag) : Prop where
  t : SaysT fa fn [] w K
  err : errB file K = true
  iv : initV K = iv
  hd : ∀ p ∈ tf, PySem.W.codeHdIn K (cT K p).1 (cT K p).2 = true
  out : ∀ p ∈ tf, K.lookup (cT K p).2 = none
  empty : ∀ p ∈ tf, h.get? (cT K p).2 = some { cls := .none, data := .fields #[] }
  nd : (tf.map fun p => (cT K p).2).Nodup
theorem saysF_of {fa : List Fa} {fn : List DefD} {tf : List Defn} {file : Str} {iv : InV} {w : World} {h : Heap} (e : obsF fa fn tf file h.get? = (valT fn [] w, true, iv)) : SaysF fa fn tf file iv w h (frF h.get?) := by
  unfold obsF at e
  simp only [Prod.mk.injEq, Bool.and_eq_true, decide_eq_true_eq] at e
  obtain ⟨e1, ⟨⟨e2, e3⟩, e4⟩, e5⟩ := e
  have key : ∀ p ∈ tf, PySem.W.codeHdIn (frF h.get?) (cT (frF h.get?) p).1 (cT (frF h.get?) p).2 = true ∧ ∃ o, h.get? (cT (frF h.get?) p).2 = some o ∧ emptyTab o = true := fun p hp => by
    have := List.all_eq_true.mp e3 p hp
    rw [Bool.and_eq_true] at this
    refine ⟨this.1, ?_⟩
    have h2 := this.2
    split at h2
    · exact ⟨_, ‹_›, h2⟩
    · cases h2
  refine ⟨e1, e2, e5, fun p hp => (key p hp).1, fun p hp => ?_, fun p hp => ?_, e4⟩
  · obtain ⟨_, o, h1, h2⟩ := key p hp
    exact frT_none h1 h2
  · obtain ⟨_, o, h1, h2⟩ := key p hp
    rw [h1, emptyTab_eq h2]
def hookF (fa : List Fa) (fn : List DefD) (tf : List Defn) (file : Str) (iv : InV) : PySem.W.Hook where
  α := AlF
  obs := fun s => obsF fa fn tf file s.heap.get?
  val := fun w => (valT fn [] w, true, iv)
  says := fun w h => ∃ K : PySem.W.Frag, K.In h ∧ SaysF fa fn tf file iv w h K
  of := fun _ _ e => ⟨_, frT_in, saysF_of e⟩
  keeps := fun _ _ _ ⟨K, hK, c⟩ k => ⟨K, PySem.W.Frag.In.keeps hK k, ⟨c.t, c.err, c.iv, c.hd, c.out, fun p hp => k _ _ (c.empty p hp), c.nd⟩⟩
theorem obsF_eq {fa : List Fa} {fn : List DefD} {tf : List Defn} {file : Str} {iv : InV} {g : Addr → Option Obj} {s : Shared} (h : ∀ a, g a = s.heap.get? a) : obsF fa fn tf file g = (hookF fa fn tf file iv).obs s := by
  have e : g = s.heap.get? := funext h
  rw [e] <;> rfl
theorem nodup_inj {α β : Type} {f : α → β} : ∀ {l : List α}, (l.map f).Nodup → ∀ {a b : α}, a ∈ l → b ∈ l → f a = f b → a = b
  | x :: l, h, a, b, ha, hb, e => by
    rw [List.map_cons, List.nodup_cons] at h
    rcases List.mem_cons.mp ha with h1 | h1
    · rcases List.mem_cons.mp hb with h2 | h2
      · rw [h1, h2]
      · exact absurd (List.mem_map.mpr ⟨b, h2, by rw [← e, h1]⟩) h.1
    · rcases List.mem_cons.mp hb with h2 | h2
      · exact absurd (List.mem_map.mpr ⟨a, h1, by rw [e, h2]⟩) h.1
      · exact nodup_inj h.2 h1 h2 e
/-! ### the law's promise -/
def FI.dd (fi : FI) : DefD := ⟨(fi.name, none), fi.name, fi.name, fi.params, fi.body, fi.scope, [], []⟩
def Md.fa (m : Md) (rn : Str) : List Fa := m.fis.map (fun fi => .glo fi.name) ++ (m.gis.map (fun p => .int p.1 p.2) ++ (m.bts.map .free ++ [.glo "BadArgument", .free "super", .glo rn]))
def Md.tf (m : Md) : List Defn := (m.fis.filter fun fi => fi.gen || fi.lam).map fun fi => (fi.name, none)
def Md.T (m : Md) (K : PySem.W.Frag) : List Tb := m.fis.filterMap fun fi => if fi.gen = true then some ((cT K (fi.name, none)).2, (fi.name ++ ".<locals>.") ++ "<genexpr>") else if fi.lam = true then some ((cT K (fi.name, none)).2, (fi.name ++ ".<locals>.") ++ "<lambda>") else none
/-- how a def's text binds -/
def BdT (fi : FI) (k : Nat) : Prop := ∀ (fd : FuncData) (us ws : List Value), fd.params = fi.params → fd.defaults = .none → us.length = k → us.length + ws.length = fi.ps.length → bindArgs fd ⟨us, (fi.ps.drop k).zip ws⟩ = pure (fi.ps.zip (us ++ ws))
/-- the text of refused -/
structure RefT (rd : DefD) : Prop where
  at_ : rd.at_ = (rd.name, none)
  qual : rd.qual = rd.name
  dfl : rd.dfl = []
  kwd : rd.kwd = []
  body : ∃ (j : Nat) (p1 p2 p3 p4 p5 p6 p7 p8 p9 p10 p11 : Pos), rd.body = refBody "BadArgument" "call" ⟨#[]⟩ j p1 p2 p3 p4 p5 p6 p7 p8 p9 p10 p11
  sc : C8.scC ["call", "e"] ["call"] rd.scope = true
  s1 : rd.scope.names.lookup ("BadArgument" : Str) = some NameKind.globalImplicit
  s2 : rd.scope.names.lookup ("e" : Str) = some NameKind.local
  s3 : rd.scope.names.lookup ("call" : Str) = some NameKind.local
  bind : ∀ (fd : FuncData) (us : List Value), fd.params = rd.params → fd.defaults = .none → us.length = 1 → bindArgs fd ⟨us, []⟩ = pure ((["call"] : List Str).zip us)
def Md.wf (m : Md) : Bool := decide ((m.fis.map (·.name)).Nodup) && m.fis.all fun fi => !(fi.gen && fi.lam)
theorem dfl_none {K : PySem.W.Frag} {dV : Value} (h : DflV K dV []) : dV = .none := by
  rcases h with ⟨_, e⟩ | ⟨e, _⟩
  · exact e
  · exact absurd rfl e
section
variable {m : Md} {rd : DefD} {file : Str} {iv : InV} {w : World} {h : Heap} {K : PySem.W.Frag} {mg : Str → Option Value} {base : Heap} {P : Program}
theorem fnSt_of {C : Addr} (c : SaysF (m.fa rd.name) (m.fis.map FI.dd ++ [rd]) m.tf file iv w h K) (hK : K.In base) (hns : base.Ns mainGlobals mg) (hwf : m.wf = true) (htab : ∀ p ∈ m.tf, LamX.TabB base mg (cT K p).1 (cT K p).2) {fi : FI} (hfi : fi ∈ m.fis) (hb : ∀ k ∈ fi.ms, BdT fi k) :
    FnSt ⟨K, m.T K, C⟩ mg base fi := by
  obtain ⟨fd, F⟩ := SaysD.defs c.t.d (d := fi.dd) (List.mem_append_left _ (List.mem_map_of_mem hfi))
  have hm := glo_ok hK hns (SaysD.facts c.t.d (f := .glo fi.name) (List.mem_append_left _ (List.mem_map.mpr ⟨fi, hfi, rfl⟩)))
  have F : FunD K fi.name fi.name fi.params fi.body fi.scope [] [] (ga K fi.name) fd := F
  unfold Md.wf at hwf
  rw [Bool.and_eq_true, decide_eq_true_eq, List.all_eq_true] at hwf
  have inj : ∀ a ∈ m.fis, ∀ b ∈ m.fis, a.name = b.name → a = b := fun a ha b hb e => nodup_inj hwf.1 ha hb e
  have mtf : ∀ a ∈ m.fis, (a.gen || a.lam) = true → ((a.name, none) : Defn) ∈ m.tf := fun a ha e => List.mem_map.mpr ⟨a, List.mem_filter.mpr ⟨ha, e⟩, rfl⟩
  obtain ⟨oc, od, dV, kV, doc, pm, an, cdv, ct, osl, e1, lk, hcd, hD, _⟩ := F.ex
  obtain ⟨cc, hcc⟩ := codeIn_ref hcd
  have hcode : fd.code = .ref (cT K (fi.name, none)).1 := by
    have e2 : fd.code = .ref cc := by rw [e1]; exact hcc
    have e3 := codeOf_eq (K := K) (p := (fi.name, none)) lk e2
    rw [e2]
    show Value.ref cc = Value.ref (codeOf K (fi.name, none))
    rw [e3]
  have uniq : (fi.gen || fi.lam) = true → ∀ q ∈ m.T K, q.1 = (cT K (fi.name, none)).2 → (if fi.gen = true then some ((cT K (fi.name, none)).2, (fi.name ++ ".<locals>.") ++ "<genexpr>") else if fi.lam = true then some ((cT K (fi.name, none)).2, (fi.name ++ ".<locals>.") ++ "<lambda>") else none) = some q := fun hg q hq e => by
    obtain ⟨fj, hj, ej⟩ := List.mem_filterMap.mp hq
    have hgj : (fj.gen || fj.lam) = true ∧ q.1 = (cT K (fj.name, none)).2 := by
      by_cases g1 : fj.gen = true
      · rw [if_pos g1] at ej; cases ej; exact ⟨by rw [g1]; rfl, rfl⟩
      · rw [if_neg g1] at ej
        by_cases g2 : fj.lam = true
        · rw [if_pos g2] at ej; cases ej; exact ⟨by rw [g2]; simp, rfl⟩
        · rw [if_neg g2] at ej; cases ej
    have := nodup_inj c.nd (mtf fj hj hgj.1) (mtf fi hfi hg) (hgj.2.symm.trans e)
    have e5 := inj fj hj fi hfi (congrArg Prod.fst this)
    subst e5
    exact ej
  refine ⟨ga K fi.name, fd, F, hm, fun k hk s us ws hs h1 h2 => .of_eq (hb k hk fd us ws (by rw [e1]) (by rw [e1]; exact dfl_none hD) h1 h2), fun hg => ?_, fun hl => ?_⟩
  · refine ⟨_, _, hcode, htab _ (mtf fi hfi (by rw [hg]; rfl)), List.mem_filterMap.mpr ⟨fi, hfi, by rw [if_pos hg]⟩, fun q hq e => ?_⟩
    have := uniq (by rw [hg]; rfl) q hq e
    rw [if_pos hg] at this
    cases this; rfl
  · have hng : fi.gen ≠ true := fun z => by
      have := hwf.2 fi hfi
      rw [z, hl] at this; cases this
    refine ⟨_, _, hcode, htab _ (mtf fi hfi (by rw [hl]; simp)), List.mem_filterMap.mpr ⟨fi, hfi, by rw [if_neg hng, if_pos hl]⟩, fun q hq e => ?_⟩
    have := uniq (by rw [hl]; simp) q hq e
    rw [if_neg hng, if_pos hl] at this
    cases this; rfl
end
end Fs
set_option Elab.async false
set_option linter.all false
set_option maxRecDepth 100000
set_option maxHeartbeats 2000000
namespace Fs
open PySem PySem.Spec PyProof.Rows L2 He
section
variable {m : Md} {rd : DefD} {file : Str} {iv : InV} {w : World} {h : Heap} {K : PySem.W.Frag} {mg : Str → Option Value} {base : Heap} {P : Program}
theorem refC_of (c : SaysF (m.fa rd.name) (m.fis.map FI.dd ++ [rd]) m.tf file iv w h K) (hK : K.In base) (hns : base.Ns mainGlobals mg) (R : RefT rd) : RefC K mg (errA K) rd.name := by
  have hB := glo_ok hK hns (SaysD.facts c.t.d (f := .glo "BadArgument") (List.mem_append_right _ (List.mem_append_right _ (List.mem_append_right _ List.mem_cons_self))))
  have hR := glo_ok hK hns (SaysD.facts c.t.d (f := .glo rd.name) (List.mem_append_right _ (List.mem_append_right _ (List.mem_append_right _ (by simp)))))
  obtain ⟨fd, F⟩ := SaysD.defs c.t.d (d := rd) (List.mem_append_right _ List.mem_cons_self)
  obtain ⟨at_, name, qual, params, body, scope, dfl, kwd⟩ := rd
  obtain ⟨r1, r2, r3, r4, ⟨j, p1, p2, p3, p4, p5, p6, p7, p8, p9, p10, p11, r5⟩, r6, r7, r8, r9, r10⟩ := R
  dsimp only at r1 r2 r3 r4 r5 r6 r7 r8 r9 r10
  subst r1 r2 r3 r4 r5
  have F : FunD K qual qual params (refBody "BadArgument" "call" ⟨#[]⟩ j p1 p2 p3 p4 p5 p6 p7 p8 p9 p10 p11) scope [] [] (ga K qual) fd := F
  obtain ⟨oc, od, dV, kV, doc, pm, an, cdv, ct, osl, e1, lk, hcd, hD, _⟩ := F.ex
  refine ⟨hB, ga K qual, oc, od, params, scope, dV, kV, doc, pm, cdv, ct, an, osl, j, p1, p2, p3, p4, p5, p6, p7, p8, p9, p10, p11, hR, F.kp, by rw [← e1]; exact lk, hcd, ?_, C8.fnScope_by r6, r7, r8, r9⟩
  exact .all fun us hu => r10 _ us rfl (dfl_none hD) hu
theorem mdSt_of {params : Arguments} {body : List Stmt} {scope : Scope} {nm : Str} (c : SaysF (m.fa rd.name) (m.fis.map FI.dd ++ [rd]) m.tf P.main.file (some (nm, ("BadArgument.__init__" : Str), params, FuncBody.stmts body, scope, mainGlobals, builtinsNs)) w h K) (hK : K.In base) (hns : base.Ns mainGlobals mg)
    (R : RefT rd) (hr : m.ref = rd.name) (ht : InitT params body scope) (htop : (P.main.scope.names.lookup ("super" : Str)).isSome = false) (hwf : m.wf = true) (hb : ∀ fi ∈ m.fis, ∀ k ∈ fi.ms, BdT fi k) (htab : ∀ p ∈ m.tf, LamX.TabB base mg (cT K p).1 (cT K p).2) :
    MdSt ⟨K, m.T K, errA K⟩ P w mg base m := by
  have hB := glo_ok hK hns (SaysD.facts c.t.d (f := .glo "BadArgument") (List.mem_append_right _ (List.mem_append_right _ (List.mem_append_right _ List.mem_cons_self))))
  have hS := free_ok hK hns (SaysD.facts c.t.d (f := .free "super") (List.mem_append_right _ (List.mem_append_right _ (List.mem_append_right _ (by simp)))))
  have he : ∀ lv, ErrC P w K mg base (errA K) lv ∧ ErrX K (errA K) := fun lv => err_of c.err c.iv ht hB hS htop
  refine ⟨fun x i e => ?_, fun x hx => ?_, fun lv => (he lv).1, ⟨by rw [hr]; exact refC_of c hK hns R, (he 0).2⟩, fun fi hfi => fnSt_of c hK hns hwf htab hfi (hb fi hfi)⟩
  · exact int_ok hK hns (SaysD.facts c.t.d (f := .int x i) (List.mem_append_right _ (List.mem_append_left _ (List.mem_map.mpr ⟨(x, i), PySem.mem_of_lookup e, rfl⟩))))
  · exact free_ok hK hns (SaysD.facts c.t.d (f := .free x) (List.mem_append_right _ (List.mem_append_right _ (List.mem_append_left _ (List.mem_map.mpr ⟨x, hx, rfl⟩)))))
/-- the law's promise, from what is computed -/
theorem law_at {l : PySem.W.OpenLaw} {n N lawi : Nat} {params : Arguments} {body : List Stmt} {scope : Scope} {nm x : Str} {fil : FI} {fa : Addr}
    (c : SaysF (m.fa rd.name) (m.fis.map FI.dd ++ [rd]) m.tf l.prog.main.file (some (nm, ("BadArgument.__init__" : Str), params, FuncBody.stmts body, scope, mainGlobals, builtinsNs)) w h K) (hK : K.In h) (hns : h.Ns mainGlobals mg)
    (R : RefT rd) (hr : m.ref = rd.name) (ht : InitT params body scope) (htop : (l.prog.main.scope.names.lookup ("super" : Str)).isSome = false) (hwf : m.wf = true) (hb : ∀ fi ∈ m.fis, ∀ k ∈ fi.ms, BdT fi k) (hck : m.fis.all m.ckFn = true)
    (hi : m.fis[lawi]? = some fil) (hps : fil.ps = [x]) (hms : 1 ∈ fil.ms) (hfa : mg fil.name = some (.ref fa)) (hN : fil.fn.ns = fil.N.length)
    (hlaw : ∀ ns : List Int, ns.length ≤ n → (∀ z ∈ ns, Builtin.Int.intBits z ≤ 1048576) → ∃ bs, call m.tbl (N + 1) lawi [.scr ns] = .ok (.dat (.bool true)) bs) :
    LamX.LawAtS l w K (L2.CX l.prog w) (4 * (N + 1)) n x mg fa h := by
  have hfi := List.mem_of_getElem? hi
  obtain ⟨fd, F⟩ := SaysD.defs c.t.d (d := fil.dd) (List.mem_append_left _ (List.mem_map_of_mem hfi))
  have F : FunD K fil.name fil.name fil.params fil.body fil.scope [] [] (ga K fil.name) fd := F
  have hm := glo_ok hK hns (SaysD.facts c.t.d (f := .glo fil.name) (List.mem_append_left _ (List.mem_map.mpr ⟨fil, hfi, rfl⟩)))
  have efa : ga K fil.name = fa := by
    rw [hm] at hfa
    exact Value.ref.inj (Option.some.inj hfa)
  have hck1 := List.all_eq_true.mp hck fil hfi
  unfold Md.ckFn at hck1
  simp only [Bool.and_eq_true, decide_eq_true_eq] at hck1
  have hnp : 1 ≤ fil.N.length := by have := hck1.1.2; rw [hps] at this; exact this
  obtain ⟨oc, od, dV, kV, doc, pm, an, cdv, ct, osl, e1, lk, hcd, hD, _⟩ := F.ex
  have hbind : ∀ (s : Shared) (u : Value), BindsTo s fd ⟨[u], []⟩ [(x, u)] := fun s u => by
    have := hb fil hfi 1 hms fd [u] [] (by rw [e1]) (by rw [e1]; exact dfl_none hD) rfl (by rw [hps]; rfl)
    rw [hps] at this
    exact .of_eq this
  have inTf : ∀ q : Tb, q ∈ m.T K → ∃ p ∈ m.tf, q.1 = (cT K p).2 := fun q hq => by
    obtain ⟨fj, hj, ej⟩ := List.mem_filterMap.mp hq
    by_cases g1 : fj.gen = true
    · rw [if_pos g1] at ej; cases ej
      exact ⟨(fj.name, none), List.mem_map.mpr ⟨fj, List.mem_filter.mpr ⟨hj, by rw [g1]; rfl⟩, rfl⟩, rfl⟩
    · rw [if_neg g1] at ej
      by_cases g2 : fj.lam = true
      · rw [if_pos g2] at ej; cases ej
        exact ⟨(fj.name, none), List.mem_map.mpr ⟨fj, List.mem_filter.mpr ⟨hj, by rw [g2]; simp⟩, rfl⟩, rfl⟩
      · rw [if_neg g2] at ej; cases ej
  refine ⟨fd, m.tf.map (cT K), FSp ⟨K, m.T K, errA K⟩ (call m.tbl (N + 1)) lawi 1 fil.N.length, fun p hp => ?_, fun p hp => ?_, fun p hp => ?_, hbind, fun H a ns hl hbits hT hS => ?_, fun base hKb hnsb htab => ?_⟩
  · obtain ⟨q, hq, rfl⟩ := List.mem_map.mp hp
    exact c.empty q hq
  · obtain ⟨q, hq, rfl⟩ := List.mem_map.mp hp
    exact c.out q hq
  · obtain ⟨q, hq, rfl⟩ := List.mem_map.mp hp
    exact PySem.W.codeHd_of_K hK (c.hd q hq)
  · -- the script
    obtain ⟨bs, hc⟩ := hlaw ns hl hbits
    have hTq : ∀ q ∈ m.T K, H q.1 = some (.tbl #[]) := fun q hq => by
      obtain ⟨p, hp, e⟩ := inTf q hq
      rw [e]; exact hT _ (List.mem_map_of_mem hp)
    obtain ⟨F0, f1, f2, f3⟩ : ∃ F0 : Hp, SqL K F0 a (ns.map V.int) ∧ Sub F0 H ∧ ∀ b ps, H b = some (.tbl ps) → F0 b = none := by
      rcases hS with hS | hS
      · have hb : ∃ o, H a = some o ∧ (∀ ps, o ≠ .tbl ps) ∧ SqL K (fun b => if b = a then some o else none) a (ns.map V.int) := by
          rcases hS with hS | ⟨o, hS⟩
          · exact ⟨_, hS, (fun ps z => by cases z), .inl (.inl (if_pos rfl))⟩
          · exact ⟨_, hS, (fun ps z => by cases z), .inl (.inr ⟨o, if_pos rfl⟩)⟩
        obtain ⟨o, e1, e2, e3⟩ := hb
        refine ⟨_, e3, fun b u e => ?_, fun b ps e => ?_⟩
        · by_cases hb : b = a
          · have e : (if b = a then some o else none) = some u := e
            rw [if_pos hb] at e; cases e; rw [hb]; exact e1
          · have e : (if b = a then some o else none) = some u := e
            rw [if_neg hb] at e; cases e
        · have hb : b ≠ a := fun z => by rw [z, e1] at e; exact e2 ps (Option.some.inj e)
          exact if_neg hb
      · exact ⟨fun _ => none, .inr hS, (fun b u e => by cases e), fun b ps e => rfl⟩
    refine ⟨rfl, hnp, F0, [.scr ns], rfl, ?_, ?_⟩
    · have hin : ∀ (i : Nat) (z : Sl), (in0 1 fil.N.length [.scr ns])[i]? = some z → z ≠ .un → i = 0 ∧ z = .scr ns := fun i z e hz => by
        obtain ⟨h1, h2⟩ := in0_at (np := 1) rfl e hz
        have h0 : i = 0 := by omega
        subst h0
        cases h2
        exact ⟨rfl, rfl⟩
      refine ⟨by simp [in0, inV], fun i d e => ?_, fun i b d e => ?_, fun i zs e => ?_, fun i j b d c e l e1 e2 e3 e4 => ?_, f2, fun q hq => ⟨f3 _ _ (hTq q hq), LamX.TabS.nil (hTq q hq)⟩⟩
      · cases (hin i _ e (by intro z; cases z)).2
      · cases (hin i _ e (by intro z; cases z)).2
      · obtain ⟨h0, h1⟩ := hin i _ e (by intro z; cases z)
        subst h0
        cases h1
        exact ⟨a, inV_at rfl, f1⟩
      · cases (hin i _ e1 (by intro z; cases z)).2
    · rw [hc]
      intro s' σ' w' F' H' g r _ hv _
      cases hv
      rfl
  · have M := mdSt_of (P := l.prog) c hKb hnsb R hr ht htop hwf hb fun p hp => htab _ (List.mem_map_of_mem hp)
    obtain ⟨f2, fd2, F2, hm2, hB2, hg2, hl2⟩ := (M.fns fil hfi).ex
    have F2 : FunD K fil.name fil.name fil.params fil.body fil.scope [] [] f2 fd2 := F2
    have e2 : f2 = fa := by
      have hm3 := glo_ok hKb hnsb (SaysD.facts c.t.d (f := .glo fil.name) (List.mem_append_left _ (List.mem_map.mpr ⟨fil, hfi, rfl⟩)))
      rw [hm3] at hm2
      rw [← efa]
      exact (Value.ref.inj (Option.some.inj hm2)).symm
    obtain ⟨_, _, _, _, _, _, _, _, _, _, _, lk2, _⟩ := F2.ex
    have e3 : fd2 = fd := by
      rw [e2, ← efa, lk] at lk2
      have := Option.some.inj lk2
      injection this with _ _ h3 _
      injection h3 with h4
      exact h4.symm
    subst e2 e3
    have := fn_step (G := ⟨K, m.T K, errA K⟩) M hck (fns_all M hck N) hi F2 hg2 hl2
    rw [hps] at this
    exact this
end
end Fs
set_option linter.all false
set_option maxRecDepth 10000
namespace Fs
open PySem
/-! ### rewriting rules -/
section
variable {α β : Type} {C : CT} {n : Nat} {s : S} {f : E → S → R Vl}
@[simp] theorem bind_ok (a : α) (g : α → S → R β) : (R.ok a s).bind g = g a s := rfl
@[simp] theorem bind_exc (nm : D) (g : α → S → R β) : (R.exc nm s : R α).bind g = .exc nm s := rfl
@[simp] theorem bind_stuck (g : α → S → R β) : (R.stuck : R α).bind g = .stuck := rfl
@[simp] theorem of_ok (a : α) (g : α → S → O) : O.of (R.ok a s) g = g a s := rfl
@[simp] theorem of_exc (nm : D) (g : α → S → O) : O.of (R.exc nm s : R α) g = .xc nm s := rfl
@[simp] theorem of_stuck (g : α → S → O) : O.of (R.stuck : R α) g = .stuck := rfl
@[simp] theorem tst_b (b : Bool) : tst (.ok (.dat (.bool b)) s) = .ok b s := rfl
@[simp] theorem tst_exc (nm : D) : tst (.exc nm s) = .exc nm s := rfl
@[simp] theorem toR_some (a : α) : toR (some a) s = .ok a s := rfl
@[simp] theorem toR_none : toR (none : Option α) s = .stuck := rfl
@[simp] theorem lift_some (b : Bool) : lift (some b) = some (.dat (.bool b)) := rfl
@[simp] theorem d_dat (d : D) : (Vl.dat d).d = d := rfl
@[simp] theorem d_fr (d : D) : (Vl.fr d).d = d := rfl
@[simp] theorem sl_dat (d : D) : (Vl.dat d).sl = .dat d := rfl
@[simp] theorem sl_fr (d : D) : (Vl.fr d).sl = .mu false d := rfl
@[simp] theorem opds_nil : opds f [] s = .ok [] s := rfl
@[simp] theorem opds_cons (e : E) (es : List E) : opds f (e :: es) s = (opd f e s).bind fun o s => (opds f es s).bind fun os s => .ok (o :: os) s := rfl
@[simp] theorem evs_nil : evs f [] s = .ok [] s := rfl
@[simp] theorem evs_cons (e : E) (es : List E) : evs f (e :: es) s = (f e s).bind fun v s => (evs f es s).bind fun ds s => .ok (v.d :: ds) s := rfl
@[simp] theorem vals_nil : vals f [] s = .ok [] s := rfl
@[simp] theorem vals_cons (e : E) (es : List E) : vals f (e :: es) s = (f e s).bind fun v s => (vals f es s).bind fun ds s => .ok (v :: ds) s := rfl
@[simp] theorem looks_nil : looks s [] = some [] := rfl
@[simp] theorem looks_cons (o : Op) (os : List Op) : looks s (o :: os) = (match o.look s, looks s os with
    | some d, some ds => some (d :: ds)
    | _, _ => none) := rfl
@[simp] theorem looksS_nil : looksS s [] = some [] := rfl
@[simp] theorem looksS_cons (o : Op) (os : List Op) : looksS s (o :: os) = (match o.lookS s, looksS s os with
    | some d, some ds => some (d :: ds)
    | _, _ => none) := rfl
@[simp] theorem args_nil : args s [] = some [] := rfl
@[simp] theorem args_cons (o : Op) (os : List Op) : args s (o :: os) = (match o.arg s, args s os with
    | some d, some ds => some (d :: ds)
    | _, _ => none) := rfl
@[simp] theorem look_vl (v : Vl) : (Op.vl v).look s = some v.d := rfl
@[simp] theorem look_sl (i : Nat) : (Op.sl i).look s = (match s[i]? with
    | some (.dat d) => some d
    | some (.mu _ d) => some d
    | _ => none) := rfl
@[simp] theorem lookS_vl (v : Vl) : (Op.vl v).lookS s = some v.d := rfl
@[simp] theorem lookS_sl (i : Nat) : (Op.sl i).lookS s = (match s[i]? with
    | some (.dat d) => some d
    | some (.mu _ d) => some d
    | some (.scr ns) => some (.list (ns.map .int))
    | _ => none) := rfl
@[simp] theorem arg_vl (v : Vl) : (Op.vl v).arg s = some v.sl := rfl
@[simp] theorem arg_sl (i : Nat) : (Op.sl i).arg s = (match s[i]? with
    | some (.dat d) => some (.dat d)
    | some (.mu _ d) => some (.mu true d)
    | some (.scr ns) => some (.scr ns)
    | _ => none) := rfl
@[simp] theorem lent_nil : lent s [] = [] := rfl
@[simp] theorem lent_vl (v : Vl) (os : List Op) : lent s (.vl v :: os) = lent s os := rfl
@[simp] theorem lent_sl (i : Nat) (os : List Op) : lent s (.sl i :: os) = (match s[i]? with
    | some (.mu _ _) => i :: lent s os
    | _ => lent s os) := rfl
@[simp] theorem back_nil (bs : List Sl) : back [] bs s = some s := by cases bs <;> rfl
@[simp] theorem back_vl (v : Vl) (os : List Op) (b : Sl) (bs : List Sl) : back (.vl v :: os) (b :: bs) s = back os bs s := rfl
@[simp] theorem back_sl (i : Nat) (os : List Op) (b : Sl) (bs : List Sl) : back (.sl i :: os) (b :: bs) s = (match s[i]?, b with
    | some (.mu k _), .mu true d => back os bs (s.set i (.mu k d))
    | some (.mu _ _), _ => none
    | _, _ => back os bs s) := rfl
@[simp] theorem withO_eq (es : List E) (g : List D → Option Vl) : withO f es s g = (opds f es s).bind fun os s => match looks s os with
    | some ds => toR (g ds) s
    | none => .stuck := rfl
@[simp] theorem withS_eq (es : List E) (g : List D → Option Vl) : withS f es s g = (opds f es s).bind fun os s => match looksS s os with
    | some ds => toR (g ds) s
    | none => .stuck := rfl
@[simp] theorem doCall_eq (i : Nat) (os : List Op) : doCall C i os s = (match args s os with
    | none => .stuck
    | some as => if (lent s os).Nodup then (match C i as with
      | .ok v bs => (match back os bs s with
        | some s' => .ok v s'
        | none => .stuck)
      | .exc nm bs => (match back os bs s with
        | some s' => .exc nm s'
        | none => .stuck)
      | .stuck => .stuck) else .stuck) := rfl
@[simp] theorem exs_nil (g : St → S → O) : exs g [] s = .nx s := rfl
@[simp] theorem exs_cons (g : St → S → O) (t : St) (ts : List St) : exs g (t :: ts) s = (match g t s with
    | .nx s => exs g ts s
    | o => o) := rfl
@[simp] theorem live_eq (i : Nat) : live s i = (match s[i]? with
  | some (.dat _) => true
  | some (.mu _ _) => true
  | some (.scr _) => true
  | _ => false) := rfl
@[simp] theorem free_eq (i : Nat) : free s i = (match s[i]? with
  | some (.mu true _) => false
  | some (.scr _) => false
  | some _ => true
  | none => false) := rfl
@[simp] theorem wipe_nil : wipe [] s = s := rfl
@[simp] theorem wipe_cons (i : Nat) (is : List Nat) : wipe (i :: is) s = wipe is (s.set i .un) := rfl
@[simp] theorem opd_ref (i : Nat) : opd f (.ref i) s = if live s i then .ok (.sl i) s else .stuck := rfl
@[simp] theorem opd_lit (d : D) : opd f (.lit d) s = (f (.lit d) s).bind fun v s => .ok (.vl v) s := rfl
@[simp] theorem opd_gint (i : Int) : opd f (.gint i) s = (f (.gint i) s).bind fun v s => .ok (.vl v) s := rfl
@[simp] theorem opd_var (i : Nat) : opd f (.var i) s = (f (.var i) s).bind fun v s => .ok (.vl v) s := rfl
@[simp] theorem opd_take (i : Nat) : opd f (.take i) s = (f (.take i) s).bind fun v s => .ok (.vl v) s := rfl
@[simp] theorem opd_tup (es : List E) : opd f (.tup es) s = (f (.tup es) s).bind fun v s => .ok (.vl v) s := rfl
@[simp] theorem opd_lst (es : List E) : opd f (.lst es) s = (f (.lst es) s).bind fun v s => .ok (.vl v) s := rfl
@[simp] theorem opd_bin (op : BOp) (a b : E) : opd f (.bin op a b) s = (f (.bin op a b) s).bind fun v s => .ok (.vl v) s := rfl
@[simp] theorem opd_neg (a : E) : opd f (.neg a) s = (f (.neg a) s).bind fun v s => .ok (.vl v) s := rfl
@[simp] theorem opd_not (a : E) : opd f (.not a) s = (f (.not a) s).bind fun v s => .ok (.vl v) s := rfl
@[simp] theorem opd_cmp (op : COp) (a b : E) : opd f (.cmp op a b) s = (f (.cmp op a b) s).bind fun v s => .ok (.vl v) s := rfl
@[simp] theorem opd_isN (a : E) : opd f (.isN a) s = (f (.isN a) s).bind fun v s => .ok (.vl v) s := rfl
@[simp] theorem opd_notN (a : E) : opd f (.notN a) s = (f (.notN a) s).bind fun v s => .ok (.vl v) s := rfl
@[simp] theorem opd_ch2 (o1 o2 : COp) (a b c : E) : opd f (.ch2 o1 o2 a b c) s = (f (.ch2 o1 o2 a b c) s).bind fun v s => .ok (.vl v) s := rfl
@[simp] theorem opd_ch3 (o1 o2 o3 : COp) (a b c d : E) : opd f (.ch3 o1 o2 o3 a b c d) s = (f (.ch3 o1 o2 o3 a b c d) s).bind fun v s => .ok (.vl v) s := rfl
@[simp] theorem opd_and (a b : E) : opd f (.and a b) s = (f (.and a b) s).bind fun v s => .ok (.vl v) s := rfl
@[simp] theorem opd_or (a b : E) : opd f (.or a b) s = (f (.or a b) s).bind fun v s => .ok (.vl v) s := rfl
@[simp] theorem opd_ife (t a b : E) : opd f (.ife t a b) s = (f (.ife t a b) s).bind fun v s => .ok (.vl v) s := rfl
@[simp] theorem opd_idx (a i : E) : opd f (.idx a i) s = (f (.idx a i) s).bind fun v s => .ok (.vl v) s := rfl
@[simp] theorem opd_slc (a : E) (lo hi : Option E) : opd f (.slc a lo hi) s = (f (.slc a lo hi) s).bind fun v s => .ok (.vl v) s := rfl
@[simp] theorem opd_rev (a : E) : opd f (.rev a) s = (f (.rev a) s).bind fun v s => .ok (.vl v) s := rfl
@[simp] theorem opd_call (g : Nat) (es : List E) (k : Nat) : opd f (.call g es k) s = (f (.call g es k) s).bind fun v s => .ok (.vl v) s := rfl
@[simp] theorem opd_prim (p : Pr) (es : List E) : opd f (.prim p es) s = (f (.prim p es) s).bind fun v s => .ok (.vl v) s := rfl
@[simp] theorem opd_isi (a : E) (t : Ty) : opd f (.isi a t) s = (f (.isi a t) s).bind fun v s => .ok (.vl v) s := rfl
@[simp] theorem opd_comp (tg : List Nat) (one : Bool) (it : E) (c : Option E) (e : E) (own : List Nat) : opd f (.comp tg one it c e own) s = (f (.comp tg one it c e own) s).bind fun v s => .ok (.vl v) s := rfl
@[simp] theorem opd_gen (al : Bool) (i : Nat) (it e : E) : opd f (.gen al i it e) s = (f (.gen al i it e) s).bind fun v s => .ok (.vl v) s := rfl
@[simp] theorem opd_refused (g : Nat) (e : E) : opd f (.refused g e) s = (f (.refused g e) s).bind fun v s => .ok (.vl v) s := rfl
@[simp] theorem opd_pop (i : Nat) : opd f (.pop i) s = (f (.pop i) s).bind fun v s => .ok (.vl v) s := rfl
@[simp] theorem opd_fz (a : E) : opd f (.fz a) s = (f (.fz a) s).bind fun v s => .ok (.vl v) s := rfl
@[simp] theorem opd_index (i : Nat) (x : E) : opd f (.index i x) s = (f (.index i x) s).bind fun v s => .ok (.vl v) s := rfl
@[simp] theorem opd_dct (t : Bool) (ks vs : List E) : opd f (.dct t ks vs) s = (f (.dct t ks vs) s).bind fun v s => .ok (.vl v) s := rfl
@[simp] theorem opd_din (neg : Bool) (k d : E) : opd f (.din neg k d) s = (f (.din neg k d) s).bind fun v s => .ok (.vl v) s := rfl
@[simp] theorem opd_didx (d k : E) : opd f (.didx d k) s = (f (.didx d k) s).bind fun v s => .ok (.vl v) s := rfl
@[simp] theorem opd_sortd (d : E) : opd f (.sortd d) s = (f (.sortd d) s).bind fun v s => .ok (.vl v) s := rfl
@[simp] theorem opd_get (d k x : E) : opd f (.get d k x) s = (f (.get d k x) s).bind fun v s => .ok (.vl v) s := rfl
@[simp] theorem opd_lrng (lo hi : E) : opd f (.lrng lo hi) s = (f (.lrng lo hi) s).bind fun v s => .ok (.vl v) s := rfl
@[simp] theorem iters_lit (d : D) : iters f (.lit d) s = (f (.lit d) s).bind fun v s => toR ((items v.d).map (·, none)) s := rfl
@[simp] theorem iters_gint (i : Int) : iters f (.gint i) s = (f (.gint i) s).bind fun v s => toR ((items v.d).map (·, none)) s := rfl
@[simp] theorem iters_var (i : Nat) : iters f (.var i) s = (f (.var i) s).bind fun v s => toR ((items v.d).map (·, none)) s := rfl
@[simp] theorem iters_take (i : Nat) : iters f (.take i) s = (f (.take i) s).bind fun v s => toR ((items v.d).map (·, none)) s := rfl
@[simp] theorem iters_tup (es : List E) : iters f (.tup es) s = (f (.tup es) s).bind fun v s => toR ((items v.d).map (·, none)) s := rfl
@[simp] theorem iters_lst (es : List E) : iters f (.lst es) s = (f (.lst es) s).bind fun v s => toR ((items v.d).map (·, none)) s := rfl
@[simp] theorem iters_bin (op : BOp) (a b : E) : iters f (.bin op a b) s = (f (.bin op a b) s).bind fun v s => toR ((items v.d).map (·, none)) s := rfl
@[simp] theorem iters_neg (a : E) : iters f (.neg a) s = (f (.neg a) s).bind fun v s => toR ((items v.d).map (·, none)) s := rfl
@[simp] theorem iters_not (a : E) : iters f (.not a) s = (f (.not a) s).bind fun v s => toR ((items v.d).map (·, none)) s := rfl
@[simp] theorem iters_cmp (op : COp) (a b : E) : iters f (.cmp op a b) s = (f (.cmp op a b) s).bind fun v s => toR ((items v.d).map (·, none)) s := rfl
@[simp] theorem iters_isN (a : E) : iters f (.isN a) s = (f (.isN a) s).bind fun v s => toR ((items v.d).map (·, none)) s := rfl
@[simp] theorem iters_notN (a : E) : iters f (.notN a) s = (f (.notN a) s).bind fun v s => toR ((items v.d).map (·, none)) s := rfl
@[simp] theorem iters_ch2 (o1 o2 : COp) (a b c : E) : iters f (.ch2 o1 o2 a b c) s = (f (.ch2 o1 o2 a b c) s).bind fun v s => toR ((items v.d).map (·, none)) s := rfl
@[simp] theorem iters_ch3 (o1 o2 o3 : COp) (a b c d : E) : iters f (.ch3 o1 o2 o3 a b c d) s = (f (.ch3 o1 o2 o3 a b c d) s).bind fun v s => toR ((items v.d).map (·, none)) s := rfl
@[simp] theorem iters_and (a b : E) : iters f (.and a b) s = (f (.and a b) s).bind fun v s => toR ((items v.d).map (·, none)) s := rfl
@[simp] theorem iters_or (a b : E) : iters f (.or a b) s = (f (.or a b) s).bind fun v s => toR ((items v.d).map (·, none)) s := rfl
@[simp] theorem iters_ife (t a b : E) : iters f (.ife t a b) s = (f (.ife t a b) s).bind fun v s => toR ((items v.d).map (·, none)) s := rfl
@[simp] theorem iters_idx (a i : E) : iters f (.idx a i) s = (f (.idx a i) s).bind fun v s => toR ((items v.d).map (·, none)) s := rfl
@[simp] theorem iters_slc (a : E) (lo hi : Option E) : iters f (.slc a lo hi) s = (f (.slc a lo hi) s).bind fun v s => toR ((items v.d).map (·, none)) s := rfl
@[simp] theorem iters_rev (a : E) : iters f (.rev a) s = (f (.rev a) s).bind fun v s => toR ((items v.d).map (·, none)) s := rfl
@[simp] theorem iters_call (g : Nat) (es : List E) (k : Nat) : iters f (.call g es k) s = (f (.call g es k) s).bind fun v s => toR ((items v.d).map (·, none)) s := rfl
@[simp] theorem iters_prim (p : Pr) (es : List E) : iters f (.prim p es) s = (f (.prim p es) s).bind fun v s => toR ((items v.d).map (·, none)) s := rfl
@[simp] theorem iters_isi (a : E) (t : Ty) : iters f (.isi a t) s = (f (.isi a t) s).bind fun v s => toR ((items v.d).map (·, none)) s := rfl
@[simp] theorem iters_comp (tg : List Nat) (one : Bool) (it : E) (c : Option E) (e : E) (own : List Nat) : iters f (.comp tg one it c e own) s = (f (.comp tg one it c e own) s).bind fun v s => toR ((items v.d).map (·, none)) s := rfl
@[simp] theorem iters_gen (al : Bool) (i : Nat) (it e : E) : iters f (.gen al i it e) s = (f (.gen al i it e) s).bind fun v s => toR ((items v.d).map (·, none)) s := rfl
@[simp] theorem iters_refused (g : Nat) (e : E) : iters f (.refused g e) s = (f (.refused g e) s).bind fun v s => toR ((items v.d).map (·, none)) s := rfl
@[simp] theorem iters_pop (i : Nat) : iters f (.pop i) s = (f (.pop i) s).bind fun v s => toR ((items v.d).map (·, none)) s := rfl
@[simp] theorem iters_fz (a : E) : iters f (.fz a) s = (f (.fz a) s).bind fun v s => toR ((items v.d).map (·, none)) s := rfl
@[simp] theorem iters_index (i : Nat) (x : E) : iters f (.index i x) s = (f (.index i x) s).bind fun v s => toR ((items v.d).map (·, none)) s := rfl
@[simp] theorem iters_dct (t : Bool) (ks vs : List E) : iters f (.dct t ks vs) s = (f (.dct t ks vs) s).bind fun v s => toR ((items v.d).map (·, none)) s := rfl
@[simp] theorem iters_din (neg : Bool) (k d : E) : iters f (.din neg k d) s = (f (.din neg k d) s).bind fun v s => toR ((items v.d).map (·, none)) s := rfl
@[simp] theorem iters_didx (d k : E) : iters f (.didx d k) s = (f (.didx d k) s).bind fun v s => toR ((items v.d).map (·, none)) s := rfl
@[simp] theorem iters_sortd (d : E) : iters f (.sortd d) s = (f (.sortd d) s).bind fun v s => toR ((items v.d).map (·, none)) s := rfl
@[simp] theorem iters_get (d k x : E) : iters f (.get d k x) s = (f (.get d k x) s).bind fun v s => toR ((items v.d).map (·, none)) s := rfl
@[simp] theorem iters_lrng (lo hi : E) : iters f (.lrng lo hi) s = (f (.lrng lo hi) s).bind fun v s => toR ((items v.d).map (·, none)) s := rfl
@[simp] theorem iters_rng1 (hi : E) : iters f (.rng1 hi) s = (f hi s).bind fun v s => (match v with
    | .dat (.int h) => toR ((rngD 0 h).map (·, none)) s
    | _ => .stuck) := rfl
@[simp] theorem iters_rng2 (lo hi : E) : iters f (.rng2 lo hi) s = (f lo s).bind fun v s => (f hi s).bind fun w s => (match v, w with
    | .dat (.int l), .dat (.int h) => toR ((rngD l h).map (·, none)) s
    | _, _ => .stuck) := rfl
@[simp] theorem iters_zip (a b : E) : iters f (.zip a b) s = (opds f [a, b] s).bind fun os s => (match looks s os with
    | some [.tuple xs, .tuple ys] => .ok ((xs.zip ys).map fun p => .tuple [p.1, p.2], none) s
    | some [.list xs, .list ys] => if os.all Op.isDat = true then .ok ((xs.zip ys).map fun p => .tuple [p.1, p.2], none) s else .stuck
    | _ => .stuck) := rfl
@[simp] theorem iters_ref (i : Nat) : iters f (.ref i) s = (match s[i]? with
    | some (.dat d) => toR ((items d).map (·, none)) s
    | some (.mu _ d) => toR ((items d).map (·, some i)) s
    | _ => .stuck) := rfl
@[simp] theorem items_list (xs : List D) : items (.list xs) = some xs := rfl
@[simp] theorem items_tuple (xs : List D) : items (.tuple xs) = some xs := rfl
@[simp] theorem ev_lit (d : D) : ev C (n + 1) (.lit d) s = (.ok (.dat d) s) := rfl
@[simp] theorem ev_gint (i : Int) : ev C (n + 1) (.gint i) s = (.ok (.dat (.int i)) s) := rfl
@[simp] theorem ev_var (i : Nat) : ev C (n + 1) (.var i) s = ((match s[i]? with
      | some (.dat d) => .ok (.dat d) s
      | some (.mu false d) => .ok (.dat d) (s.set i (.dat d))
      | _ => .stuck)) := rfl
@[simp] theorem ev_take (i : Nat) : ev C (n + 1) (.take i) s = ((match s[i]? with
      | some (.dat d) => .ok (.dat d) (s.set i .un)
      | some (.mu false d) => .ok (.fr d) (s.set i .un)
      | _ => .stuck)) := rfl
@[simp] theorem ev_fz (a : E) : ev C (n + 1) (.fz a) s = ((ev C n a s).bind fun v s => .ok (.dat v.d) s) := rfl
@[simp] theorem ev_tup (es : List E) : ev C (n + 1) (.tup es) s = ((evs (ev C n) es s).bind fun ds s => .ok (.dat (.tuple ds)) s) := rfl
@[simp] theorem ev_lst (es : List E) : ev C (n + 1) (.lst es) s = ((evs (ev C n) es s).bind fun ds s => .ok (.fr (.list ds)) s) := rfl
@[simp] theorem ev_dct (t : Bool) (ks : List E) (vs : List E) : ev C (n + 1) (.dct t ks vs) s = ((match ks, vs with
      | [], [] => .ok (.fr (mkD t [])) s
      | [k], [v] => if t = true then .stuck else (ev C n k s).bind fun a s => (ev C n v s).bind fun b s => (match a with
        | .dat (.int i) => .ok (.fr (mkD false [(.int i, b.d)])) s
        | _ => .stuck)
      | _, _ => .stuck)) := rfl
@[simp] theorem ev_din (neg : Bool) (k : E) (d : E) : ev C (n + 1) (.din neg k d) s = (withO (ev C n) [k, d] s fun
      | [x, y] => (dhas y x).map fun b => .dat (.bool (if neg = true then !b else b))
      | _ => none) := rfl
@[simp] theorem ev_didx (d : E) (k : E) : ev C (n + 1) (.didx d k) s = (withO (ev C n) [d, k] s fun
      | [x, y] => (dat? x y).map Vl.dat
      | _ => none) := rfl
@[simp] theorem ev_sortd (d : E) : ev C (n + 1) (.sortd d) s = (withO (ev C n) [d] s fun
      | [x] => (dsort x).map fun ks => .fr (.list ks)
      | _ => none) := rfl
@[simp] theorem ev_bin (op : BOp) (a : E) (b : E) : ev C (n + 1) (.bin op a b) s = (withO (ev C n) [a, b] s fun
      | [x, y] => binop op x y
      | _ => none) := rfl
@[simp] theorem ev_neg (a : E) : ev C (n + 1) (.neg a) s = (withO (ev C n) [a] s fun
      | [.int i] => some (.dat (.int (-i)))
      | _ => none) := rfl
@[simp] theorem ev_not (a : E) : ev C (n + 1) (.not a) s = ((tst (ev C n a s)).bind fun b s => .ok (.dat (.bool !b)) s) := rfl
@[simp] theorem ev_cmp (op : COp) (a : E) (b : E) : ev C (n + 1) (.cmp op a b) s = (withO (ev C n) [a, b] s fun
      | [x, y] => lift (cmpD op x y)
      | _ => none) := rfl
@[simp] theorem ev_isN (a : E) : ev C (n + 1) (.isN a) s = (withO (ev C n) [a] s fun
      | [.none] => some (.dat (.bool true))
      | [_] => some (.dat (.bool false))
      | _ => none) := rfl
@[simp] theorem ev_notN (a : E) : ev C (n + 1) (.notN a) s = (withO (ev C n) [a] s fun
      | [.none] => some (.dat (.bool false))
      | [_] => some (.dat (.bool true))
      | _ => none) := rfl
@[simp] theorem ev_ch2 (o1 : COp) (o2 : COp) (a : E) (b : E) (c : E) : ev C (n + 1) (.ch2 o1 o2 a b c) s = ((ev C n a s).bind fun x s => (ev C n b s).bind fun y s => (match cmpD o1 x.d y.d with
      | some true => (ev C n c s).bind fun z s => toR (lift (cmpD o2 y.d z.d)) s
      | some false => .ok (.dat (.bool false)) s
      | none => .stuck)) := rfl
@[simp] theorem ev_ch3 (o1 : COp) (o2 : COp) (o3 : COp) (a : E) (b : E) (c : E) (d : E) : ev C (n + 1) (.ch3 o1 o2 o3 a b c d) s = ((ev C n a s).bind fun x s => (ev C n b s).bind fun y s => (match cmpD o1 x.d y.d with
      | some true => (ev C n c s).bind fun z s => (match cmpD o2 y.d z.d with
        | some true => (ev C n d s).bind fun u s => toR (lift (cmpD o3 z.d u.d)) s
        | some false => .ok (.dat (.bool false)) s
        | none => .stuck)
      | some false => .ok (.dat (.bool false)) s
      | none => .stuck)) := rfl
@[simp] theorem ev_and (a : E) (b : E) : ev C (n + 1) (.and a b) s = ((tst (ev C n a s)).bind fun k s => (match k with
      | true => (tst (ev C n b s)).bind fun k s => .ok (.dat (.bool k)) s
      | false => .ok (.dat (.bool false)) s)) := rfl
@[simp] theorem ev_or (a : E) (b : E) : ev C (n + 1) (.or a b) s = ((tst (ev C n a s)).bind fun k s => (match k with
      | true => .ok (.dat (.bool true)) s
      | false => (tst (ev C n b s)).bind fun k s => .ok (.dat (.bool k)) s)) := rfl
@[simp] theorem ev_ife (t : E) (a : E) (b : E) : ev C (n + 1) (.ife t a b) s = ((tst (ev C n t s)).bind fun k s => (match k with
      | true => ev C n a s
      | false => ev C n b s)) := rfl
@[simp] theorem ev_idx (a : E) (i : E) : ev C (n + 1) (.idx a i) s = (withS (ev C n) [a, i] s fun
      | [x, y] => (idxD x y).map Vl.dat
      | _ => none) := rfl
@[simp] theorem ev_slc (a : E) (lo : Option E) (hi : Option E) : ev C (n + 1) (.slc a lo hi) s = ((opds (ev C n) [a] s).bind fun os s =>
      (match lo with
        | none => R.ok none s
        | some e => (ev C n e s).bind fun v s => (match v with
          | .dat (.int i) => .ok (some i) s
          | _ => .stuck)).bind fun l s =>
      (match hi with
        | none => R.ok none s
        | some e => (ev C n e s).bind fun v s => (match v with
          | .dat (.int i) => .ok (some i) s
          | _ => .stuck)).bind fun h s => (match looksS s os with
        | some [d] => toR (slcD d l h) s
        | _ => .stuck)) := rfl
@[simp] theorem ev_rev (a : E) : ev C (n + 1) (.rev a) s = (withO (ev C n) [a] s fun
      | [.list xs] => some (.fr (.list xs.reverse))
      | _ => none) := rfl
@[simp] theorem ev_call (f : Nat) (es : List E) (u2 : Nat) : ev C (n + 1) (.call f es u2) s = ((opds (ev C n) es s).bind fun os s => doCall C f os s) := rfl
@[simp] theorem ev_prim_len (es : List E) : ev C (n + 1) (.prim .len es) s = (withS (ev C n) es s (prim .len)) := rfl
@[simp] theorem ev_isi (a : E) (t : Ty) : ev C (n + 1) (.isi a t) s = (withO (ev C n) [a] s fun
      | [x] => some (.dat (.bool (isTy t x)))
      | _ => none) := rfl
theorem ev_comp (tg : List Nat) (one : Bool) (it : E) (c : Option E) (e : E) (own : List Nat) : ev C (n + 1) (.comp tg one it c e own) s = ((iters (ev C n) it s).bind fun xs s => compR tg one (fun s => match c with
        | none => .ok true s
        | some c => tst (ev C n c s)) (fun s => (ev C n e s).bind fun v s => .ok v.d s) own xs s) := rfl
theorem ev_gen (al : Bool) (i : Nat) (it : E) (e : E) : ev C (n + 1) (.gen al i it e) s = ((iters (ev C n) it s).bind fun xs s => (match xs.2 with
      | some _ => .stuck
      | none => (genL al i (fun s => tst (ev C n e s)) xs.1 s).bind fun b s' => .ok (.dat (.bool b)) (s'.set i (s.getD i .un)))) := rfl
@[simp] theorem ev_refused (u0 : Nat) (e : E) : ev C (n + 1) (.refused u0 e) s = ((match ev C n e s with
      | .ok _ s => .ok (.dat (.str ⟨#[]⟩)) s
      | .exc nm s => .ok (.dat nm) s
      | .stuck => .stuck)) := rfl
@[simp] theorem ev_pop (i : Nat) : ev C (n + 1) (.pop i) s = ((match s[i]? with
      | some (.mu k (.list xs)) => (match xs.getLast? with
        | some x => .ok (.dat x) (s.set i (.mu k (.list xs.dropLast)))
        | none => .stuck)
      | _ => .stuck)) := rfl
@[simp] theorem ev_get (d : E) (k : E) (x : E) : ev C (n + 1) (.get d k x) s = (withO (ev C n) [d, k, x] s fun
      | [y, z, u] => (dget y z u).map Vl.dat
      | _ => none) := rfl
@[simp] theorem ev_lrng (lo : E) (hi : E) : ev C (n + 1) (.lrng lo hi) s = ((ev C n lo s).bind fun v s => (ev C n hi s).bind fun w s => (match v, w with
      | .dat (.int l), .dat (.int h) => toR ((rngD l h).map fun ds => .fr (.list ds)) s
      | _, _ => .stuck)) := rfl
@[simp] theorem ev_index (i : Nat) (x : E) : ev C (n + 1) (.index i x) s = ((match s[i]? with
      | some (.dat (.list xs)) => (ev C n x s).bind fun v s => toR (findD xs v.d) s
      | some (.dat (.dict [(.none, .tuple xs)])) => (ev C n x s).bind fun v s => toR (findD xs v.d) s
      | _ => .stuck)) := rfl
@[simp] theorem ev_prim_abs (es : List E) : ev C (n + 1) (.prim .abs es) s = withO (ev C n) es s (prim .abs) := rfl
@[simp] theorem ev_prim_int (es : List E) : ev C (n + 1) (.prim .int es) s = withO (ev C n) es s (prim .int) := rfl
@[simp] theorem ev_prim_max2 (es : List E) : ev C (n + 1) (.prim .max2 es) s = withO (ev C n) es s (prim .max2) := rfl
@[simp] theorem ev_prim_min2 (es : List E) : ev C (n + 1) (.prim .min2 es) s = withO (ev C n) es s (prim .min2) := rfl
@[simp] theorem ev_prim_max1 (es : List E) : ev C (n + 1) (.prim .max1 es) s = withO (ev C n) es s (prim .max1) := rfl
@[simp] theorem ev_prim_min1 (es : List E) : ev C (n + 1) (.prim .min1 es) s = withO (ev C n) es s (prim .min1) := rfl
@[simp] theorem ev_prim_sorted (es : List E) : ev C (n + 1) (.prim .sorted es) s = withO (ev C n) es s (prim .sorted) := rfl
@[simp] theorem ev_prim_tuple (es : List E) : ev C (n + 1) (.prim .tuple es) s = withO (ev C n) es s (prim .tuple) := rfl
@[simp] theorem ev_prim_list (es : List E) : ev C (n + 1) (.prim .list es) s = withO (ev C n) es s (prim .list) := rfl
@[simp] theorem ev_prim_any (es : List E) : ev C (n + 1) (.prim .any es) s = withO (ev C n) es s (prim .any) := rfl
@[simp] theorem ev_prim_all (es : List E) : ev C (n + 1) (.prim .all es) s = withO (ev C n) es s (prim .all) := rfl
@[simp] theorem ev_prim_lenset (es : List E) : ev C (n + 1) (.prim .lenset es) s = withO (ev C n) es s (prim .lenset) := rfl
@[simp] theorem ev_prim_tagT (es : List E) : ev C (n + 1) (.prim .tagT es) s = withO (ev C n) es s (prim .tagT) := rfl
@[simp] theorem ex_set (i : Nat) (e : E) : ex C (n + 1) (.set i e) s = (O.of (ev C n e s) fun v s => if free s i then .nx (s.set i v.sl) else .stuck) := rfl
@[simp] theorem ex_par (is : List Nat) (es : List E) : ex C (n + 1) (.par is es) s = (O.of (vals (ev C n) es s) fun vs s => toO (setAll is vs s)) := rfl
@[simp] theorem ex_unp (is : List Nat) (e : E) : ex C (n + 1) (.unp is e) s = (O.of (ev C n e s) fun v s => (match v with
      | .dat (.tuple ds) => toO (setAll is (ds.map Vl.dat) s)
      | _ => .stuck)) := rfl
@[simp] theorem ex_put (i : Nat) (k e : E) : ex C (n + 1) (.put i k e) s = (if isMuL s i then O.of (ev C n e s) fun v s => O.of (ev C n k s) fun w s => (match s[i]? with
      | some (.mu b (.list xs)) => (match w.d with
        | .int j => if 0 ≤ j ∧ j < xs.length then .nx (s.set i (.mu b (.list (xs.set j.toNat v.d)))) else .stuck
        | _ => .stuck)
      | _ => .stuck) else .stuck) := rfl
@[simp] theorem ex_dput (i : Nat) (k e : E) : ex C (n + 1) (.dput i k e) s = (if isMuD s i then O.of (ev C n e s) fun v s => O.of (ev C n k s) fun w s => (match s[i]? with
      | some (.mu b d) => (match dput d w.d v.d with
        | some d' => .nx (s.set i (.mu b d'))
        | none => .stuck)
      | _ => .stuck) else .stuck) := rfl
@[simp] theorem ex_app (i : Nat) (e : E) : ex C (n + 1) (.app i e) s = (if isMuL s i then O.of (ev C n e s) fun v s => (match s[i]? with
      | some (.mu b (.list xs)) => if xs.length < lim then .nx (s.set i (.mu b (.list (xs ++ [v.d])))) else .stuck
      | _ => .stuck) else .stuck) := rfl
@[simp] theorem ex_ext (i : Nat) (e : E) : ex C (n + 1) (.ext i e) s = (if isMuL s i then O.of (opds (ev C n) [e] s) fun os s => (match s[i]?, looks s os with
      | some (.mu b (.list xs)), some [.list ys] => if xs.length + ys.length ≤ lim then .nx (s.set i (.mu b (.list (xs ++ ys)))) else .stuck
      | _, _ => .stuck) else .stuck) := rfl
@[simp] theorem ex_aug (i : Nat) (e : E) : ex C (n + 1) (.aug i e) s = ((match s[i]? with
      | some (.dat (.int a)) => O.of (ev C n e s) fun v s => (match v with
        | .dat (.int b) => .nx (s.set i (.dat (.int (a + b))))
        | _ => .stuck)
      | _ => .stuck)) := rfl
@[simp] theorem ex_eff (e : E) : ex C (n + 1) (.eff e) s = (O.of (ev C n e s) fun _ s => .nx s) := rfl
@[simp] theorem ex_iff (c : E) (a b : List St) : ex C (n + 1) (.iff c a b) s = (O.of (tst (ev C n c s)) fun k s => (match k with
      | true => exs (ex C n) a s
      | false => exs (ex C n) b s)) := rfl
theorem ex_for (tg : List Nat) (one : Bool) (it : E) (b : List St) : ex C (n + 1) (.for tg one it b) s = (O.of (iters (ev C n) it s) fun xs s => (match xs.2 with
      | some _ => .stuck
      | none => forL (fun x s => if tg.all (free s) then (match bind tg one x s with
        | some s => exs (ex C n) b s
        | none => .stuck) else .stuck) xs.1 s)) := rfl
theorem ex_whl (c : E) (b : List St) : ex C (n + 1) (.whl c b) s = (whlL (fun s => tst (ev C n c s)) (exs (ex C n) b) turns s) := rfl
@[simp] theorem ex_retN : ex C (n + 1) (.ret none) s = (.rt (.dat .none) s) := rfl
@[simp] theorem ex_ret (e : E) : ex C (n + 1) (.ret (some e)) s = (O.of (ev C n e s) .rt) := rfl
@[simp] theorem ex_raise (e : E) : ex C (n + 1) (.raise e) s = (O.of (ev C n e s) fun v s => (match v with
      | .dat (.str x) => if x.length ≤ 1000 then .xc (.str x) s else .stuck
      | _ => .stuck)) := rfl
@[simp] theorem ex_brk : ex C (n + 1) .brk s = .bk s := rfl
@[simp] theorem ex_kill (is : List Nat) : ex C (n + 1) (.kill is) s = (if is.all (free s) then .nx (wipe is s) else .stuck) := rfl
end
theorem call_at {tbl : List Fn} {i : Nat} {fn : Fn} (h : tbl[i]? = some fn) (n : Nat) (as : List Sl) (hl : as.length = fn.np) : ∃ d, call tbl (n + 1) i as = (match exs (ex (call tbl n) (d + 30)) fn.body (as ++ List.replicate (fn.ns - fn.np) .un) with
      | .nx s => .ok (.dat .none) (s.take fn.np)
      | .rt v s => .ok v (s.take fn.np)
      | .xc nm s => .exc nm (s.take fn.np)
      | _ => .stuck) := by
  refine ⟨10, ?_⟩
  unfold call
  rw [h]
  dsimp only
  rw [if_pos hl]
  rfl
end Fs
set_option linter.all false
set_option maxRecDepth 10000
namespace Fs
open PySem
/-! ### loops that only look -/
theorem ext_at {s t : S} (h : ∀ j : Nat, s[j]? = t[j]?) : s = t := List.ext_getElem? h
theorem unwipe_back {I : List Nat} {s s' : S} (h : ∀ j : Nat, j ∉ I → s'[j]? = s[j]?) (hl : s'.length = s.length) : unwipe I s s' = s := by
  refine ext_at fun j => ?_
  rw [unwipe_at]
  by_cases hj : j ∈ I
  · rw [if_pos hj]
    by_cases hlt : j < s.length
    · rw [List.getElem?_eq_getElem hlt, List.getElem?_eq_getElem (by omega)]
      simp [List.getD_eq_getElem?_getD, hlt]
    · rw [List.getElem?_eq_none (by omega), List.getElem?_eq_none (by omega)]; rfl
  · rw [if_neg hj, h j hj]
section
variable {α : Type}
/-- one item: the frame, but for the block's own slots, stays W -/
structure Item (tg : List Nat) (one : Bool) (c : S → R Bool) (e : S → R D) (own : List Nat) (W : S) (x : D) (p : Bool) (g : D) : Prop where
  ex : ∃ s1 s2, bind tg one x W = some s1 ∧ c s1 = .ok p s2 ∧ wipe own s2 = W ∧ (p = true → ∃ s3, e s2 = .ok g s3 ∧ wipe own s3 = W)
theorem Item.of {tg : List Nat} {one : Bool} {c : S → R Bool} {e : S → R D} {own : List Nat} {W : S} {x : D} {p : Bool} {g : D} (s1 : S) (h1 : bind tg one x W = some s1) (h2 : c s1 = .ok p s1) (h3 : p = true → e s1 = .ok g s1) (h4 : wipe own s1 = W) : Item tg one c e own W x p g :=
  ⟨s1, s1, h1, h2, h4, fun z => ⟨s1, h3 z, h4⟩⟩
theorem compL_pure {tg : List Nat} {one : Bool} {c : S → R Bool} {e : S → R D} {own : List Nat} {W : S} {enc : α → D} {p : α → Bool} {g : α → D} : ∀ {as : List α} {s : S}, (∀ a ∈ as, Item tg one c e own W (enc a) (p a) (g a)) → wipe own s = W →
    ∃ s', compL tg one c e own (as.map enc) s = .ok ((as.filter p).map g) s' ∧ wipe own s' = W
  | [], s, _, hs => ⟨s, rfl, hs⟩
  | a :: as, s, h, hs => by
    obtain ⟨s1, s2, h1, h2, h3, h4⟩ := (h a List.mem_cons_self).ex
    have ht : ∀ b ∈ as, Item tg one c e own W (enc b) (p b) (g b) := fun b hb => h b (List.mem_cons_of_mem _ hb)
    rw [List.map_cons]
    unfold compL
    rw [hs, h1]
    dsimp only
    rw [h2]
    cases hp : p a with
    | true =>
      obtain ⟨s3, h5, h6⟩ := h4 hp
      obtain ⟨s', h7, h8⟩ := compL_pure (as := as) ht h6
      dsimp only
      rw [h5]
      dsimp only
      rw [h7]
      exact ⟨s', by rw [List.filter_cons_of_pos hp]; rfl, h8⟩
    | false =>
      obtain ⟨s', h7, h8⟩ := compL_pure (as := as) ht h3
      dsimp only
      rw [h7]
      exact ⟨s', by rw [List.filter_cons_of_neg (by simp [hp])], h8⟩
theorem wipe_wipe {I J : List Nat} (h : ∀ i ∈ I, i ∈ J) (s : S) : wipe I (wipe J s) = wipe J s := by
  refine ext_at fun j => ?_
  rw [wipe_at]
  by_cases hj : j ∈ I
  · rw [if_pos hj, wipe_at, if_pos (h j hj)]
    cases s[j]? <;> rfl
  · rw [if_neg hj]
theorem comp_pure {tg : List Nat} {one : Bool} {c : S → R Bool} {e : S → R D} {own : List Nat} {sh : Option Nat} {s : S} (enc : α → D) (p : α → Bool) (g : α → D) (as : List α) (hl : as.length ≤ lim)
    (h : ∀ a ∈ as, Item tg one c e own (wipe (own ++ shutI sh) s) (enc a) (p a) (g a)) : compR tg one c e own (as.map enc, sh) s = .ok (.fr (.list ((as.filter p).map g))) s := by
  obtain ⟨s', h1, h2⟩ := compL_pure h (wipe_wipe (fun i hi => List.mem_append_left _ hi) s)
  unfold compR
  rw [if_pos (by simpa using hl)]
  rw [h1]
  show R.ok _ _ = R.ok _ _
  congr 1
  have hlen : s'.length = s.length := by rw [← wipe_len own s', h2, wipe_len]
  refine unwipe_back (fun j hj => ?_) hlen
  have : (wipe own s')[j]? = (wipe (own ++ shutI sh) s)[j]? := by rw [h2]
  rw [wipe_at, if_neg (fun z => hj (List.mem_append_left _ z)), wipe_at, if_neg hj] at this
  exact this
/-- all, any: one look -/
theorem genL_pure {al : Bool} {i : Nat} {e : S → R Bool} {W : S} {enc : α → D} {p : α → Bool} : ∀ {as : List α} {s : S}, (∀ a ∈ as, ∃ s2, e (W.set i (.dat (enc a))) = .ok (p a) s2 ∧ s2.set i .un = W) → s.set i .un = W →
    ∃ s', genL al i e (as.map enc) s = .ok (if al = true then as.all p else as.any p) s' ∧ s'.set i .un = W
  | [], s, _, hs => ⟨s, by cases al <;> rfl, hs⟩
  | a :: as, s, h, hs => by
    obtain ⟨s2, h1, h2⟩ := h a List.mem_cons_self
    obtain ⟨s', h3, h4⟩ := genL_pure (al := al) (as := as) (fun b hb => h b (List.mem_cons_of_mem _ hb)) h2
    rw [List.map_cons]
    unfold genL
    have e1 : s.set i (.dat (enc a)) = W.set i (.dat (enc a)) := by rw [← hs, List.set_set]
    rw [e1, h1]
    dsimp only
    cases al <;> cases hp : p a
    · rw [if_pos (by rfl), h3]; exact ⟨s', by simp [hp], h4⟩
    · rw [if_neg (by decide)]; exact ⟨s2, by simp [hp], h2⟩
    · rw [if_neg (by decide)]; exact ⟨s2, by simp [hp], h2⟩
    · rw [if_pos (by rfl), h3]; exact ⟨s', by simp [hp], h4⟩
theorem gen_pure {al : Bool} {i : Nat} {e : S → R Bool} {s : S} (enc : α → D) (p : α → Bool) (as : List α) (hi : i < s.length) (h : ∀ a ∈ as, ∃ s2 : S, e (s.set i (Sl.dat (enc a))) = R.ok (p a) s2 ∧ s2.set i Sl.un = s.set i Sl.un) :
    (genL al i e (as.map enc) s).bind (fun b s' => R.ok (Vl.dat (.bool b)) (s'.set i (s.getD i Sl.un))) = R.ok (Vl.dat (.bool (if al = true then as.all p else as.any p))) s := by
  obtain ⟨s', h1, h2⟩ := genL_pure (al := al) (W := s.set i .un) (as := as) (fun a ha => by
    obtain ⟨s2, h3, h4⟩ := h a ha
    exact ⟨s2, by rw [List.set_set]; exact h3, h4⟩) rfl
  rw [h1, bind_ok]
  congr 1
  have : s'.set i (s.getD i .un) = (s'.set i .un).set i (s.getD i .un) := by rw [List.set_set]
  rw [this, h2, List.set_set]
  refine ext_at fun j => ?_
  by_cases hj : i = j
  · subst hj
    rw [List.getElem?_set_self hi, List.getElem?_eq_getElem hi]
    simp [List.getD_eq_getElem?_getD, hi]
  · rw [List.getElem?_set_ne hj]
variable {C : CT} {n : Nat} {s : S}
theorem ev_gen_pure {al : Bool} {i : Nat} {it e : E} (enc : α → D) (p : α → Bool) (as : List α) (hit : iters (ev C n) it s = .ok (as.map enc, none) s) (hi : i < s.length) (h : ∀ a ∈ as, ∃ s2 : S, tst (ev C n e (s.set i (Sl.dat (enc a)))) = R.ok (p a) s2 ∧ s2.set i Sl.un = s.set i Sl.un) :
    ev C (n + 1) (.gen al i it e) s = .ok (.dat (.bool (if al = true then as.all p else as.any p))) s := by
  rw [ev_gen, hit, bind_ok]
  exact gen_pure enc p as hi h
theorem ev_comp_pure {tg own : List Nat} {one : Bool} {it e : E} {c : Option E} {sh : Option Nat} (enc : α → D) (p : α → Bool) (g : α → D) (as : List α) (hit : iters (ev C n) it s = .ok (as.map enc, sh) s) (hl : as.length ≤ lim)
    (h : ∀ a ∈ as, Item tg one (fun s => match c with
        | none => .ok true s
        | some c => tst (ev C n c s)) (fun s => (ev C n e s).bind fun v s => .ok v.d s) own (wipe (own ++ shutI sh) s) (enc a) (p a) (g a)) :
    ev C (n + 1) (.comp tg one it c e own) s = .ok (.fr (.list ((as.filter p).map g))) s := by
  rw [ev_comp, hit, bind_ok]
  exact comp_pure enc p g as hl h
@[simp] theorem genL_nil (al : Bool) (i : Nat) (e : S → R Bool) (s : S) : genL al i e [] s = .ok al s := rfl
@[simp] theorem genL_cons (al : Bool) (i : Nat) (e : S → R Bool) (x : D) (xs : List D) (s : S) : genL al i e (x :: xs) s = (match e (s.set i (.dat x)) with
    | .ok b s2 => if b == al then genL al i e xs s2 else .ok b s2
    | _ => .stuck) := rfl
theorem run {tbl : List Fn} {i : Nat} {fn : Fn} {as : List Sl} {r : CR} (h : tbl[i]? = some fn) (hl : as.length = fn.np) (k : ∀ d, (match exs (ex (call tbl n) (d + 30)) fn.body (as ++ List.replicate (fn.ns - fn.np) .un) with
      | .nx s => CR.ok (.dat .none) (s.take fn.np)
      | .rt v s => .ok v (s.take fn.np)
      | .xc nm s => .exc nm (s.take fn.np)
      | _ => .stuck) = r) : call tbl (n + 1) i as = r := by
  obtain ⟨d, e⟩ := call_at h n as hl
  rw [e]; exact k d
end
end Fs
set_option linter.all false
set_option maxRecDepth 10000
namespace Fs
open PySem
theorem ev_comp_pure2 {α : Type} {C : CT} {n : Nat} {s s' : S} {tg own : List Nat} {one : Bool} {it e : E} {c : Option E} {sh : Option Nat} (enc : α → D) (p : α → Bool) (g : α → D) (as : List α) (hit : iters (ev C n) it s = .ok (as.map enc, sh) s') (hl : as.length ≤ lim)
    (h : ∀ a ∈ as, Item tg one (fun s => match c with
        | none => .ok true s
        | some c => tst (ev C n c s)) (fun s => (ev C n e s).bind fun v s => .ok v.d s) own (wipe (own ++ shutI sh) s') (enc a) (p a) (g a)) :
    ev C (n + 1) (.comp tg one it c e own) s = .ok (.fr (.list ((as.filter p).map g))) s' := by
  rw [ev_comp, hit, bind_ok]
  exact comp_pure enc p g as hl h
/-! ### for, while -/
theorem forL_fold {α β : Type} {f : D → S → O} (enc : α → D) (St : β → S) (g : β → α → β) : ∀ (as : List α) (r : β), (∀ a ∈ as, ∀ r, f (enc a) (St r) = .nx (St (g r a))) → forL f (as.map enc) (St r) = .nx (St (as.foldl g r))
  | [], r, _ => rfl
  | a :: as, r, h => by
    rw [List.map_cons]
    unfold forL
    rw [h a List.mem_cons_self r]
    exact forL_fold enc St g as (g r a) fun b hb => h b (List.mem_cons_of_mem _ hb)
/-- .. with an invariant -/
theorem forL_inv {α β : Type} {f : D → S → O} (enc : α → D) (St : β → S) (P : β → Prop) (g : β → α → β) : ∀ (as : List α) (r : β), P r → (∀ a ∈ as, ∀ r, P r → f (enc a) (St r) = .nx (St (g r a)) ∧ P (g r a)) → forL f (as.map enc) (St r) = .nx (St (as.foldl g r)) ∧ P (as.foldl g r)
  | [], r, hr, _ => ⟨rfl, hr⟩
  | a :: as, r, hr, h => by
    rw [List.map_cons]
    unfold forL
    obtain ⟨h1, h2⟩ := h a List.mem_cons_self r hr
    rw [h1]
    exact forL_inv enc St P g as (g r a) h2 fun b hb => h b (List.mem_cons_of_mem _ hb)
theorem whlL_run {c : S → R Bool} {f : S → O} (I : Nat → S) : ∀ (k j m : Nat), (∀ i, j ≤ i → i < j + k → c (I i) = .ok true (I i) ∧ f (I i) = .nx (I (i + 1))) → c (I (j + k)) = .ok false (I (j + k)) → k < m → whlL c f m (I j) = .nx (I (j + k))
  | 0, j, m, h, hc, hm => by
    cases m with
    | zero => omega
    | succ m =>
      unfold whlL
      rw [show I j = I (j + 0) from rfl, hc]
      rfl
  | k + 1, j, m, h, hc, hm => by
    cases m with
    | zero => omega
    | succ m =>
      obtain ⟨h1, h2⟩ := h j (Nat.le_refl _) (by omega)
      unfold whlL
      rw [h1, of_ok]
      dsimp only
      rw [h2]
      dsimp only
      have := whlL_run I k (j + 1) m (fun i a b => h i (by omega) (by omega)) (by rw [show j + 1 + k = j + (k + 1) by omega]; exact hc) (by omega)
      rw [this, show j + 1 + k = j + (k + 1) by omega]
/-- a loop that may go this way or that -/
theorem forL_rel {α : Type} {f : D → S → O} (enc : α → D) (P : Nat → S → Prop) : ∀ (as : List α) (i : Nat) (s : S), P i s → (∀ (j : Nat) (a : α) (s : S), as[j]? = some a → P (i + j) s → ∃ s' : S, f (enc a) s = .nx s' ∧ P (i + j + 1) s') → ∃ s' : S, forL f (as.map enc) s = .nx s' ∧ P (i + as.length) s'
  | [], i, s, h, _ => ⟨s, rfl, h⟩
  | a :: as, i, s, h, k => by
    obtain ⟨s1, h1, h2⟩ := k 0 a s rfl h
    obtain ⟨s2, h3, h4⟩ := forL_rel enc P as (i + 1) s1 h2 fun j b s e hp => by
      have := k (j + 1) b s (by simpa using e) (by rw [show i + (j + 1) = i + 1 + j by omega]; exact hp)
      rw [show i + (j + 1) + 1 = i + 1 + j + 1 by omega] at this
      exact this
    refine ⟨s2, ?_, by rw [List.length_cons, show i + (as.length + 1) = i + 1 + as.length by omega]; exact h4⟩
    rw [List.map_cons]
    unfold forL
    rw [h1]; exact h3
theorem ex_for_run {C : CT} {n : Nat} {tg : List Nat} {one : Bool} {it : E} {b : List St} {s s' : S} {xs : List D} {o : O} (hit : iters (ev C n) it s = .ok (xs, none) s') (hf : forL (fun x s => if tg.all (free s) then (match bind tg one x s with
        | some s => exs (ex C n) b s
        | none => .stuck) else .stuck) xs s' = o) : ex C (n + 1) (.for tg one it b) s = o := by
  rw [ex_for, hit]; exact hf
end Fs
set_option autoImplicit false
set_option linter.all false
set_option maxRecDepth 10000
namespace Ir
open PySem Fs

/-- is_integer: value=0 -/
def f_is_integer : Fn := ⟨1, 1, [
  .ret (some (.and (.isi (.ref 0) .int) (.not (.isi (.ref 0) .bool))))]⟩

/-- need_integer: value=0 name=1 least=2 most=3 -/
def f_need_integer : Fn := ⟨4, 4, [
  .iff (.or (.not (.call 0 [.ref 0] 0)) (.or (.cmp .lt (.ref 0) (.ref 2)) (.cmp .gt (.ref 0) (.ref 3)))) [
    .raise (.var 1)] []]⟩

/-- is_hill: value=0 one=1 -/
def f_is_hill : Fn := ⟨1, 2, [
  .iff (.or (.not (.isi (.ref 0) .tup)) (.or (.cmp .ne (.prim .len [.ref 0]) (.lit (.int 3))) (.not (.gen true 1 (.ref 0) (.call 0 [.var 1] 0))))) [
    .ret (some (.lit (.bool false)))] [],
  .ret (some (.and (.gen true 1 (.slc (.ref 0) none (some (.lit (.int 2)))) (.cmp .le (.prim .abs [.var 1]) (.gint 1000))) (.ch2 .le .le (.lit (.int 0)) (.idx (.ref 0) (.lit (.int 2))) (.gint 1000))))]⟩

/-- are_hills: value=0 one=1 -/
def f_are_hills : Fn := ⟨1, 2, [
  .iff (.or (.not (.isi (.ref 0) .tup)) (.or (.not (.ch2 .le .le (.lit (.int 1)) (.prim .len [.ref 0]) (.gint 9))) (.not (.gen true 1 (.ref 0) (.call 2 [.var 1] 0))))) [
    .ret (some (.lit (.bool false)))] [],
  .ret (some (.cmp .eq (.prim .lenset [.comp [1] true (.ref 0) none (.slc (.var 1) none (some (.lit (.int 2)))) [1]]) (.prim .len [.ref 0])))]⟩

/-- is_ridge: value=0 one=1 -/
def f_is_ridge : Fn := ⟨1, 2, [
  .iff (.or (.not (.isi (.ref 0) .tup)) (.or (.cmp .ne (.prim .len [.ref 0]) (.lit (.int 5))) (.not (.gen true 1 (.ref 0) (.call 0 [.var 1] 0))))) [
    .ret (some (.lit (.bool false)))] [],
  .ret (some (.and (.gen true 1 (.slc (.ref 0) none (some (.lit (.int 4)))) (.cmp .le (.prim .abs [.var 1]) (.gint 1000))) (.and (.ch2 .le .le (.lit (.int 0)) (.idx (.ref 0) (.lit (.int 4))) (.gint 1000)) (.cmp .ne (.slc (.ref 0) none (some (.lit (.int 2)))) (.slc (.ref 0) (some (.lit (.int 2))) (some (.lit (.int 4))))))))]⟩

/-- are_ridges: value=0 one=1 -/
def f_are_ridges : Fn := ⟨1, 2, [
  .ret (some (.and (.isi (.ref 0) .tup) (.and (.cmp .le (.prim .len [.ref 0]) (.gint 20)) (.gen true 1 (.ref 0) (.call 4 [.var 1] 0)))))]⟩

/-- need_land: hills=0 ridges=1 -/
def f_need_land : Fn := ⟨2, 2, [
  .iff (.not (.call 3 [.ref 0] 0)) [
    .raise (.lit (.str "hills"))] [],
  .iff (.not (.call 5 [.ref 1] 0)) [
    .raise (.lit (.str "ridges"))] []]⟩

/-- turn: one=0 other=1 third=2 -/
def f_turn : Fn := ⟨3, 3, [
  .ret (some (.bin .sub (.bin .mul (.bin .sub (.idx (.ref 1) (.lit (.int 0))) (.idx (.ref 0) (.lit (.int 0)))) (.bin .sub (.idx (.ref 2) (.lit (.int 1))) (.idx (.ref 0) (.lit (.int 1))))) (.bin .mul (.bin .sub (.idx (.ref 1) (.lit (.int 1))) (.idx (.ref 0) (.lit (.int 1)))) (.bin .sub (.idx (.ref 2) (.lit (.int 0))) (.idx (.ref 0) (.lit (.int 0)))))))]⟩

/-- shares: one=0 other=1 ridge=2 first=3 second=4 left=5 right=6 part=7 -/
def f_shares : Fn := ⟨3, 8, [
  .set 3 (.fz (.call 7 [.slc (.ref 2) none (some (.lit (.int 2))), .slc (.ref 2) (some (.lit (.int 2))) (some (.lit (.int 4))), .ref 0] 0)),
  .set 4 (.fz (.call 7 [.slc (.ref 2) none (some (.lit (.int 2))), .slc (.ref 2) (some (.lit (.int 2))) (some (.lit (.int 4))), .ref 1] 0)),
  .iff (.and (.cmp .eq (.var 3) (.lit (.int 0))) (.cmp .eq (.var 4) (.lit (.int 0)))) [
    .ret (some (.call 9 [.ref 0, .ref 1, .ref 2] 0))] [],
  .iff (.cmp .gt (.bin .mul (.var 3) (.var 4)) (.lit (.int 0))) [
    .ret (some (.tup []))] [],
  .set 5 (.fz (.call 7 [.ref 0, .ref 1, .slc (.ref 2) none (some (.lit (.int 2)))] 0)),
  .set 6 (.fz (.call 7 [.ref 0, .ref 1, .slc (.ref 2) (some (.lit (.int 2))) (some (.lit (.int 4)))] 0)),
  .iff (.cmp .gt (.bin .mul (.var 5) (.var 6)) (.lit (.int 0))) [
    .ret (some (.tup []))] [],
  .set 7 (.tup [.prim .abs [.var 3], .bin .add (.prim .abs [.var 3]) (.prim .abs [.var 4])]),
  .ret (some (.tup [.var 7, .var 7]))]⟩

/-- along: one=0 other=1 ridge=2 axis=3 whole=4 ends=5 begin=6 end=7 -/
def f_along : Fn := ⟨3, 8, [
  .set 3 (.ife (.cmp .ne (.idx (.ref 0) (.lit (.int 0))) (.idx (.ref 1) (.lit (.int 0)))) (.lit (.int 0)) (.lit (.int 1))),
  .set 4 (.bin .sub (.idx (.ref 1) (.var 3)) (.idx (.ref 0) (.var 3))),
  .set 5 (.fz (.lst [.bin .sub (.idx (.ref 2) (.var 3)) (.idx (.ref 0) (.var 3)), .bin .sub (.idx (.ref 2) (.bin .add (.var 3) (.lit (.int 2)))) (.idx (.ref 0) (.var 3))])),
  .iff (.cmp .lt (.var 4) (.lit (.int 0))) [
    .set 5 (.fz (.comp [7] true (.var 5) none (.bin .sub (.lit (.int 0)) (.var 7)) [7])),
    .set 4 (.bin .sub (.lit (.int 0)) (.var 4))] [],
  .set 6 (.prim .max2 [.lit (.int 0), .prim .min1 [.var 5]]),
  .set 7 (.prim .min2 [.var 4, .prim .max1 [.var 5]]),
  .ret (some (.ife (.cmp .le (.var 6) (.var 7)) (.tup [.tup [.var 6, .var 4], .tup [.var 7, .var 4]]) (.tup [])))]⟩

def l_is_hidden_1 : List Fs.St := [
    .iff (.cmp .lt (.bin .add (.bin .mul (.idx (.ref 0) (.lit (.int 2))) (.bin .sub (.var 4) (.var 3))) (.bin .mul (.idx (.ref 1) (.lit (.int 2))) (.var 3))) (.bin .mul (.idx (.ref 2) (.lit (.int 4))) (.var 4))) [
      .ret (some (.lit (.bool true)))] [],
    .kill [3, 4]]

/-- is_hidden: one=0 other=1 ridge=2 above=3 below=4 -/
def f_is_hidden : Fn := ⟨3, 5, [
  .for [3, 4] false (.call 8 [.ref 0, .ref 1, .ref 2] 0) l_is_hidden_1,
  .ret (some (.lit (.bool false)))]⟩

/-- hiding: hills=0 ridges=1 one=2 other=3 at=4 -/
def f_hiding : Fn := ⟨4, 5, [
  .eff (.call 6 [.ref 0, .ref 1] 0),
  .eff (.call 1 [.ref 2, .lit (.str "one"), .lit (.int 0), .bin .sub (.prim .len [.ref 0]) (.lit (.int 1))] 0),
  .eff (.call 1 [.ref 3, .lit (.str "other"), .lit (.int 0), .bin .sub (.prim .len [.ref 0]) (.lit (.int 1))] 0),
  .ret (some (.prim .tuple [.comp [4] true (.rng1 (.prim .len [.ref 1])) (some (.and (.cmp .ne (.ref 2) (.ref 3)) (.call 10 [.idx (.ref 0) (.ref 2), .idx (.ref 0) (.ref 3), .idx (.ref 1) (.var 4)] 0))) (.var 4) [4]]))]⟩

def l_net_of_1 : List Fs.St := [
      .iff (.not (.prim .any [.comp [5] true (.ref 1) none (.call 10 [.idx (.ref 0) (.var 3), .idx (.ref 0) (.var 4), .var 5] 0) [5]])) [
        .app 2 (.tup [.var 3, .var 4])] [],
      .kill [4]]

def l_net_of_2 : List Fs.St := [
    .for [4] true (.rng2 (.bin .add (.var 3) (.lit (.int 1))) (.prim .len [.ref 0])) l_net_of_1,
    .kill [3, 4]]

/-- net_of: hills=0 ridges=1 lines=2 one=3 other=4 ridge=5 -/
def f_net_of : Fn := ⟨2, 6, [
  .eff (.call 6 [.ref 0, .ref 1] 0),
  .set 2 (.lst []),
  .for [3] true (.rng1 (.prim .len [.ref 0])) l_net_of_2,
  .ret (some (.tup [.prim .len [.ref 0], .prim .tuple [.ref 2]]))]⟩

/-- raised: hills=0 hill=1 tower=2 x=3 y=4 height=5 -/
def f_raised : Fn := ⟨3, 6, [
  .unp [3, 4, 5] (.idx (.ref 0) (.ref 1)),
  .ret (some (.bin .add (.bin .add (.slc (.ref 0) none (some (.var 1))) (.tup [.tup [.var 3, .var 4, .bin .add (.var 5) (.ref 2)]])) (.slc (.ref 0) (some (.bin .add (.ref 1) (.lit (.int 1)))) none)))]⟩

def l_least_tower_1 : List Fs.St := [
    .set 6 (.fz (.bin .fdiv (.bin .add (.var 4) (.var 5)) (.lit (.int 2)))),
    .set 7 (.fz (.call 13 [.ref 0, .ref 2, .var 6] 0)),
    .iff (.or (.cmp .gt (.var 6) (.gint 2000)) (.not (.prim .any [.comp [8] true (.ref 1) none (.call 10 [.idx (.var 7) (.ref 2), .idx (.var 7) (.ref 3), .var 8] 0) [8]]))) [
      .set 5 (.take 6)] [
      .set 4 (.fz (.bin .add (.var 6) (.lit (.int 1))))],
    .kill [6, 7]]

/-- least_tower: hills=0 ridges=1 one=2 other=3 low=4 high=5 middle=6 rows=7 ridge=8 -/
def f_least_tower : Fn := ⟨4, 9, [
  .eff (.call 6 [.ref 0, .ref 1] 0),
  .eff (.call 1 [.ref 2, .lit (.str "one"), .lit (.int 0), .bin .sub (.prim .len [.ref 0]) (.lit (.int 1))] 0),
  .eff (.call 1 [.ref 3, .lit (.str "other"), .lit (.int 0), .bin .sub (.prim .len [.ref 0]) (.lit (.int 1))] 0),
  .iff (.cmp .eq (.ref 2) (.ref 3)) [
    .raise (.lit (.str "other"))] [],
  .set 4 (.lit (.int 0)),
  .set 5 (.fz (.bin .add (.gint 2000) (.lit (.int 1)))),
  .whl (.cmp .lt (.var 4) (.var 5)) l_least_tower_1,
  .ret (some (.ife (.cmp .le (.var 4) (.gint 2000)) (.var 4) (.lit (.none))))]⟩

def l_best_tower_1 : List Fs.St := [
        .iff (.not (.prim .any [.comp [9] true (.ref 1) none (.call 10 [.idx (.var 6) (.var 7), .idx (.var 6) (.var 8), .var 9] 0) [9]])) [
          .aug 5 (.lit (.int 1))] [],
        .kill [8]]

def l_best_tower_2 : List Fs.St := [
      .for [8] true (.rng2 (.bin .add (.var 7) (.lit (.int 1))) (.prim .len [.var 6])) l_best_tower_1,
      .kill [7, 8]]

def l_best_tower_3 : List Fs.St := [
    .set 5 (.lit (.int 0)),
    .set 6 (.fz (.call 13 [.ref 0, .var 4, .ref 2] 0)),
    .for [7] true (.rng1 (.prim .len [.var 6])) l_best_tower_2,
    .iff (.or (.isN (.var 3)) (.cmp .gt (.var 5) (.idx (.var 3) (.lit (.int 1))))) [
      .set 3 (.tup [.var 4, .var 5])] [],
    .kill [4, 5, 6, 7, 8]]

/-- best_tower: hills=0 ridges=1 height=2 best=3 hill=4 many=5 rows=6 one=7 other=8 ridge=9 -/
def f_best_tower : Fn := ⟨3, 10, [
  .eff (.call 6 [.ref 0, .ref 1] 0),
  .eff (.call 1 [.ref 2, .lit (.str "height"), .lit (.int 0), .gint 2000] 0),
  .set 3 (.lit (.none)),
  .for [4] true (.rng1 (.prim .len [.ref 0])) l_best_tower_3,
  .ret (some (.take 3))]⟩

/-- _law_dice: script=0 spot=1 own=2 mixed=3 cell=4 -/
def f__law_dice : Fn := ⟨2, 5, [
  .set 2 (.ife (.cmp .lt (.ref 1) (.prim .len [.ref 0])) (.idx (.ref 0) (.ref 1)) (.bin .add (.bin .mul (.lit (.int 733)) (.ref 1)) (.lit (.int 29)))),
  .set 3 (.bin .add (.lit (.int 940007)) (.bin .mul (.lit (.int 7907)) (.ref 1))),
  .for [4] true (.bin .add (.slc (.ref 0) none (some (.lit (.int 6)))) (.lst [.var 2])) [
    .set 3 (.bin .mod (.prim .int [.bin .add (.bin .mul (.var 3) (.lit (.int 48271))) (.bin .mod (.prim .int [.var 4]) (.lit (.int 2147480009)))]) (.lit (.int 2147480009))),
    .kill [4]],
  .ret (some (.lst [.ife (.or (.cmp .lt (.var 2) (.lit (.int 0))) (.cmp .ge (.var 2) (.bin .pow (.lit (.int 10)) (.lit (.int 16))))) (.prim .abs [.var 2]) (.lit (.int 0)), .var 3, .lit (.int 0)]))]⟩

/-- _law_roll: dice=0 many=1 found=2 -/
def f__law_roll : Fn := ⟨2, 3, [
  .iff (.cmp .gt (.idx (.ref 0) (.lit (.int 0))) (.lit (.int 0))) [
    .set 2 (.bin .mod (.prim .int [.idx (.ref 0) (.lit (.int 0))]) (.ref 1)),
    .put 0 (.lit (.int 0)) (.bin .fdiv (.idx (.ref 0) (.lit (.int 0))) (.ref 1)),
    .ret (some (.take 2))] [],
  .put 0 (.lit (.int 2)) (.bin .add (.idx (.ref 0) (.lit (.int 2))) (.lit (.int 1))),
  .put 0 (.lit (.int 1)) (.bin .mod (.prim .int [.bin .add (.bin .add (.bin .mul (.idx (.ref 0) (.lit (.int 1))) (.lit (.int 52501))) (.bin .mul (.bin .mul (.idx (.ref 0) (.lit (.int 2))) (.idx (.ref 0) (.lit (.int 2)))) (.lit (.int 1009)))) (.lit (.int 77))]) (.lit (.int 2147480009))),
  .ret (some (.bin .mod (.prim .int [.bin .fdiv (.idx (.ref 0) (.lit (.int 1))) (.lit (.int 211))]) (.ref 1)))]⟩

/-- _law_pick: dice=0 things=1 -/
def f__law_pick : Fn := ⟨2, 2, [
  .ret (some (.idx (.ref 1) (.call 17 [.ref 0, .prim .len [.ref 1]] 0)))]⟩

def l__law_hills_1 : List Fs.St := [
    .dput 1 (.tup [.bin .sub (.call 17 [.ref 0, .lit (.int 5)] 0) (.lit (.int 2)), .bin .sub (.call 17 [.ref 0, .lit (.int 5)] 0) (.lit (.int 2))]) (.call 17 [.ref 0, .lit (.int 7)] 0),
    .kill [2]]

/-- _law_hills: dice=0 found=1 turn_v=2 place=3 -/
def f__law_hills : Fn := ⟨1, 4, [
  .set 1 (.dct true [] []),
  .for [2] true (.rng1 (.bin .add (.lit (.int 1)) (.call 17 [.ref 0, .lit (.int 5)] 0))) l__law_hills_1,
  .ret (some (.prim .tuple [.comp [3] true (.sortd (.ref 1)) none (.bin .add (.var 3) (.tup [.didx (.ref 1) (.var 3)])) [3]]))]⟩

def l__law_ridges_1 : List Fs.St := [
    .set 3 (.tup [.bin .sub (.call 17 [.ref 0, .lit (.int 7)] 0) (.lit (.int 3)), .bin .sub (.call 17 [.ref 0, .lit (.int 7)] 0) (.lit (.int 3)), .bin .sub (.call 17 [.ref 0, .lit (.int 7)] 0) (.lit (.int 3)), .bin .sub (.call 17 [.ref 0, .lit (.int 7)] 0) (.lit (.int 3)), .call 17 [.ref 0, .lit (.int 8)] 0]),
    .iff (.cmp .ne (.slc (.var 3) none (some (.lit (.int 2)))) (.slc (.var 3) (some (.lit (.int 2))) (some (.lit (.int 4))))) [
      .app 1 (.var 3)] [],
    .kill [2, 3]]

/-- _law_ridges: dice=0 found=1 turn_v=2 row=3 -/
def f__law_ridges : Fn := ⟨1, 4, [
  .set 1 (.lst []),
  .for [2] true (.rng1 (.call 17 [.ref 0, .lit (.int 4)] 0)) l__law_ridges_1,
  .ret (some (.prim .tuple [.ref 1]))]⟩

/-- _law_cross: a=0 b=1 -/
def f__law_cross : Fn := ⟨2, 2, [
  .ret (some (.bin .sub (.bin .mul (.idx (.ref 0) (.lit (.int 0))) (.idx (.ref 1) (.lit (.int 1)))) (.bin .mul (.idx (.ref 0) (.lit (.int 1))) (.idx (.ref 1) (.lit (.int 0))))))]⟩

/-- _law_low: one=0 other=1 above=2 below=3 height=4 -/
def f__law_low : Fn := ⟨5, 5, [
  .ret (some (.cmp .lt (.bin .add (.bin .mul (.idx (.ref 0) (.lit (.int 2))) (.bin .sub (.ref 3) (.ref 2))) (.bin .mul (.idx (.ref 1) (.lit (.int 2))) (.ref 2))) (.bin .mul (.ref 4) (.ref 3))))]⟩

def l__law_hides_1 : List Fs.St := [
    .set 13 (.bin .add (.bin .mul (.bin .sub (.idx (.var 12) (.lit (.int 0))) (.idx (.ref 0) (.lit (.int 0)))) (.idx (.var 3) (.lit (.int 0)))) (.bin .mul (.bin .sub (.idx (.var 12) (.lit (.int 1))) (.idx (.ref 0) (.lit (.int 1)))) (.idx (.var 3) (.lit (.int 1))))),
    .set 14 (.bin .add (.bin .mul (.bin .sub (.idx (.var 12) (.lit (.int 0))) (.idx (.ref 2) (.lit (.int 0)))) (.idx (.var 4) (.lit (.int 0)))) (.bin .mul (.bin .sub (.idx (.var 12) (.lit (.int 1))) (.idx (.ref 2) (.lit (.int 1)))) (.idx (.var 4) (.lit (.int 1))))),
    .iff (.and (.ch2 .le .le (.lit (.int 0)) (.var 13) (.var 10)) (.and (.ch2 .le .le (.lit (.int 0)) (.var 14) (.var 11)) (.call 22 [.ref 0, .ref 1, .var 13, .var 10, .idx (.ref 2) (.lit (.int 4))] 0))) [
      .ret (some (.lit (.bool true)))] [],
    .kill [12, 13, 14]]

/-- _law_hides: one=0 other=1 ridge=2 way=3 wall=4 gap=5 scale=6 sign=7 along_v=8 over=9 square=10 tall=11 point=12 part=13 place=14 -/
def f__law_hides : Fn := ⟨3, 15, [
  .par [3, 4] [.tup [.bin .sub (.idx (.ref 1) (.lit (.int 0))) (.idx (.ref 0) (.lit (.int 0))), .bin .sub (.idx (.ref 1) (.lit (.int 1))) (.idx (.ref 0) (.lit (.int 1)))], .tup [.bin .sub (.idx (.ref 2) (.lit (.int 2))) (.idx (.ref 2) (.lit (.int 0))), .bin .sub (.idx (.ref 2) (.lit (.int 3))) (.idx (.ref 2) (.lit (.int 1)))]],
  .par [5, 6] [.tup [.bin .sub (.idx (.ref 2) (.lit (.int 0))) (.idx (.ref 0) (.lit (.int 0))), .bin .sub (.idx (.ref 2) (.lit (.int 1))) (.idx (.ref 0) (.lit (.int 1)))], .fz (.call 21 [.var 3, .var 4] 0)],
  .iff (.cmp .ne (.var 6) (.lit (.int 0))) [
    .set 7 (.ife (.cmp .gt (.var 6) (.lit (.int 0))) (.lit (.int 1)) (.neg (.lit (.int 1)))),
    .par [8, 9] [.fz (.bin .mul (.call 21 [.var 5, .var 4] 0) (.var 7)), .fz (.bin .mul (.call 21 [.var 5, .var 3] 0) (.var 7))],
    .set 6 (.fz (.bin .mul (.var 6) (.var 7))),
    .ret (some (.and (.ch2 .le .le (.lit (.int 0)) (.var 8) (.var 6)) (.and (.ch2 .le .le (.lit (.int 0)) (.var 9) (.var 6)) (.call 22 [.ref 0, .ref 1, .var 8, .var 6, .idx (.ref 2) (.lit (.int 4))] 0))))] [],
  .iff (.cmp .ne (.call 21 [.var 5, .var 3] 0) (.lit (.int 0))) [
    .ret (some (.lit (.bool false)))] [],
  .par [10, 11] [.bin .add (.bin .mul (.idx (.var 3) (.lit (.int 0))) (.idx (.var 3) (.lit (.int 0)))) (.bin .mul (.idx (.var 3) (.lit (.int 1))) (.idx (.var 3) (.lit (.int 1)))), .bin .add (.bin .mul (.idx (.var 4) (.lit (.int 0))) (.idx (.var 4) (.lit (.int 0)))) (.bin .mul (.idx (.var 4) (.lit (.int 1))) (.idx (.var 4) (.lit (.int 1))))],
  .for [12] true (.tup [.slc (.ref 0) none (some (.lit (.int 2))), .slc (.ref 1) none (some (.lit (.int 2))), .slc (.ref 2) none (some (.lit (.int 2))), .slc (.ref 2) (some (.lit (.int 2))) (some (.lit (.int 4)))]) l__law_hides_1,
  .ret (some (.lit (.bool false)))]⟩

def l__law_pairs_1 : List Fs.St := [
      .iff (.cmp .eq (.prim .len [.comp [5] true (.ref 1) (some (.call 23 [.idx (.ref 0) (.var 3), .idx (.ref 0) (.var 4), .var 5] 0)) (.lit (.int 1)) [5]]) (.lit (.int 0))) [
        .app 2 (.tup [.var 3, .var 4])] [],
      .kill [4]]

def l__law_pairs_2 : List Fs.St := [
    .for [4] true (.rng2 (.bin .add (.var 3) (.lit (.int 1))) (.prim .len [.ref 0])) l__law_pairs_1,
    .kill [3, 4]]

/-- _law_pairs: hills=0 ridges=1 found=2 one=3 other=4 ridge=5 -/
def f__law_pairs : Fn := ⟨2, 6, [
  .set 2 (.lst []),
  .for [3] true (.rng1 (.prim .len [.ref 0])) l__law_pairs_2,
  .ret (some (.take 2))]⟩

/-- _law_raised: hills=0 hill=1 tower=2 -/
def f__law_raised : Fn := ⟨3, 3, [
  .ret (some (.bin .add (.bin .add (.slc (.ref 0) none (some (.var 1))) (.tup [.bin .add (.slc (.idx (.ref 0) (.ref 1)) none (some (.lit (.int 2)))) (.tup [.bin .add (.idx (.idx (.ref 0) (.ref 1)) (.lit (.int 2))) (.ref 2)])])) (.slc (.ref 0) (some (.bin .add (.ref 1) (.lit (.int 1)))) none)))]⟩

def l__law_right_1 : List Fs.St := [
    .iff (.and (.notN (.var 8)) (.cmp .ge (.var 8) (.lit (.int 0)))) [
      .set 10 (.fz (.call 24 [.call 25 [.var 1, .var 3, .var 8] 0, .var 2] 0)),
      .iff (.cmp .ne (.cmp .inn (.tup [.prim .min2 [.var 3, .var 4], .prim .max2 [.var 3, .var 4]]) (.var 10)) (.var 9)) [
        .ret (some (.lit (.bool false)))] [],
      .kill [10]] [],
    .kill [8, 9, 10]]

def l__law_right_2 : List Fs.St := [
  .set 13 (.prim .len [.call 24 [.call 25 [.var 1, .var 12, .var 5] 0, .var 2] 0]),
  .iff (.or (.isN (.var 11)) (.cmp .gt (.var 13) (.idx (.var 11) (.lit (.int 1))))) [
    .set 11 (.tup [.var 12, .var 13])] [],
  .kill [12, 13]]

def t__law_right_1 : Fs.St := .par [1, 2] [.fz (.call 19 [.ref 0] 0), .fz (.call 20 [.ref 0] 0)]

def t__law_right_2 : Fs.St := .par [3, 4, 5] [.fz (.call 17 [.ref 0, .prim .len [.var 1]] 0), .fz (.call 17 [.ref 0, .prim .len [.var 1]] 0), .fz (.call 17 [.ref 0, .lit (.int 9)] 0)]

def t__law_right_3 : Fs.St := .set 6 (.fz (.comp [17] true (.rng1 (.prim .len [.var 2])) (some (.and (.cmp .ne (.var 3) (.var 4)) (.call 23 [.idx (.var 1) (.var 3), .idx (.var 1) (.var 4), .idx (.var 2) (.var 17)] 0))) (.var 17) [17]))

def t__law_right_4 : Fs.St := .iff (.cmp .ne (.call 11 [.var 1, .var 2, .var 3, .var 4] 1) (.prim .tuple [.var 6])) [
  .ret (some (.lit (.bool false)))] []

def t__law_right_5 : Fs.St := .iff (.cmp .ne (.call 12 [.var 1, .var 2] 1) (.tup [.prim .len [.var 1], .prim .tuple [.call 24 [.var 1, .var 2] 0]])) [
  .ret (some (.lit (.bool false)))] []

def t__law_right_6 : Fs.St := .iff (.cmp .ne (.var 3) (.var 4)) [
  .set 7 (.fz (.call 14 [.var 1, .var 2, .var 3, .var 4] 1)),
  .for [8, 9] false (.tup [.tup [.var 7, .lit (.bool true)], .tup [.ife (.notN (.var 7)) (.bin .sub (.var 7) (.lit (.int 1))) (.lit (.int 2000)), .lit (.bool false)]]) l__law_right_1,
  .kill [7, 8, 9, 10]] []

def t__law_right_7 : Fs.St := .set 11 (.lit (.none))

def t__law_right_8 : Fs.St := .for [12] true (.rng1 (.prim .len [.var 1])) l__law_right_2

def t__law_right_9 : Fs.St := .iff (.or (.cmp .ne (.call 15 [.var 1, .var 2, .var 5] 1) (.var 11)) (.or (.not (.call 3 [.var 1] 0)) (.not (.call 5 [.var 2] 0)))) [
  .ret (some (.lit (.bool false)))] []

def t__law_right_10 : Fs.St := .set 14 (.fz (.call 18 [.ref 0, .lst [.lit (.none), .tup [], .tup [.tup [.lit (.int 0), .lit (.int 0)]], .tup [.tup [.lit (.int 0), .lit (.int 0), .neg (.lit (.int 1))]], .tup [.tup [.lit (.int 0), .lit (.int 0), .lit (.int 1)], .tup [.lit (.int 0), .lit (.int 0), .lit (.int 2)]], .lst [.tup [.lit (.int 0), .lit (.int 0), .lit (.int 0)]], .tup [.tup [.lit (.int 1001), .lit (.int 0), .lit (.int 0)]], .tup [.tup [.lit (.int 0), .lit (.bool true), .lit (.int 0)]]]] 0))

def t__law_right_11 : Fs.St := .set 15 (.fz (.call 18 [.ref 0, .lst [.lit (.none), .tup [.tup [.lit (.int 0), .lit (.int 0), .lit (.int 0), .lit (.int 0), .lit (.int 5)]], .tup [.tup [.lit (.int 0), .lit (.int 0), .lit (.int 1), .lit (.int 1)]], .lst [.tup [.lit (.int 0), .lit (.int 0), .lit (.int 1), .lit (.int 1), .lit (.int 5)]], .tup [.tup [.lit (.int 0), .lit (.int 0), .lit (.int 1), .lit (.int 1), .neg (.lit (.int 1))]], .tup [.tup [.lit (.int 0), .lit (.int 0), .lit (.int 1), .lit (.int 1001), .lit (.int 1)]]]] 0))

def t__law_right_12 : Fs.St := .set 16 (.fz (.lst [.refused 0 (.call 11 [.var 14, .lit (.none), .lit (.none), .lit (.none)] 0), .refused 0 (.call 11 [.var 1, .var 15, .lit (.none), .lit (.none)] 0), .refused 0 (.call 11 [.var 1, .var 2, .prim .len [.var 1], .lit (.none)] 0), .refused 0 (.call 12 [.var 1, .var 15] 0), .refused 0 (.call 14 [.var 1, .var 2, .lit (.int 0), .lit (.int 0)] 0), .refused 0 (.call 14 [.var 1, .var 2, .neg (.lit (.int 1)), .lit (.int 0)] 0), .refused 0 (.call 15 [.var 1, .var 2, .lit (.int 2001)] 0), .refused 0 (.call 15 [.var 14, .var 2, .lit (.int 0)] 0)]))

def t__law_right_13 : Fs.St := .set 6 (.fz (.lst [.lit (.str "hills"), .lit (.str "ridges"), .lit (.str "one"), .lit (.str "ridges"), .lit (.str "other"), .lit (.str "one"), .lit (.str "height"), .lit (.str "hills")]))

def t__law_right_14 : Fs.St := .ret (some (.and (.cmp .eq (.var 16) (.var 6)) (.and (.not (.call 3 [.var 14] 0)) (.not (.call 5 [.var 15] 0)))))

/-- _law_right: dice=0 hills=1 ridges=2 one=3 other=4 height=5 due=6 tower=7 own=8 wanted=9 pairs=10 best=11 hill=12 many=13 bad=14 odd=15 told=16 at=17 -/
def f__law_right : Fn := ⟨1, 18, [t__law_right_1, t__law_right_2, t__law_right_3, t__law_right_4, t__law_right_5, t__law_right_6, t__law_right_7, t__law_right_8, t__law_right_9, t__law_right_10, t__law_right_11, t__law_right_12, t__law_right_13, t__law_right_14]⟩

def l_law_1 : List Fs.St := [
    .iff (.not (.call 26 [.call 16 [.ref 0, .var 1] 0] 0)) [
      .ret (some (.lit (.bool false)))] [],
    .kill [1]]

/-- law: script=0 spot=1 -/
def f_law : Fn := ⟨1, 2, [
  .for [1] true (.rng1 (.prim .max2 [.lit (.int 1), .prim .min2 [.lit (.int 4), .prim .len [.ref 0]]])) l_law_1,
  .ret (some (.lit (.bool true)))]⟩

def tbl : List Fn := [f_is_integer, f_need_integer, f_is_hill, f_are_hills, f_is_ridge, f_are_ridges, f_need_land, f_turn, f_shares, f_along, f_is_hidden, f_hiding, f_net_of, f_raised, f_least_tower, f_best_tower, f__law_dice, f__law_roll, f__law_pick, f__law_hills, f__law_ridges, f__law_cross, f__law_low, f__law_hides, f__law_pairs, f__law_raised, f__law_right, f_law]
end Ir
set_option linter.all false
set_option maxRecDepth 10000
namespace Fs
open PySem
variable {n : Nat}
@[simp] theorem is_integer_int (i : Int) : call Ir.tbl (n + 1) 0 [.dat (.int i)] = .ok (.dat (.bool true)) [.dat (.int i)] :=
  run (fn := Ir.f_is_integer) rfl rfl fun d => by simp [Ir.f_is_integer, isTy]
@[simp] theorem is_integer_none : call Ir.tbl (n + 1) 0 [.dat .none] = .ok (.dat (.bool false)) [.dat .none] :=
  run (fn := Ir.f_is_integer) rfl rfl fun d => by simp [Ir.f_is_integer, isTy]
theorem need_integer_ok (i : Int) (nm : D) (l u : Int) (h1 : l ≤ i) (h2 : i ≤ u) : call Ir.tbl (n + 2) 1 [.dat (.int i), .dat nm, .dat (.int l), .dat (.int u)] = .ok (.dat .none) [.dat (.int i), .dat nm, .dat (.int l), .dat (.int u)] := by
  have a1 : ¬ i < l := by omega
  have a2 : ¬ u < i := by omega
  exact run (fn := Ir.f_need_integer) rfl rfl fun d => by simp [Ir.f_need_integer, cmpD, ltD, a1, a2]
theorem need_integer_bad (i : Int) (nm : Str) (l u : Int) (h1 : i < l ∨ u < i) (hn : nm.length ≤ 1000) : call Ir.tbl (n + 2) 1 [.dat (.int i), .dat (.str nm), .dat (.int l), .dat (.int u)] = .exc (.str nm) [.dat (.int i), .dat (.str nm), .dat (.int l), .dat (.int u)] := by
  refine run (fn := Ir.f_need_integer) rfl rfl fun d => ?_
  rcases h1 with h1 | h1
  · simp [Ir.f_need_integer, cmpD, ltD, h1, hn]
  · by_cases h2 : i < l
    · simp [Ir.f_need_integer, cmpD, ltD, h2, hn]
    · simp [Ir.f_need_integer, cmpD, ltD, h2, h1, hn]
@[simp] theorem eqv_int (a b : Int) : PyData.eqv (.int a) (.int b) = decide (a = b) := by
  simp only [PyData.eqv]
  by_cases e : a = b <;> simp [e]
end Fs
set_option linter.all false
set_option maxRecDepth 100000
namespace Fs
open PySem
variable {n : Nat}
abbrev rowD (r : List Int) : D := .tuple (r.map .int)
@[simp] theorem inD_int (x : Int) (xs : List Int) : inD (.int x) (xs.map .int) = some (decide (x ∈ xs)) := by
  unfold inD
  rw [if_pos (by simp [okD, dp])]
  congr 1
  induction xs with
  | nil => rfl
  | cons y ys ih =>
    simp only [List.map_cons, List.any_cons, eqv_int, ih, List.mem_cons, Bool.decide_or]
    congr 1
    by_cases e : x = y
    · subst e; rfl
    · simp [e, Ne.symm e]
theorem bools_map {α : Type} (p : α → Bool) : ∀ xs : List α, bools (xs.map fun x => .bool (p x)) = some (xs.map p)
  | [] => rfl
  | x :: xs => by
    show (bools (xs.map fun x => .bool (p x))).map (p x :: ·) = _
    rw [bools_map p xs]; rfl
theorem rng0 (h : Nat) (hl : h ≤ 1000) : rngD 0 h = some ((List.range h).map fun (j : Nat) => .int ((j : Int))) := by
  unfold rngD
  rw [if_pos ⟨by decide, by omega, by unfold lim; omega⟩]
  simp
end Fs
set_option linter.all false
set_option maxRecDepth 10000
namespace Fs
open PySem
variable {n : Nat}
/-! ### the dice -/
/-- at most B rolls were made -/
structure Dice (B : Nat) (d : D) : Prop where
  ex : ∃ a b c : Int, d = .list [.int a, .int b, .int c] ∧ 0 ≤ a ∧ 0 ≤ b ∧ b < 2147480009 ∧ 0 ≤ c ∧ c ≤ B
theorem small_lt {i : Int} (h : 0 ≤ i) (h2 : i < 18446744073709551616) : small i = true := by
  unfold small
  simp only [decide_eq_true_eq]
  omega
theorem fmod_nonneg (a : Int) {m : Int} (h : 0 < m) : 0 ≤ a.fmod m ∧ a.fmod m < m := by
  rw [Int.fmod_eq_emod_of_nonneg a (by omega)]
  exact ⟨Int.emod_nonneg _ (by omega), Int.emod_lt_of_pos _ h⟩
theorem fdiv_nonneg {a m : Int} (h : 0 ≤ a) (hm : 0 < m) : 0 ≤ a.fdiv m := Int.fdiv_nonneg h (by omega)
theorem roll_ok {B : Nat} {d : D} (k : Dice B d) (hB : B ≤ 1000000) {m : Int} (h1 : 1 ≤ m) (h2 : m ≤ 1000) : ∃ (v : Int) (d' : D), 0 ≤ v ∧ v < m ∧ Dice (B + 1) d' ∧ call Ir.tbl (n + 1) 17 [.mu true d, .dat (.int m)] = .ok (.dat (.int v)) [.mu true d', .dat (.int m)] := by
  obtain ⟨a, b, c, rfl, a0, b0, b1, c0, c1⟩ := k.ex
  have hm : m ≠ 0 := by omega
  have hm2 : m.natAbs < 1073741824 := by omega
  by_cases ha : 0 < a
  · refine ⟨a.fmod m, .list [.int (a.fdiv m), .int b, .int c], (fmod_nonneg a (by omega)).1, (fmod_nonneg a (by omega)).2, ⟨_, _, _, rfl, fdiv_nonneg a0 (by omega), b0, b1, c0, by omega⟩, ?_⟩
    refine run (fn := Ir.f__law_roll) rfl rfl fun d => ?_
    simp [Ir.f__law_roll, idxD, at?, prim, cmpD, ltD, binop, hm, hm2, ha, isMuL]
  · have e1 : small (c + 1) = true := small_lt (by omega) (by omega)
    have e2 : small b = true := small_lt b0 (by omega)
    have e3 : small ((c + 1) * (c + 1)) = true ∨ small 1009 = true := .inr (by decide)
    have e4 : small 1009 = true := by decide
    have e5 : small 52501 = true := by decide
    have hx := fmod_nonneg (b * 52501 + (c + 1) * (c + 1) * 1009 + 77) (m := 2147480009) (by omega)
    refine ⟨(((b * 52501 + (c + 1) * (c + 1) * 1009 + 77).fmod 2147480009).fdiv 211).fmod m, .list [.int a, .int ((b * 52501 + (c + 1) * (c + 1) * 1009 + 77).fmod 2147480009), .int (c + 1)], (fmod_nonneg _ (by omega)).1, (fmod_nonneg _ (by omega)).2, ⟨_, _, _, rfl, a0, hx.1, hx.2, by omega, by omega⟩, ?_⟩
    refine run (fn := Ir.f__law_roll) rfl rfl fun d => ?_
    simp [Ir.f__law_roll, idxD, at?, prim, cmpD, ltD, binop, hm, hm2, ha, isMuL, e1, e2, e4, e5]
end Fs
set_option linter.all false
set_option maxRecDepth 100000
namespace Fs
open PySem
variable {n : Nat}
theorem pick_ok {B : Nat} {d : D} {xs : List D} (k : Dice B d) (hB : B ≤ 1000000) (h1 : xs ≠ []) (h2 : xs.length ≤ 1000) : ∃ (v : D) (d' : D), v ∈ xs ∧ Dice (B + 1) d' ∧ call Ir.tbl (n + 2) 18 [.mu true d, .mu false (.list xs)] = .ok (.dat v) [.mu true d', .mu false (.list xs)] := by
  have hl : 0 < xs.length := List.length_pos_iff.mpr h1
  obtain ⟨v, d', v0, v1, k1, e⟩ := roll_ok (n := n) k hB (m := xs.length) (by omega) (by omega)
  have hv : v.toNat < xs.length := by omega
  refine ⟨xs[v.toNat], d', List.getElem_mem hv, k1, ?_⟩
  refine run (fn := Ir.f__law_pick) rfl rfl fun d => ?_
  simp [Ir.f__law_pick, prim, e, idxD, at?, v0, hv]
end Fs
set_option linter.all false
set_option maxRecDepth 10000
namespace Fs
open PySem
/-! ### values of what only looks -/
def lookV (s : S) (i : Nat) : Option D := match s[i]? with
  | some (.dat d) => some d
  | some (.mu _ d) => some d
  | _ => none
def lookVS (s : S) (i : Nat) : Option D := match s[i]? with
  | some (.dat d) => some d
  | some (.mu _ d) => some d
  | some (.scr ns) => some (.list (ns.map .int))
  | _ => none
def argV (s : S) (i : Nat) : Option Sl := match s[i]? with
  | some (.dat d) => some (.dat d)
  | some (.scr ns) => some (.scr ns)
  | _ => none
abbrev PF : Type := E → S → Option Vl
def po (f : PF) (e : E) (s : S) : Option D := match e with
  | .ref i => lookV s i
  | e => (f e s).map Vl.d
def poS (f : PF) (e : E) (s : S) : Option D := match e with
  | .ref i => lookVS s i
  | e => (f e s).map Vl.d
def pa (f : PF) (e : E) (s : S) : Option Sl := match e with
  | .ref i => argV s i
  | e => (f e s).map Vl.sl
def pos (f : PF) : List E → S → Option (List D)
  | [], _ => some []
  | e :: es, s => (po f e s).bind fun d => (pos f es s).bind fun ds => some (d :: ds)
def posS (f : PF) : List E → S → Option (List D)
  | [], _ => some []
  | e :: es, s => (poS f e s).bind fun d => (posS f es s).bind fun ds => some (d :: ds)
def pas (f : PF) : List E → S → Option (List Sl)
  | [], _ => some []
  | e :: es, s => (pa f e s).bind fun d => (pas f es s).bind fun ds => some (d :: ds)
def pvs (f : PF) : List E → S → Option (List D)
  | [], _ => some []
  | e :: es, s => (f e s).bind fun v => (pvs f es s).bind fun ds => some (v.d :: ds)
def boolV : Vl → Option Bool
  | .dat (.bool b) => some b
  | _ => none
def intV : Vl → Option Int
  | .dat (.int i) => some i
  | _ => none
/-- a call that changes nothing -/
def pcall (C : CT) (f : Nat) (as : List Sl) : Option Vl := match C f as with
  | .ok v bs => if bs.length = as.length then some v else none
  | _ => none
def pit (f : PF) (it : E) (s : S) : Option (List D × Option Nat) := match it with
  | .rng1 hi => (f hi s).bind fun v => (intV v).bind fun h => (rngD 0 h).map (·, none)
  | .rng2 lo hi => (f lo s).bind fun v => (intV v).bind fun l => (f hi s).bind fun w => (intV w).bind fun h => (rngD l h).map (·, none)
  | .zip a b => (pos f [a, b] s).bind fun ds => (match ds with
    | [.tuple xs, .tuple ys] => some ((xs.zip ys).map fun p => .tuple [p.1, p.2], none)
    | _ => none)
  | .ref i => (match s[i]? with
    | some (.dat d) => (items d).map (·, none)
    | some (.mu _ d) => (items d).map (·, some i)
    | _ => none)
  | e => (f e s).bind fun v => (items v.d).map (·, none)
def compP {α : Type} (F : α → Option (Option D)) : List α → Option (List D)
  | [] => some []
  | x :: xs => (F x).bind fun o => match o with
    | none => compP F xs
    | some d => (compP F xs).map (d :: ·)
def genP {α : Type} (al : Bool) (F : α → Option Bool) : List α → Option Bool
  | [] => some al
  | x :: xs => (F x).bind fun b => if b = al then genP al F xs else some b
def pitem (tg : List Nat) (one : Bool) (c : S → Option Bool) (e : S → Option D) (W : S) (x : D) : Option (Option D) :=
  (bind tg one x W).bind fun s1 => (c s1).bind fun b => if b = true then (e s1).map some else some none
def pv (C : CT) : Nat → E → S → Option Vl
  | 0, _, _ => none
  | n + 1, e, s => match e with
    | .lit d => some (.dat d)
    | .gint i => some (.dat (.int i))
    | .var i => (match s[i]? with
      | some (.dat d) => some (.dat d)
      | _ => none)
    | .fz a => (pv C n a s).map fun v => .dat v.d
    | .tup es => (pvs (pv C n) es s).map fun ds => .dat (.tuple ds)
    | .lst es => (pvs (pv C n) es s).map fun ds => .fr (.list ds)
    | .bin op a b => (po (pv C n) a s).bind fun x => (po (pv C n) b s).bind fun y => binop op x y
    | .neg a => (po (pv C n) a s).bind fun
      | .int i => some (.dat (.int (-i)))
      | _ => none
    | .not a => (pv C n a s).bind fun v => (boolV v).map fun b => .dat (.bool !b)
    | .cmp op a b => (po (pv C n) a s).bind fun x => (po (pv C n) b s).bind fun y => lift (cmpD op x y)
    | .isN a => (po (pv C n) a s).bind fun d => some (.dat (.bool (isNone d)))
    | .notN a => (po (pv C n) a s).bind fun d => some (.dat (.bool (!isNone d)))
    | .ch2 o1 o2 a b c => (pv C n a s).bind fun x => (pv C n b s).bind fun y => (cmpD o1 x.d y.d).bind fun k =>
      if k = true then (pv C n c s).bind fun z => lift (cmpD o2 y.d z.d) else some (.dat (.bool false))
    | .ch3 o1 o2 o3 a b c d => (pv C n a s).bind fun x => (pv C n b s).bind fun y => (cmpD o1 x.d y.d).bind fun k =>
      if k = true then (pv C n c s).bind fun z => (cmpD o2 y.d z.d).bind fun k =>
        if k = true then (pv C n d s).bind fun u => lift (cmpD o3 z.d u.d) else some (.dat (.bool false))
      else some (.dat (.bool false))
    | .and a b => (pv C n a s).bind fun v => (boolV v).bind fun k =>
      if k = true then (pv C n b s).bind fun w => (boolV w).map fun k => .dat (.bool k) else some (.dat (.bool false))
    | .or a b => (pv C n a s).bind fun v => (boolV v).bind fun k =>
      if k = true then some (.dat (.bool true)) else (pv C n b s).bind fun w => (boolV w).map fun k => .dat (.bool k)
    | .ife t a b => (pv C n t s).bind fun v => (boolV v).bind fun k => if k = true then pv C n a s else pv C n b s
    | .idx a i => (poS (pv C n) a s).bind fun x => (poS (pv C n) i s).bind fun y => (idxD x y).map Vl.dat
    | .slc a lo hi => (poS (pv C n) a s).bind fun d =>
      (match lo with
        | none => some none
        | some e => (pv C n e s).bind fun v => (intV v).map some).bind fun l =>
      (match hi with
        | none => some none
        | some e => (pv C n e s).bind fun v => (intV v).map some).bind fun h => slcD d l h
    | .rev a => (po (pv C n) a s).bind fun
      | .list xs => some (.fr (.list xs.reverse))
      | _ => none
    | .call f es _ => (pas (pv C n) es s).bind fun as => pcall C f as
    | .prim .len es => (posS (pv C n) es s).bind (prim .len)
    | .prim p es => (pos (pv C n) es s).bind (prim p)
    | .isi a t => (po (pv C n) a s).bind fun x => some (.dat (.bool (isTy t x)))
    | .comp tg one it c e own => (pit (pv C n) it s).bind fun q => if q.1.length ≤ lim ∧ own = tg then
        (compP (pitem tg one (fun s => match c with
          | none => some true
          | some c => (pv C n c s).bind boolV) (fun s => (pv C n e s).map Vl.d) (wipe (own ++ shutI q.2) s)) q.1).map fun ds => .fr (.list ds)
      else none
    | .gen al i it e => (pit (pv C n) it s).bind fun q => if q.2 = none ∧ i < s.length then
        (genP al (fun x => (pv C n e (s.set i (.dat x))).bind boolV) q.1).map fun b => .dat (.bool b)
      else none
    | .index i x => (match s[i]? with
      | some (.dat (.list xs)) => (pv C n x s).bind fun v => findD xs v.d
      | some (.dat (.dict [(.none, .tuple xs)])) => (pv C n x s).bind fun v => findD xs v.d
      | _ => none)
    | .din neg k d => (po (pv C n) k s).bind fun x => (po (pv C n) d s).bind fun y => (dhas y x).map fun b => .dat (.bool (if neg = true then !b else b))
    | .didx d k => (po (pv C n) d s).bind fun x => (po (pv C n) k s).bind fun y => (dat? x y).map Vl.dat
    | .sortd d => (po (pv C n) d s).bind fun x => (dsort x).map fun ks => .fr (.list ks)
    | .get d k x => (po (pv C n) d s).bind fun y => (po (pv C n) k s).bind fun z => (po (pv C n) x s).bind fun u => (dget y z u).map Vl.dat
    | .lrng lo hi => (pv C n lo s).bind fun v => (intV v).bind fun l => (pv C n hi s).bind fun w => (intV w).bind fun h => (rngD l h).map fun ds => .fr (.list ds)
    | _ => none
section
variable {C : CT} {s : S}
theorem boolV_ok {v : Vl} {b : Bool} (h : boolV v = some b) : v = .dat (.bool b) := by
  unfold boolV at h
  split at h
  · cases h; rfl
  · cases h
theorem intV_ok {v : Vl} {b : Int} (h : intV v = some b) : v = .dat (.int b) := by
  unfold intV at h
  split at h
  · cases h; rfl
  · cases h
variable {f : PF} {g : E → S → R Vl} (hf : ∀ e s v, f e s = some v → g e s = .ok v s)
include hf
theorem pos_ok : ∀ {es : List E} {ds : List D}, pos f es s = some ds → ∃ os, opds g es s = .ok os s ∧ looks s os = some ds
  | [], ds, h => by cases h; exact ⟨[], rfl, rfl⟩
  | e :: es, ds, h => by
    obtain ⟨d, h1, h⟩ := Option.bind_eq_some_iff.mp h
    obtain ⟨es', h2, h⟩ := Option.bind_eq_some_iff.mp h
    cases h
    obtain ⟨os, h3, h4⟩ := pos_ok h2
    have key : ∃ o, opd g e s = .ok o s ∧ o.look s = some d := by
      unfold po at h1
      split at h1
      · rename_i i
        refine ⟨.sl i, ?_, h1⟩
        have : live s i = true := by
          unfold lookV at h1
          unfold live
          split at h1 <;> first | (rename_i e; simp [e]; done) | cases h1
        show (if live s i = true then _ else _) = _
        rw [if_pos this]
      · rename_i hne
        obtain ⟨v, h5, h6⟩ := Option.map_eq_some_iff.mp h1
        refine ⟨.vl v, ?_, by rw [← h6]; rfl⟩
        unfold opd
        split
        · exact absurd rfl (hne _)
        · rw [hf _ _ _ h5]; rfl
    obtain ⟨o, h5, h6⟩ := key
    refine ⟨o :: os, ?_, ?_⟩
    · unfold opds
      rw [h5, bind_ok, h3]; rfl
    · unfold looks
      rw [h6, h4]
theorem posS_ok : ∀ {es : List E} {ds : List D}, posS f es s = some ds → ∃ os, opds g es s = .ok os s ∧ looksS s os = some ds
  | [], ds, h => by cases h; exact ⟨[], rfl, rfl⟩
  | e :: es, ds, h => by
    obtain ⟨d, h1, h⟩ := Option.bind_eq_some_iff.mp h
    obtain ⟨es', h2, h⟩ := Option.bind_eq_some_iff.mp h
    cases h
    obtain ⟨os, h3, h4⟩ := posS_ok h2
    have key : ∃ o, opd g e s = .ok o s ∧ o.lookS s = some d := by
      unfold poS at h1
      split at h1
      · rename_i i
        refine ⟨.sl i, ?_, h1⟩
        have : live s i = true := by
          unfold lookVS at h1
          unfold live
          split at h1 <;> first | (rename_i e; simp [e]; done) | cases h1
        show (if live s i = true then _ else _) = _
        rw [if_pos this]
      · rename_i hne
        obtain ⟨v, h5, h6⟩ := Option.map_eq_some_iff.mp h1
        refine ⟨.vl v, ?_, by rw [← h6]; rfl⟩
        unfold opd
        split
        · exact absurd rfl (hne _)
        · rw [hf _ _ _ h5]; rfl
    obtain ⟨o, h5, h6⟩ := key
    refine ⟨o :: os, ?_, ?_⟩
    · unfold opds
      rw [h5, bind_ok, h3]; rfl
    · unfold looksS
      rw [h6, h4]
theorem pas_ok : ∀ {es : List E} {as : List Sl}, pas f es s = some as → ∃ os, opds g es s = .ok os s ∧ args s os = some as ∧ lent s os = [] ∧ ∀ bs : List Sl, bs.length = as.length → back os bs s = some s
  | [], ds, h => by cases h; exact ⟨[], rfl, rfl, rfl, fun bs _ => by simp⟩
  | e :: es, ds, h => by
    obtain ⟨d, h1, h⟩ := Option.bind_eq_some_iff.mp h
    obtain ⟨es', h2, h⟩ := Option.bind_eq_some_iff.mp h
    cases h
    obtain ⟨os, h3, h4, h7, h8⟩ := pas_ok h2
    have key : ∃ o, opd g e s = .ok o s ∧ o.arg s = some d ∧ lent s (o :: os) = [] ∧ ∀ b bs, back (o :: os) (b :: bs) s = back os bs s := by
      unfold pa at h1
      split at h1
      · rename_i i
        unfold argV at h1
        split at h1
        · rename_i d' e
          cases h1
          refine ⟨.sl i, ?_, ?_, ?_, fun b bs => ?_⟩
          · show (if live s i = true then _ else _) = _
            rw [if_pos (by unfold live; rw [e])]
          · simp [e]
          · simp [e, h7]
          · simp [e]
        · rename_i ns e
          cases h1
          refine ⟨.sl i, ?_, ?_, ?_, fun b bs => ?_⟩
          · show (if live s i = true then _ else _) = _
            rw [if_pos (by unfold live; rw [e])]
          · simp [e]
          · simp [e, h7]
          · simp [e]
        · cases h1
      · rename_i hne
        obtain ⟨v, h5, h6⟩ := Option.map_eq_some_iff.mp h1
        refine ⟨.vl v, ?_, by rw [← h6]; rfl, by simp [h7], fun b bs => rfl⟩
        unfold opd
        split
        · exact absurd rfl (hne _)
        · rw [hf _ _ _ h5]; rfl
    obtain ⟨o, h5, h6, h9, h10⟩ := key
    refine ⟨o :: os, ?_, ?_, h9, fun bs hb => ?_⟩
    · unfold opds
      rw [h5, bind_ok, h3]; rfl
    · unfold args
      rw [h6, h4]
    · cases bs with
      | nil => simp at hb
      | cons b bs => rw [h10]; exact h8 bs (by simpa using hb)
theorem pvs_ok : ∀ {es : List E} {ds : List D}, pvs f es s = some ds → evs g es s = .ok ds s
  | [], ds, h => by cases h; rfl
  | e :: es, ds, h => by
    obtain ⟨d, h1, h⟩ := Option.bind_eq_some_iff.mp h
    obtain ⟨es', h2, h⟩ := Option.bind_eq_some_iff.mp h
    cases h
    unfold evs
    rw [hf _ _ _ h1, bind_ok, pvs_ok h2]; rfl
theorem pos1 {e : E} {d : D} (h : po f e s = some d) : ∃ o, opds g [e] s = .ok [o] s ∧ looks s [o] = some [d] := by
  obtain ⟨os, h1, h2⟩ := pos_ok (es := [e]) hf (ds := [d]) (by unfold pos; rw [h]; rfl)
  cases os with
  | nil => cases h2
  | cons o os =>
    cases os with
    | nil => exact ⟨o, h1, h2⟩
    | cons o2 os =>
      exfalso
      rw [looks_cons, looks_cons] at h2
      split at h2
      · rename_i e1 e2
        cases h2
        split at e2 <;> cases e2
      · cases h2
theorem pit_ok {it : E} {q : List D × Option Nat} (h : pit f it s = some q) : iters g it s = .ok q s := by
  unfold pit at h
  split at h
  · obtain ⟨v, h1, h⟩ := Option.bind_eq_some_iff.mp h
    obtain ⟨i, h2, h⟩ := Option.bind_eq_some_iff.mp h
    rw [intV_ok h2] at h1
    simp [hf _ _ _ h1, h]
  · obtain ⟨v, h1, h⟩ := Option.bind_eq_some_iff.mp h
    obtain ⟨i, h2, h⟩ := Option.bind_eq_some_iff.mp h
    obtain ⟨w, h3, h⟩ := Option.bind_eq_some_iff.mp h
    obtain ⟨j, h4, h⟩ := Option.bind_eq_some_iff.mp h
    rw [intV_ok h2] at h1
    rw [intV_ok h4] at h3
    simp [hf _ _ _ h1, hf _ _ _ h3, h]
  · obtain ⟨ds, h1, h⟩ := Option.bind_eq_some_iff.mp h
    obtain ⟨os, h2, h3⟩ := pos_ok hf h1
    split at h
    · cases h
      rw [iters_zip, h2, bind_ok, h3]
    · cases h
  · split at h
    · rename_i d e
      simp [e, h]
    · rename_i d e
      simp [e, h]
    · cases h
  · rename_i h1 h2 h3 h4
    obtain ⟨v, h5, h⟩ := Option.bind_eq_some_iff.mp h
    have : iters g it s = (g it s).bind fun v s => toR ((items v.d).map (·, none)) s := by
      unfold iters
      split
      · exact (h1 _ rfl).elim
      · exact (h2 _ _ rfl).elim
      · exact (h3 _ _ rfl).elim
      · exact (h4 _ rfl).elim
      · rfl
    rw [this, hf _ _ _ h5, bind_ok, h]; rfl
end
section
variable {C : CT} {s : S}
theorem getD_set_back {i : Nat} {d : Sl} (h : i < s.length) : (s.set i d).set i (s.getD i .un) = s := by
  refine ext_at fun j => ?_
  by_cases hj : i = j
  · subst hj
    rw [List.getElem?_set_self (by simpa using h), List.getElem?_eq_getElem h]
    simp [List.getD_eq_getElem?_getD, h]
  · rw [List.getElem?_set_ne hj, List.getElem?_set_ne hj]
theorem genP_ok {al : Bool} {i : Nat} {F : D → Option Bool} {e : S → R Bool} (hi : i < s.length) (hF : ∀ x b, F x = some b → e (s.set i (.dat x)) = .ok b (s.set i (.dat x))) : ∀ {xs : List D} {b : Bool} {w : Sl}, genP al F xs = some b → ∃ w', genL al i e xs (s.set i w) = .ok b (s.set i w')
  | [], b, w, h => by cases h; exact ⟨w, rfl⟩
  | x :: xs, b, w, h => by
    obtain ⟨k, h1, h⟩ := Option.bind_eq_some_iff.mp h
    rw [genL_cons, List.set_set, hF x k h1]
    dsimp only
    by_cases e1 : k = al
    · rw [if_pos e1] at h
      rw [if_pos (by simp [e1])]
      exact genP_ok hi hF h
    · rw [if_neg e1] at h
      cases h
      rw [if_neg (by simp [e1])]
      exact ⟨_, rfl⟩
theorem setTup_at (tg : List Nat) : ∀ (xs : List D) (s : S) (j : Nat), j ∉ tg → ((tg.zip xs).foldl (fun s p => s.set p.1 (.dat p.2)) s)[j]? = s[j]? := by
  induction tg with
  | nil => intro xs s j _; rfl
  | cons i is ih =>
    intro xs s j hj
    cases xs with
    | nil => rfl
    | cons x xs =>
      rw [List.zip_cons_cons, List.foldl_cons, ih _ _ _ (fun z => hj (List.mem_cons_of_mem _ z))]
      exact List.getElem?_set_ne fun z => hj (by have z : i = j := z; rw [z]; exact List.mem_cons_self)
theorem setTup_len (tg : List Nat) : ∀ (xs : List D) (s : S), ((tg.zip xs).foldl (fun s p => s.set p.1 (.dat p.2)) s).length = s.length := by
  induction tg with
  | nil => intro xs s; rfl
  | cons i is ih =>
    intro xs s
    cases xs with
    | nil => rfl
    | cons x xs => rw [List.zip_cons_cons, List.foldl_cons, ih, List.length_set]
theorem bind_at {tg : List Nat} {one : Bool} {x : D} {s1 : S} (h : bind tg one x s = some s1) : s1.length = s.length ∧ ∀ j : Nat, j ∉ tg → s1[j]? = s[j]? := by
  unfold bind at h
  split at h
  · split at h
    · cases h
      exact ⟨List.length_set, fun j hj => List.getElem?_set_ne fun z => hj (by rw [z]; exact List.mem_singleton_self _)⟩
    · cases h
  · split at h
    · split at h
      · cases h
        exact ⟨setTup_len _ _ _, fun j hj => setTup_at _ _ _ _ hj⟩
      · cases h
    · cases h
theorem wipe_bind {tg J : List Nat} {one : Bool} {x : D} {s1 : S} (hJ : ∀ i ∈ tg, i ∈ J) (h : bind tg one x (wipe J s) = some s1) : wipe tg s1 = wipe J s := by
  obtain ⟨h1, h2⟩ := bind_at h
  refine ext_at fun j => ?_
  rw [wipe_at]
  by_cases hj : j ∈ tg
  · rw [if_pos hj, wipe_at, if_pos (hJ j hj)]
    rw [wipe_len] at h1
    by_cases hl : j < s.length
    · rw [List.getElem?_eq_getElem hl, List.getElem?_eq_getElem (by omega)]; rfl
    · rw [List.getElem?_eq_none (by omega), List.getElem?_eq_none (by omega)]
  · rw [if_neg hj, h2 j hj]
theorem compP_ok {tg J : List Nat} {one : Bool} {c : S → R Bool} {e : S → R D} {c' : S → Option Bool} {e' : S → Option D} (hJ : ∀ i ∈ tg, i ∈ J) (hc : ∀ s b, c' s = some b → c s = .ok b s) (he : ∀ s d, e' s = some d → e s = .ok d s) : ∀ {xs : List D} {ds : List D} {s0 : S}, compP (pitem tg one c' e' (wipe J s)) xs = some ds → wipe tg s0 = wipe J s → ∃ s1, compL tg one c e tg xs s0 = .ok ds s1 ∧ wipe tg s1 = wipe J s
  | [], ds, s0, h, h0 => by cases h; exact ⟨s0, rfl, h0⟩
  | x :: xs, ds, s0, h, h0 => by
    obtain ⟨o, h1, h⟩ := Option.bind_eq_some_iff.mp h
    obtain ⟨s1, h2, h1⟩ := Option.bind_eq_some_iff.mp h1
    obtain ⟨b, h3, h1⟩ := Option.bind_eq_some_iff.mp h1
    have hw := wipe_bind hJ h2
    unfold compL
    rw [h0, h2]
    dsimp only
    rw [hc _ _ h3]
    cases b with
    | true =>
      rw [if_pos rfl] at h1
      obtain ⟨d, h4, rfl⟩ := Option.map_eq_some_iff.mp h1
      obtain ⟨es, h5, rfl⟩ := Option.map_eq_some_iff.mp h
      obtain ⟨s2, h6, h7⟩ := compP_ok hJ hc he h5 hw
      refine ⟨s2, ?_, h7⟩
      dsimp only
      rw [he _ _ h4]
      dsimp only
      rw [h6]
    | false =>
      rw [if_neg Bool.false_ne_true] at h1
      cases h1
      obtain ⟨s2, h6, h7⟩ := compP_ok hJ hc he h hw
      exact ⟨s2, h6, h7⟩
theorem comp_fin {own : List Nat} {one : Bool} {c : S → R Bool} {e : S → R D} {c' : S → Option Bool} {e' : S → Option D} {q : List D × Option Nat} {ds : List D} (hl : q.1.length ≤ lim) (hc : ∀ s b, c' s = some b → c s = .ok b s) (he : ∀ s d, e' s = some d → e s = .ok d s)
    (h : compP (pitem own one c' e' (wipe (own ++ shutI q.2) s)) q.1 = some ds) : compR own one c e own q s = .ok (.fr (.list ds)) s := by
  obtain ⟨s1, h3, h4⟩ := compP_ok (J := own ++ shutI q.2) (s0 := wipe (own ++ shutI q.2) s) (fun i hi => List.mem_append_left _ hi) hc he h (wipe_wipe (fun i hi => List.mem_append_left _ hi) s)
  unfold compR
  rw [if_pos hl, h3]
  show R.ok _ _ = R.ok _ _
  congr 1
  have hlen : s1.length = s.length := by rw [← wipe_len own s1, h4, wipe_len]
  refine unwipe_back (fun j hj => ?_) hlen
  have : (wipe own s1)[j]? = (wipe (own ++ shutI q.2) s)[j]? := by rw [h4]
  rw [wipe_at, if_neg (fun z => hj (List.mem_append_left _ z)), wipe_at, if_neg hj] at this
  exact this
end
theorem pv_ok (C : CT) : ∀ (n : Nat) (e : E) (s : S) (v : Vl), pv C n e s = some v → ev C n e s = .ok v s
  | 0, e, s, v, h => by cases h
  | n + 1, e, s, v, h => by
    have hf := pv_ok C n
    cases e with
    | lit d => cases h; rfl
    | gint d => cases h; rfl
    | var i =>
      unfold pv at h
      dsimp only at h
      split at h
      · rename_i d e
        cases h
        simp [e]
      · cases h
    | fz a =>
      obtain ⟨w, h1, rfl⟩ := Option.map_eq_some_iff.mp h
      simp [hf _ _ _ h1]
    | tup es =>
      obtain ⟨ds, h1, rfl⟩ := Option.map_eq_some_iff.mp h
      simp [pvs_ok hf h1]
    | lst es =>
      obtain ⟨ds, h1, rfl⟩ := Option.map_eq_some_iff.mp h
      simp [pvs_ok hf h1]
    | bin op a b =>
      obtain ⟨x, h1, h⟩ := Option.bind_eq_some_iff.mp h
      obtain ⟨y, h2, h⟩ := Option.bind_eq_some_iff.mp h
      obtain ⟨os, h3, h4⟩ := pos_ok (s := s) (es := [a, b]) hf (ds := [x, y]) (by simp [pos, h1, h2])
      rw [ev_bin, withO_eq, h3, bind_ok, h4]
      simp only [h, toR_some]
    | neg a =>
      obtain ⟨x, h1, h⟩ := Option.bind_eq_some_iff.mp h
      obtain ⟨o, h3, h4⟩ := pos1 hf h1
      rw [ev_neg, withO_eq, h3, bind_ok, h4]
      split at h
      · cases h; rfl
      · cases h
    | not a =>
      obtain ⟨x, h1, h⟩ := Option.bind_eq_some_iff.mp h
      obtain ⟨b, h2, rfl⟩ := Option.map_eq_some_iff.mp h
      rw [boolV_ok h2] at h1
      simp [hf _ _ _ h1]
    | cmp op a b =>
      obtain ⟨x, h1, h⟩ := Option.bind_eq_some_iff.mp h
      obtain ⟨y, h2, h⟩ := Option.bind_eq_some_iff.mp h
      obtain ⟨os, h3, h4⟩ := pos_ok (s := s) (es := [a, b]) hf (ds := [x, y]) (by simp [pos, h1, h2])
      rw [ev_cmp, withO_eq, h3, bind_ok, h4]
      simp only [h, toR_some]
    | isN a =>
      obtain ⟨x, h1, h⟩ := Option.bind_eq_some_iff.mp h
      obtain ⟨o, h3, h4⟩ := pos1 hf h1
      rw [ev_isN, withO_eq, h3, bind_ok, h4]
      cases h
      cases x <;> rfl
    | notN a =>
      obtain ⟨x, h1, h⟩ := Option.bind_eq_some_iff.mp h
      obtain ⟨o, h3, h4⟩ := pos1 hf h1
      rw [ev_notN, withO_eq, h3, bind_ok, h4]
      cases h
      cases x <;> rfl
    | ch2 o1 o2 a b c =>
      obtain ⟨x, h1, h⟩ := Option.bind_eq_some_iff.mp h
      obtain ⟨y, h2, h⟩ := Option.bind_eq_some_iff.mp h
      obtain ⟨k, h3, h⟩ := Option.bind_eq_some_iff.mp h
      rw [ev_ch2, hf _ _ _ h1, bind_ok, hf _ _ _ h2, bind_ok, h3]
      cases k with
      | true =>
        rw [if_pos rfl] at h
        obtain ⟨z, h4, h⟩ := Option.bind_eq_some_iff.mp h
        dsimp only
        rw [hf _ _ _ h4, bind_ok, h]; rfl
      | false =>
        rw [if_neg Bool.false_ne_true] at h
        cases h; rfl
    | ch3 o1 o2 o3 a b c d =>
      obtain ⟨x, h1, h⟩ := Option.bind_eq_some_iff.mp h
      obtain ⟨y, h2, h⟩ := Option.bind_eq_some_iff.mp h
      obtain ⟨k, h3, h⟩ := Option.bind_eq_some_iff.mp h
      rw [ev_ch3, hf _ _ _ h1, bind_ok, hf _ _ _ h2, bind_ok, h3]
      cases k with
      | true =>
        rw [if_pos rfl] at h
        obtain ⟨z, h4, h⟩ := Option.bind_eq_some_iff.mp h
        obtain ⟨k, h5, h⟩ := Option.bind_eq_some_iff.mp h
        dsimp only
        rw [hf _ _ _ h4, bind_ok, h5]
        cases k with
        | true =>
          rw [if_pos rfl] at h
          obtain ⟨u, h6, h⟩ := Option.bind_eq_some_iff.mp h
          dsimp only
          rw [hf _ _ _ h6, bind_ok, h]; rfl
        | false =>
          rw [if_neg Bool.false_ne_true] at h
          cases h; rfl
      | false =>
        rw [if_neg Bool.false_ne_true] at h
        cases h; rfl
    | and a b =>
      obtain ⟨x, h1, h⟩ := Option.bind_eq_some_iff.mp h
      obtain ⟨k, h2, h⟩ := Option.bind_eq_some_iff.mp h
      rw [boolV_ok h2] at h1
      rw [ev_and, hf _ _ _ h1, tst_b, bind_ok]
      cases k with
      | true =>
        rw [if_pos rfl] at h
        obtain ⟨y, h3, h⟩ := Option.bind_eq_some_iff.mp h
        obtain ⟨k, h4, rfl⟩ := Option.map_eq_some_iff.mp h
        rw [boolV_ok h4] at h3
        simp [hf _ _ _ h3]
      | false =>
        rw [if_neg Bool.false_ne_true] at h
        cases h; rfl
    | or a b =>
      obtain ⟨x, h1, h⟩ := Option.bind_eq_some_iff.mp h
      obtain ⟨k, h2, h⟩ := Option.bind_eq_some_iff.mp h
      rw [boolV_ok h2] at h1
      rw [ev_or, hf _ _ _ h1, tst_b, bind_ok]
      cases k with
      | true =>
        rw [if_pos rfl] at h
        cases h; rfl
      | false =>
        rw [if_neg Bool.false_ne_true] at h
        obtain ⟨y, h3, h⟩ := Option.bind_eq_some_iff.mp h
        obtain ⟨k, h4, rfl⟩ := Option.map_eq_some_iff.mp h
        rw [boolV_ok h4] at h3
        simp [hf _ _ _ h3]
    | ife t a b =>
      obtain ⟨x, h1, h⟩ := Option.bind_eq_some_iff.mp h
      obtain ⟨k, h2, h⟩ := Option.bind_eq_some_iff.mp h
      rw [boolV_ok h2] at h1
      rw [ev_ife, hf _ _ _ h1, tst_b, bind_ok]
      cases k with
      | true => exact hf _ _ _ (by rwa [if_pos rfl] at h)
      | false => exact hf _ _ _ (by rwa [if_neg Bool.false_ne_true] at h)
    | idx a i =>
      obtain ⟨x, h1, h⟩ := Option.bind_eq_some_iff.mp h
      obtain ⟨y, h2, h⟩ := Option.bind_eq_some_iff.mp h
      obtain ⟨os, h3, h4⟩ := posS_ok (s := s) (es := [a, i]) hf (ds := [x, y]) (by simp [posS, h1, h2])
      rw [ev_idx, withS_eq, h3, bind_ok, h4]
      simp only [h, toR_some]
    | slc a lo hi =>
      obtain ⟨x, h1, h⟩ := Option.bind_eq_some_iff.mp h
      obtain ⟨l, h2, h⟩ := Option.bind_eq_some_iff.mp h
      obtain ⟨u, h3, h⟩ := Option.bind_eq_some_iff.mp h
      obtain ⟨os, h4, h5⟩ := posS_ok (s := s) (es := [a]) hf (ds := [x]) (by simp [posS, h1])
      rw [ev_slc]
      have e1 : opds (ev C n) [a] s = .ok os s := h4
      rw [e1, bind_ok]
      have opt : ∀ (e : E) (l : Option Int), ((pv C n e s).bind fun v => (intV v).map some) = some l → ∃ i, l = some i ∧ ev C n e s = .ok (.dat (.int i)) s := fun e l h => by
        obtain ⟨v, h6, h7⟩ := Option.bind_eq_some_iff.mp h
        obtain ⟨i, h8, rfl⟩ := Option.map_eq_some_iff.mp h7
        rw [intV_ok h8] at h6
        exact ⟨i, rfl, hf _ _ _ h6⟩
      cases lo with
      | none =>
        cases h2
        cases hi with
        | none => cases h3; simp only [bind_ok, h5, h, toR_some]
        | some e2 =>
          obtain ⟨j, rfl, q2⟩ := opt e2 _ h3
          simp only [q2, bind_ok, h5, h, toR_some]
      | some e1 =>
        obtain ⟨i, rfl, q1⟩ := opt e1 _ h2
        cases hi with
        | none => cases h3; simp only [q1, bind_ok, h5, h, toR_some]
        | some e2 =>
          obtain ⟨j, rfl, q2⟩ := opt e2 _ h3
          simp only [q1, q2, bind_ok, h5, h, toR_some]
    | rev a =>
      obtain ⟨x, h1, h⟩ := Option.bind_eq_some_iff.mp h
      obtain ⟨o, h3, h4⟩ := pos1 hf h1
      rw [ev_rev, withO_eq, h3, bind_ok, h4]
      split at h
      · cases h; rfl
      · cases h
    | call f es k =>
      obtain ⟨as, h1, h⟩ := Option.bind_eq_some_iff.mp h
      obtain ⟨os, h2, h3, h4, h5⟩ := pas_ok hf h1
      rw [ev_call, h2, bind_ok, doCall_eq, h3]
      dsimp only
      rw [h4, if_pos List.nodup_nil]
      unfold pcall at h
      split at h
      · rename_i v bs e
        split at h
        · rename_i hl
          cases h
          rw [e]
          dsimp only
          rw [h5 bs hl]
        · cases h
      · cases h
    | prim p es =>
      have gen : (pos (pv C n) es s).bind (prim p) = some v → withO (ev C n) es s (prim p) = .ok v s := fun h => by
        obtain ⟨ds, h1, h⟩ := Option.bind_eq_some_iff.mp h
        obtain ⟨os, h2, h3⟩ := pos_ok hf h1
        rw [withO_eq, h2, bind_ok, h3]
        simp only [h, toR_some]
      cases p with
      | len =>
        obtain ⟨ds, h1, h⟩ := Option.bind_eq_some_iff.mp h
        obtain ⟨os, h2, h3⟩ := posS_ok hf h1
        rw [ev_prim_len, withS_eq, h2, bind_ok, h3]
        simp only [h, toR_some]
      | _ => exact gen h
    | isi a t =>
      obtain ⟨x, h1, h⟩ := Option.bind_eq_some_iff.mp h
      obtain ⟨o, h3, h4⟩ := pos1 hf h1
      rw [ev_isi, withO_eq, h3, bind_ok, h4]
      cases h; rfl
    | comp tg one it c e own =>
      obtain ⟨q, h1, h⟩ := Option.bind_eq_some_iff.mp h
      split at h
      · rename_i hq
        obtain ⟨hl, rfl⟩ := hq
        obtain ⟨ds, h2, rfl⟩ := Option.map_eq_some_iff.mp h
        rw [ev_comp, pit_ok hf h1, bind_ok]
        cases c with
        | none => exact comp_fin hl (fun s b h => by cases h; rfl) (fun s d h => by
            obtain ⟨v, h5, rfl⟩ := Option.map_eq_some_iff.mp h
            simp [hf _ _ _ h5]) h2
        | some c => exact comp_fin hl (fun s b h => by
            obtain ⟨v, h5, h6⟩ := Option.bind_eq_some_iff.mp h
            rw [boolV_ok h6] at h5
            simp [hf _ _ _ h5]) (fun s d h => by
            obtain ⟨v, h5, rfl⟩ := Option.map_eq_some_iff.mp h
            simp [hf _ _ _ h5]) h2
      · cases h
    | gen al i it e =>
      obtain ⟨q, h1, h⟩ := Option.bind_eq_some_iff.mp h
      split at h
      · rename_i hq
        obtain ⟨hq2, hi⟩ := hq
        obtain ⟨b, h2, rfl⟩ := Option.map_eq_some_iff.mp h
        rw [ev_gen, pit_ok hf h1, bind_ok, hq2]
        dsimp only
        obtain ⟨w, h3⟩ := genP_ok (e := fun s => tst (ev C n e s)) (w := s[i]) hi (fun x b h => by
          obtain ⟨v, h5, h6⟩ := Option.bind_eq_some_iff.mp h
          rw [boolV_ok h6] at h5
          simp [hf _ _ _ h5]) h2
        rw [List.set_getElem_self] at h3
        rw [h3, bind_ok, getD_set_back hi]
      · cases h
    | index i x =>
      unfold pv at h
      dsimp only at h
      split at h
      · rename_i xs e
        obtain ⟨v, h1, h⟩ := Option.bind_eq_some_iff.mp h
        rw [ev_index, e]
        dsimp only
        rw [hf _ _ _ h1, bind_ok, h]; rfl
      · rename_i xs e
        obtain ⟨v, h1, h⟩ := Option.bind_eq_some_iff.mp h
        rw [ev_index, e]
        dsimp only
        rw [hf _ _ _ h1, bind_ok, h]; rfl
      · cases h
    | din neg a b =>
      obtain ⟨x, h1, h⟩ := Option.bind_eq_some_iff.mp h
      obtain ⟨y, h2, h⟩ := Option.bind_eq_some_iff.mp h
      obtain ⟨os, h3, h4⟩ := pos_ok (s := s) (es := [a, b]) hf (ds := [x, y]) (by simp [pos, h1, h2])
      rw [ev_din, withO_eq, h3, bind_ok, h4]
      simp only [h, toR_some]
    | didx a b =>
      obtain ⟨x, h1, h⟩ := Option.bind_eq_some_iff.mp h
      obtain ⟨y, h2, h⟩ := Option.bind_eq_some_iff.mp h
      obtain ⟨os, h3, h4⟩ := pos_ok (s := s) (es := [a, b]) hf (ds := [x, y]) (by simp [pos, h1, h2])
      rw [ev_didx, withO_eq, h3, bind_ok, h4]
      simp only [h, toR_some]
    | sortd a =>
      obtain ⟨x, h1, h⟩ := Option.bind_eq_some_iff.mp h
      obtain ⟨o, h3, h4⟩ := pos1 hf h1
      rw [ev_sortd, withO_eq, h3, bind_ok, h4]
      simp only [h, toR_some]
    | get a b c =>
      obtain ⟨x, h1, h⟩ := Option.bind_eq_some_iff.mp h
      obtain ⟨y, h2, h⟩ := Option.bind_eq_some_iff.mp h
      obtain ⟨z, h5, h⟩ := Option.bind_eq_some_iff.mp h
      obtain ⟨os, h3, h4⟩ := pos_ok (s := s) (es := [a, b, c]) hf (ds := [x, y, z]) (by simp [pos, h1, h2, h5])
      rw [ev_get, withO_eq, h3, bind_ok, h4]
      simp only [h, toR_some]
    | lrng lo hi =>
      obtain ⟨x, h1, h⟩ := Option.bind_eq_some_iff.mp h
      obtain ⟨l, h2, h⟩ := Option.bind_eq_some_iff.mp h
      obtain ⟨y, h3, h⟩ := Option.bind_eq_some_iff.mp h
      obtain ⟨u, h4, h⟩ := Option.bind_eq_some_iff.mp h
      rw [intV_ok h2] at h1
      rw [intV_ok h4] at h3
      simp [hf _ _ _ h1, hf _ _ _ h3, h]
    | _ => cases h
end Fs
set_option linter.all false
set_option maxRecDepth 10000
namespace Fs
open PySem
section
variable {α β : Type} {C : CT} {n : Nat} {s : S} {f : PF}
@[irreducible] def evX (C : CT) (n : Nat) (e : E) (s : S) : R Vl := ev C n e s
def orV (o : Option Vl) (r : R Vl) (s : S) : R Vl := match o with
  | some v => .ok v s
  | none => r
@[simp] theorem orV_some (v : Vl) (r : R Vl) : orV (some v) r s = .ok v s := rfl
theorem ev_via (C : CT) (n : Nat) (e : E) (s : S) : ev C n e s = orV (pv C n e s) (evX C n e s) s := by
  cases h : pv C n e s with
  | none => unfold evX; rfl
  | some v => exact pv_ok C n e s v h
@[simp] theorem ev_comp_via (tg : List Nat) (one : Bool) (it : E) (c : Option E) (e : E) (own : List Nat) : ev C (n + 1) (.comp tg one it c e own) s = orV (pv C (n + 1) (.comp tg one it c e own) s) (evX C (n + 1) (.comp tg one it c e own) s) s := ev_via _ _ _ _
@[simp] theorem ev_gen_via (al : Bool) (i : Nat) (it e : E) : ev C (n + 1) (.gen al i it e) s = orV (pv C (n + 1) (.gen al i it e) s) (evX C (n + 1) (.gen al i it e) s) s := ev_via _ _ _ _
@[simp] theorem lookV_eq (i : Nat) : lookV s i = (match s[i]? with
  | some (.dat d) => some d
  | some (.mu _ d) => some d
  | _ => none) := rfl
@[simp] theorem lookVS_eq (i : Nat) : lookVS s i = (match s[i]? with
  | some (.dat d) => some d
  | some (.mu _ d) => some d
  | some (.scr ns) => some (.list (ns.map .int))
  | _ => none) := rfl
@[simp] theorem argV_eq (i : Nat) : argV s i = (match s[i]? with
  | some (.dat d) => some (.dat d)
  | some (.scr ns) => some (.scr ns)
  | _ => none) := rfl
@[simp] theorem pos_nil : pos f [] s = some [] := rfl
@[simp] theorem pos_cons (e : E) (es : List E) : pos f (e :: es) s = (po f e s).bind fun d => (pos f es s).bind fun ds => some (d :: ds) := rfl
@[simp] theorem posS_nil : posS f [] s = some [] := rfl
@[simp] theorem posS_cons (e : E) (es : List E) : posS f (e :: es) s = (poS f e s).bind fun d => (posS f es s).bind fun ds => some (d :: ds) := rfl
@[simp] theorem pas_nil : pas f [] s = some [] := rfl
@[simp] theorem pas_cons (e : E) (es : List E) : pas f (e :: es) s = (pa f e s).bind fun d => (pas f es s).bind fun ds => some (d :: ds) := rfl
@[simp] theorem pvs_nil : pvs f [] s = some [] := rfl
@[simp] theorem pvs_cons (e : E) (es : List E) : pvs f (e :: es) s = (f e s).bind fun v => (pvs f es s).bind fun ds => some (v.d :: ds) := rfl
@[simp] theorem boolV_b (b : Bool) : boolV (.dat (.bool b)) = some b := rfl
@[simp] theorem intV_i (i : Int) : intV (.dat (.int i)) = some i := rfl
@[simp] theorem pcall_eq (i : Nat) (as : List Sl) : pcall C i as = (match C i as with
  | .ok v bs => if bs.length = as.length then some v else none
  | _ => none) := rfl
@[simp] theorem bind_one (i : Nat) (x : D) : bind [i] true x s = some (s.set i (.dat x)) := rfl
@[simp] theorem bind_two (i j : Nat) (x y : D) : bind [i, j] false (.tuple [x, y]) s = some ((s.set i (.dat x)).set j (.dat y)) := rfl
@[simp] theorem bind_three (i j k : Nat) (x y z : D) : bind [i, j, k] false (.tuple [x, y, z]) s = some (((s.set i (.dat x)).set j (.dat y)).set k (.dat z)) := rfl
@[simp] theorem bind_four (i j k l : Nat) (x y z w : D) : bind [i, j, k, l] false (.tuple [x, y, z, w]) s = some ((((s.set i (.dat x)).set j (.dat y)).set k (.dat z)).set l (.dat w)) := rfl
@[simp] theorem pitem_eq (tg : List Nat) (one : Bool) (c : S → Option Bool) (e : S → Option D) (W : S) (x : D) : pitem tg one c e W x = (bind tg one x W).bind fun s1 => (c s1).bind fun b => if b = true then (e s1).map some else some none := rfl
@[simp] theorem shutI_none : shutI none = [] := rfl
@[simp] theorem shutI_some (i : Nat) : shutI (some i) = [i] := rfl
@[simp] theorem compP_nil (F : α → Option (Option D)) : compP F [] = some [] := rfl
@[simp] theorem compP_cons (F : α → Option (Option D)) (x : α) (xs : List α) : compP F (x :: xs) = (F x).bind fun o => (match o with
    | none => compP F xs
    | some d => (compP F xs).map (d :: ·)) := rfl
@[simp] theorem genP_nil (al : Bool) (F : α → Option Bool) : genP al F [] = some al := rfl
@[simp] theorem genP_cons (al : Bool) (F : α → Option Bool) (x : α) (xs : List α) : genP al F (x :: xs) = (F x).bind fun b => if b = al then genP al F xs else some b := rfl
@[simp] theorem compP_map (F : β → Option (Option D)) (enc : α → β) : ∀ as : List α, compP F (as.map enc) = compP (fun a => F (enc a)) as
  | [] => rfl
  | a :: as => by
    rw [List.map_cons, compP_cons, compP_cons, compP_map F enc as]
@[simp] theorem genP_map (al : Bool) (F : β → Option Bool) (enc : α → β) : ∀ as : List α, genP al F (as.map enc) = genP al (fun a => F (enc a)) as
  | [] => rfl
  | a :: as => by
    rw [List.map_cons, genP_cons, genP_cons, genP_map al F enc as]
theorem compP_cong {F G : α → Option (Option D)} : ∀ {as : List α}, (∀ a ∈ as, F a = G a) → compP F as = compP G as
  | [], _ => rfl
  | a :: as, h => by
    rw [compP_cons, compP_cons, h a List.mem_cons_self, compP_cong fun b hb => h b (List.mem_cons_of_mem _ hb)]
theorem genP_cong {al : Bool} {F G : α → Option Bool} : ∀ {as : List α}, (∀ a ∈ as, F a = G a) → genP al F as = genP al G as
  | [], _ => rfl
  | a :: as, h => by
    rw [genP_cons, genP_cons, h a List.mem_cons_self, genP_cong fun b hb => h b (List.mem_cons_of_mem _ hb)]
@[simp] theorem compP_some (g : α → D) : ∀ as : List α, compP (fun a => some (some (g a))) as = some (as.map g)
  | [] => rfl
  | a :: as => by rw [compP_cons, compP_some g as]; rfl
@[simp] theorem compP_ite (p : α → Prop) [DecidablePred p] (g : α → D) : ∀ as : List α, compP (fun a => if p a then some (some (g a)) else some none) as = some ((as.filter fun a => decide (p a)).map g)
  | [] => rfl
  | a :: as => by
    rw [compP_cons, compP_ite p g as]
    by_cases h : p a <;> simp [h]
/-- .. where each item tells what it gives -/
theorem compP_run {F : α → Option (Option D)} (p : α → Bool) (g : α → D) {as : List α} (h : ∀ a ∈ as, F a = some (if p a = true then some (g a) else none)) : compP F as = some ((as.filter p).map g) := by
  rw [compP_cong h]
  have := compP_ite (fun a => p a = true) g as
  simp only [Bool.decide_eq_true] at this
  rw [← this]
  exact compP_cong fun a _ => by cases p a <;> rfl
theorem compP_all {F : α → Option (Option D)} (g : α → D) {as : List α} (h : ∀ a ∈ as, F a = some (some (g a))) : compP F as = some (as.map g) := by
  rw [compP_cong h, compP_some]
@[simp] theorem genP_all (p : α → Bool) : ∀ as : List α, genP true (fun a => some (p a)) as = some (as.all p)
  | [] => rfl
  | a :: as => by
    rw [genP_cons, genP_all p as]
    cases h : p a <;> simp [h]
@[simp] theorem genP_any (p : α → Bool) : ∀ as : List α, genP false (fun a => some (p a)) as = some (as.any p)
  | [] => rfl
  | a :: as => by
    rw [genP_cons, genP_any p as]
    cases h : p a <;> simp [h]
theorem genP_run {al : Bool} {F : α → Option Bool} (p : α → Bool) {as : List α} (h : ∀ a ∈ as, F a = some (p a)) : genP al F as = some (if al = true then as.all p else as.any p) := by
  rw [genP_cong h]
  cases al <;> simp
@[simp] theorem po_lit (d : D) : po f (.lit d) s = (f (.lit d) s).map Vl.d := rfl
@[simp] theorem poS_lit (d : D) : poS f (.lit d) s = (f (.lit d) s).map Vl.d := rfl
@[simp] theorem pa_lit (d : D) : pa f (.lit d) s = (f (.lit d) s).map Vl.sl := rfl
@[simp] theorem pit_lit (d : D) : pit f (.lit d) s = (f (.lit d) s).bind fun v => (items v.d).map (·, none) := rfl
@[simp] theorem po_gint (i : Int) : po f (.gint i) s = (f (.gint i) s).map Vl.d := rfl
@[simp] theorem poS_gint (i : Int) : poS f (.gint i) s = (f (.gint i) s).map Vl.d := rfl
@[simp] theorem pa_gint (i : Int) : pa f (.gint i) s = (f (.gint i) s).map Vl.sl := rfl
@[simp] theorem pit_gint (i : Int) : pit f (.gint i) s = (f (.gint i) s).bind fun v => (items v.d).map (·, none) := rfl
@[simp] theorem po_var (i : Nat) : po f (.var i) s = (f (.var i) s).map Vl.d := rfl
@[simp] theorem poS_var (i : Nat) : poS f (.var i) s = (f (.var i) s).map Vl.d := rfl
@[simp] theorem pa_var (i : Nat) : pa f (.var i) s = (f (.var i) s).map Vl.sl := rfl
@[simp] theorem pit_var (i : Nat) : pit f (.var i) s = (f (.var i) s).bind fun v => (items v.d).map (·, none) := rfl
@[simp] theorem po_take (i : Nat) : po f (.take i) s = (f (.take i) s).map Vl.d := rfl
@[simp] theorem poS_take (i : Nat) : poS f (.take i) s = (f (.take i) s).map Vl.d := rfl
@[simp] theorem pa_take (i : Nat) : pa f (.take i) s = (f (.take i) s).map Vl.sl := rfl
@[simp] theorem pit_take (i : Nat) : pit f (.take i) s = (f (.take i) s).bind fun v => (items v.d).map (·, none) := rfl
@[simp] theorem po_tup (es : List E) : po f (.tup es) s = (f (.tup es) s).map Vl.d := rfl
@[simp] theorem poS_tup (es : List E) : poS f (.tup es) s = (f (.tup es) s).map Vl.d := rfl
@[simp] theorem pa_tup (es : List E) : pa f (.tup es) s = (f (.tup es) s).map Vl.sl := rfl
@[simp] theorem pit_tup (es : List E) : pit f (.tup es) s = (f (.tup es) s).bind fun v => (items v.d).map (·, none) := rfl
@[simp] theorem po_lst (es : List E) : po f (.lst es) s = (f (.lst es) s).map Vl.d := rfl
@[simp] theorem poS_lst (es : List E) : poS f (.lst es) s = (f (.lst es) s).map Vl.d := rfl
@[simp] theorem pa_lst (es : List E) : pa f (.lst es) s = (f (.lst es) s).map Vl.sl := rfl
@[simp] theorem pit_lst (es : List E) : pit f (.lst es) s = (f (.lst es) s).bind fun v => (items v.d).map (·, none) := rfl
@[simp] theorem po_bin (op : BOp) (a b : E) : po f (.bin op a b) s = (f (.bin op a b) s).map Vl.d := rfl
@[simp] theorem poS_bin (op : BOp) (a b : E) : poS f (.bin op a b) s = (f (.bin op a b) s).map Vl.d := rfl
@[simp] theorem pa_bin (op : BOp) (a b : E) : pa f (.bin op a b) s = (f (.bin op a b) s).map Vl.sl := rfl
@[simp] theorem pit_bin (op : BOp) (a b : E) : pit f (.bin op a b) s = (f (.bin op a b) s).bind fun v => (items v.d).map (·, none) := rfl
@[simp] theorem po_neg (a : E) : po f (.neg a) s = (f (.neg a) s).map Vl.d := rfl
@[simp] theorem poS_neg (a : E) : poS f (.neg a) s = (f (.neg a) s).map Vl.d := rfl
@[simp] theorem pa_neg (a : E) : pa f (.neg a) s = (f (.neg a) s).map Vl.sl := rfl
@[simp] theorem pit_neg (a : E) : pit f (.neg a) s = (f (.neg a) s).bind fun v => (items v.d).map (·, none) := rfl
@[simp] theorem po_not (a : E) : po f (.not a) s = (f (.not a) s).map Vl.d := rfl
@[simp] theorem poS_not (a : E) : poS f (.not a) s = (f (.not a) s).map Vl.d := rfl
@[simp] theorem pa_not (a : E) : pa f (.not a) s = (f (.not a) s).map Vl.sl := rfl
@[simp] theorem pit_not (a : E) : pit f (.not a) s = (f (.not a) s).bind fun v => (items v.d).map (·, none) := rfl
@[simp] theorem po_cmp (op : COp) (a b : E) : po f (.cmp op a b) s = (f (.cmp op a b) s).map Vl.d := rfl
@[simp] theorem poS_cmp (op : COp) (a b : E) : poS f (.cmp op a b) s = (f (.cmp op a b) s).map Vl.d := rfl
@[simp] theorem pa_cmp (op : COp) (a b : E) : pa f (.cmp op a b) s = (f (.cmp op a b) s).map Vl.sl := rfl
@[simp] theorem pit_cmp (op : COp) (a b : E) : pit f (.cmp op a b) s = (f (.cmp op a b) s).bind fun v => (items v.d).map (·, none) := rfl
@[simp] theorem po_isN (a : E) : po f (.isN a) s = (f (.isN a) s).map Vl.d := rfl
@[simp] theorem poS_isN (a : E) : poS f (.isN a) s = (f (.isN a) s).map Vl.d := rfl
@[simp] theorem pa_isN (a : E) : pa f (.isN a) s = (f (.isN a) s).map Vl.sl := rfl
@[simp] theorem pit_isN (a : E) : pit f (.isN a) s = (f (.isN a) s).bind fun v => (items v.d).map (·, none) := rfl
@[simp] theorem po_notN (a : E) : po f (.notN a) s = (f (.notN a) s).map Vl.d := rfl
@[simp] theorem poS_notN (a : E) : poS f (.notN a) s = (f (.notN a) s).map Vl.d := rfl
@[simp] theorem pa_notN (a : E) : pa f (.notN a) s = (f (.notN a) s).map Vl.sl := rfl
@[simp] theorem pit_notN (a : E) : pit f (.notN a) s = (f (.notN a) s).bind fun v => (items v.d).map (·, none) := rfl
@[simp] theorem po_ch2 (o1 o2 : COp) (a b c : E) : po f (.ch2 o1 o2 a b c) s = (f (.ch2 o1 o2 a b c) s).map Vl.d := rfl
@[simp] theorem poS_ch2 (o1 o2 : COp) (a b c : E) : poS f (.ch2 o1 o2 a b c) s = (f (.ch2 o1 o2 a b c) s).map Vl.d := rfl
@[simp] theorem pa_ch2 (o1 o2 : COp) (a b c : E) : pa f (.ch2 o1 o2 a b c) s = (f (.ch2 o1 o2 a b c) s).map Vl.sl := rfl
@[simp] theorem pit_ch2 (o1 o2 : COp) (a b c : E) : pit f (.ch2 o1 o2 a b c) s = (f (.ch2 o1 o2 a b c) s).bind fun v => (items v.d).map (·, none) := rfl
@[simp] theorem po_ch3 (o1 o2 o3 : COp) (a b c d : E) : po f (.ch3 o1 o2 o3 a b c d) s = (f (.ch3 o1 o2 o3 a b c d) s).map Vl.d := rfl
@[simp] theorem poS_ch3 (o1 o2 o3 : COp) (a b c d : E) : poS f (.ch3 o1 o2 o3 a b c d) s = (f (.ch3 o1 o2 o3 a b c d) s).map Vl.d := rfl
@[simp] theorem pa_ch3 (o1 o2 o3 : COp) (a b c d : E) : pa f (.ch3 o1 o2 o3 a b c d) s = (f (.ch3 o1 o2 o3 a b c d) s).map Vl.sl := rfl
@[simp] theorem pit_ch3 (o1 o2 o3 : COp) (a b c d : E) : pit f (.ch3 o1 o2 o3 a b c d) s = (f (.ch3 o1 o2 o3 a b c d) s).bind fun v => (items v.d).map (·, none) := rfl
@[simp] theorem po_and (a b : E) : po f (.and a b) s = (f (.and a b) s).map Vl.d := rfl
@[simp] theorem poS_and (a b : E) : poS f (.and a b) s = (f (.and a b) s).map Vl.d := rfl
@[simp] theorem pa_and (a b : E) : pa f (.and a b) s = (f (.and a b) s).map Vl.sl := rfl
@[simp] theorem pit_and (a b : E) : pit f (.and a b) s = (f (.and a b) s).bind fun v => (items v.d).map (·, none) := rfl
@[simp] theorem po_or (a b : E) : po f (.or a b) s = (f (.or a b) s).map Vl.d := rfl
@[simp] theorem poS_or (a b : E) : poS f (.or a b) s = (f (.or a b) s).map Vl.d := rfl
@[simp] theorem pa_or (a b : E) : pa f (.or a b) s = (f (.or a b) s).map Vl.sl := rfl
@[simp] theorem pit_or (a b : E) : pit f (.or a b) s = (f (.or a b) s).bind fun v => (items v.d).map (·, none) := rfl
@[simp] theorem po_ife (t a b : E) : po f (.ife t a b) s = (f (.ife t a b) s).map Vl.d := rfl
@[simp] theorem poS_ife (t a b : E) : poS f (.ife t a b) s = (f (.ife t a b) s).map Vl.d := rfl
@[simp] theorem pa_ife (t a b : E) : pa f (.ife t a b) s = (f (.ife t a b) s).map Vl.sl := rfl
@[simp] theorem pit_ife (t a b : E) : pit f (.ife t a b) s = (f (.ife t a b) s).bind fun v => (items v.d).map (·, none) := rfl
@[simp] theorem po_idx (a i : E) : po f (.idx a i) s = (f (.idx a i) s).map Vl.d := rfl
@[simp] theorem poS_idx (a i : E) : poS f (.idx a i) s = (f (.idx a i) s).map Vl.d := rfl
@[simp] theorem pa_idx (a i : E) : pa f (.idx a i) s = (f (.idx a i) s).map Vl.sl := rfl
@[simp] theorem pit_idx (a i : E) : pit f (.idx a i) s = (f (.idx a i) s).bind fun v => (items v.d).map (·, none) := rfl
@[simp] theorem po_slc (a : E) (lo hi : Option E) : po f (.slc a lo hi) s = (f (.slc a lo hi) s).map Vl.d := rfl
@[simp] theorem poS_slc (a : E) (lo hi : Option E) : poS f (.slc a lo hi) s = (f (.slc a lo hi) s).map Vl.d := rfl
@[simp] theorem pa_slc (a : E) (lo hi : Option E) : pa f (.slc a lo hi) s = (f (.slc a lo hi) s).map Vl.sl := rfl
@[simp] theorem pit_slc (a : E) (lo hi : Option E) : pit f (.slc a lo hi) s = (f (.slc a lo hi) s).bind fun v => (items v.d).map (·, none) := rfl
@[simp] theorem po_rev (a : E) : po f (.rev a) s = (f (.rev a) s).map Vl.d := rfl
@[simp] theorem poS_rev (a : E) : poS f (.rev a) s = (f (.rev a) s).map Vl.d := rfl
@[simp] theorem pa_rev (a : E) : pa f (.rev a) s = (f (.rev a) s).map Vl.sl := rfl
@[simp] theorem pit_rev (a : E) : pit f (.rev a) s = (f (.rev a) s).bind fun v => (items v.d).map (·, none) := rfl
@[simp] theorem po_call (g : Nat) (es : List E) (k : Nat) : po f (.call g es k) s = (f (.call g es k) s).map Vl.d := rfl
@[simp] theorem poS_call (g : Nat) (es : List E) (k : Nat) : poS f (.call g es k) s = (f (.call g es k) s).map Vl.d := rfl
@[simp] theorem pa_call (g : Nat) (es : List E) (k : Nat) : pa f (.call g es k) s = (f (.call g es k) s).map Vl.sl := rfl
@[simp] theorem pit_call (g : Nat) (es : List E) (k : Nat) : pit f (.call g es k) s = (f (.call g es k) s).bind fun v => (items v.d).map (·, none) := rfl
@[simp] theorem po_prim (p : Pr) (es : List E) : po f (.prim p es) s = (f (.prim p es) s).map Vl.d := rfl
@[simp] theorem poS_prim (p : Pr) (es : List E) : poS f (.prim p es) s = (f (.prim p es) s).map Vl.d := rfl
@[simp] theorem pa_prim (p : Pr) (es : List E) : pa f (.prim p es) s = (f (.prim p es) s).map Vl.sl := rfl
@[simp] theorem pit_prim (p : Pr) (es : List E) : pit f (.prim p es) s = (f (.prim p es) s).bind fun v => (items v.d).map (·, none) := rfl
@[simp] theorem po_isi (a : E) (t : Ty) : po f (.isi a t) s = (f (.isi a t) s).map Vl.d := rfl
@[simp] theorem poS_isi (a : E) (t : Ty) : poS f (.isi a t) s = (f (.isi a t) s).map Vl.d := rfl
@[simp] theorem pa_isi (a : E) (t : Ty) : pa f (.isi a t) s = (f (.isi a t) s).map Vl.sl := rfl
@[simp] theorem pit_isi (a : E) (t : Ty) : pit f (.isi a t) s = (f (.isi a t) s).bind fun v => (items v.d).map (·, none) := rfl
@[simp] theorem po_comp (tg : List Nat) (one : Bool) (it : E) (c : Option E) (e : E) (own : List Nat) : po f (.comp tg one it c e own) s = (f (.comp tg one it c e own) s).map Vl.d := rfl
@[simp] theorem poS_comp (tg : List Nat) (one : Bool) (it : E) (c : Option E) (e : E) (own : List Nat) : poS f (.comp tg one it c e own) s = (f (.comp tg one it c e own) s).map Vl.d := rfl
@[simp] theorem pa_comp (tg : List Nat) (one : Bool) (it : E) (c : Option E) (e : E) (own : List Nat) : pa f (.comp tg one it c e own) s = (f (.comp tg one it c e own) s).map Vl.sl := rfl
@[simp] theorem pit_comp (tg : List Nat) (one : Bool) (it : E) (c : Option E) (e : E) (own : List Nat) : pit f (.comp tg one it c e own) s = (f (.comp tg one it c e own) s).bind fun v => (items v.d).map (·, none) := rfl
@[simp] theorem po_gen (al : Bool) (i : Nat) (it e : E) : po f (.gen al i it e) s = (f (.gen al i it e) s).map Vl.d := rfl
@[simp] theorem poS_gen (al : Bool) (i : Nat) (it e : E) : poS f (.gen al i it e) s = (f (.gen al i it e) s).map Vl.d := rfl
@[simp] theorem pa_gen (al : Bool) (i : Nat) (it e : E) : pa f (.gen al i it e) s = (f (.gen al i it e) s).map Vl.sl := rfl
@[simp] theorem pit_gen (al : Bool) (i : Nat) (it e : E) : pit f (.gen al i it e) s = (f (.gen al i it e) s).bind fun v => (items v.d).map (·, none) := rfl
@[simp] theorem po_refused (g : Nat) (e : E) : po f (.refused g e) s = (f (.refused g e) s).map Vl.d := rfl
@[simp] theorem poS_refused (g : Nat) (e : E) : poS f (.refused g e) s = (f (.refused g e) s).map Vl.d := rfl
@[simp] theorem pa_refused (g : Nat) (e : E) : pa f (.refused g e) s = (f (.refused g e) s).map Vl.sl := rfl
@[simp] theorem pit_refused (g : Nat) (e : E) : pit f (.refused g e) s = (f (.refused g e) s).bind fun v => (items v.d).map (·, none) := rfl
@[simp] theorem po_pop (i : Nat) : po f (.pop i) s = (f (.pop i) s).map Vl.d := rfl
@[simp] theorem poS_pop (i : Nat) : poS f (.pop i) s = (f (.pop i) s).map Vl.d := rfl
@[simp] theorem pa_pop (i : Nat) : pa f (.pop i) s = (f (.pop i) s).map Vl.sl := rfl
@[simp] theorem pit_pop (i : Nat) : pit f (.pop i) s = (f (.pop i) s).bind fun v => (items v.d).map (·, none) := rfl
@[simp] theorem po_fz (a : E) : po f (.fz a) s = (f (.fz a) s).map Vl.d := rfl
@[simp] theorem poS_fz (a : E) : poS f (.fz a) s = (f (.fz a) s).map Vl.d := rfl
@[simp] theorem pa_fz (a : E) : pa f (.fz a) s = (f (.fz a) s).map Vl.sl := rfl
@[simp] theorem pit_fz (a : E) : pit f (.fz a) s = (f (.fz a) s).bind fun v => (items v.d).map (·, none) := rfl
@[simp] theorem po_index (i : Nat) (x : E) : po f (.index i x) s = (f (.index i x) s).map Vl.d := rfl
@[simp] theorem poS_index (i : Nat) (x : E) : poS f (.index i x) s = (f (.index i x) s).map Vl.d := rfl
@[simp] theorem pa_index (i : Nat) (x : E) : pa f (.index i x) s = (f (.index i x) s).map Vl.sl := rfl
@[simp] theorem pit_index (i : Nat) (x : E) : pit f (.index i x) s = (f (.index i x) s).bind fun v => (items v.d).map (·, none) := rfl
@[simp] theorem po_dct (t : Bool) (ks vs : List E) : po f (.dct t ks vs) s = (f (.dct t ks vs) s).map Vl.d := rfl
@[simp] theorem poS_dct (t : Bool) (ks vs : List E) : poS f (.dct t ks vs) s = (f (.dct t ks vs) s).map Vl.d := rfl
@[simp] theorem pa_dct (t : Bool) (ks vs : List E) : pa f (.dct t ks vs) s = (f (.dct t ks vs) s).map Vl.sl := rfl
@[simp] theorem pit_dct (t : Bool) (ks vs : List E) : pit f (.dct t ks vs) s = (f (.dct t ks vs) s).bind fun v => (items v.d).map (·, none) := rfl
@[simp] theorem po_din (neg : Bool) (k d : E) : po f (.din neg k d) s = (f (.din neg k d) s).map Vl.d := rfl
@[simp] theorem poS_din (neg : Bool) (k d : E) : poS f (.din neg k d) s = (f (.din neg k d) s).map Vl.d := rfl
@[simp] theorem pa_din (neg : Bool) (k d : E) : pa f (.din neg k d) s = (f (.din neg k d) s).map Vl.sl := rfl
@[simp] theorem pit_din (neg : Bool) (k d : E) : pit f (.din neg k d) s = (f (.din neg k d) s).bind fun v => (items v.d).map (·, none) := rfl
@[simp] theorem po_didx (d k : E) : po f (.didx d k) s = (f (.didx d k) s).map Vl.d := rfl
@[simp] theorem poS_didx (d k : E) : poS f (.didx d k) s = (f (.didx d k) s).map Vl.d := rfl
@[simp] theorem pa_didx (d k : E) : pa f (.didx d k) s = (f (.didx d k) s).map Vl.sl := rfl
@[simp] theorem pit_didx (d k : E) : pit f (.didx d k) s = (f (.didx d k) s).bind fun v => (items v.d).map (·, none) := rfl
@[simp] theorem po_sortd (d : E) : po f (.sortd d) s = (f (.sortd d) s).map Vl.d := rfl
@[simp] theorem poS_sortd (d : E) : poS f (.sortd d) s = (f (.sortd d) s).map Vl.d := rfl
@[simp] theorem pa_sortd (d : E) : pa f (.sortd d) s = (f (.sortd d) s).map Vl.sl := rfl
@[simp] theorem pit_sortd (d : E) : pit f (.sortd d) s = (f (.sortd d) s).bind fun v => (items v.d).map (·, none) := rfl
@[simp] theorem po_get (d k x : E) : po f (.get d k x) s = (f (.get d k x) s).map Vl.d := rfl
@[simp] theorem poS_get (d k x : E) : poS f (.get d k x) s = (f (.get d k x) s).map Vl.d := rfl
@[simp] theorem pa_get (d k x : E) : pa f (.get d k x) s = (f (.get d k x) s).map Vl.sl := rfl
@[simp] theorem pit_get (d k x : E) : pit f (.get d k x) s = (f (.get d k x) s).bind fun v => (items v.d).map (·, none) := rfl
@[simp] theorem po_lrng (lo hi : E) : po f (.lrng lo hi) s = (f (.lrng lo hi) s).map Vl.d := rfl
@[simp] theorem poS_lrng (lo hi : E) : poS f (.lrng lo hi) s = (f (.lrng lo hi) s).map Vl.d := rfl
@[simp] theorem pa_lrng (lo hi : E) : pa f (.lrng lo hi) s = (f (.lrng lo hi) s).map Vl.sl := rfl
@[simp] theorem pit_lrng (lo hi : E) : pit f (.lrng lo hi) s = (f (.lrng lo hi) s).bind fun v => (items v.d).map (·, none) := rfl
@[simp] theorem po_ref (i : Nat) : po f (.ref i) s = lookV s i := rfl
@[simp] theorem poS_ref (i : Nat) : poS f (.ref i) s = lookVS s i := rfl
@[simp] theorem pa_ref (i : Nat) : pa f (.ref i) s = argV s i := rfl
@[simp] theorem pit_ref (i : Nat) : pit f (.ref i) s = (match s[i]? with
    | some (.dat d) => (items d).map (·, none)
    | some (.mu _ d) => (items d).map (·, some i)
    | _ => none) := rfl
@[simp] theorem pit_rng1 (hi : E) : pit f (.rng1 hi) s = (f hi s).bind fun v => (intV v).bind fun h => (rngD 0 h).map (·, none) := rfl
@[simp] theorem pit_rng2 (lo hi : E) : pit f (.rng2 lo hi) s = (f lo s).bind fun v => (intV v).bind fun l => (f hi s).bind fun w => (intV w).bind fun h => (rngD l h).map (·, none) := rfl
@[simp] theorem pit_zip (a b : E) : pit f (.zip a b) s = (pos f [a, b] s).bind fun ds => (match ds with
    | [.tuple xs, .tuple ys] => some ((xs.zip ys).map fun p => .tuple [p.1, p.2], none)
    | _ => none) := rfl
@[simp] theorem pv_lit (d : D) : pv C (n + 1) (.lit d) s = (some (.dat d)) := rfl
@[simp] theorem pv_gint (i : Int) : pv C (n + 1) (.gint i) s = (some (.dat (.int i))) := rfl
@[simp] theorem pv_var (i : Nat) : pv C (n + 1) (.var i) s = ((match s[i]? with
      | some (.dat d) => some (.dat d)
      | _ => none)) := rfl
@[simp] theorem pv_fz (a : E) : pv C (n + 1) (.fz a) s = ((pv C n a s).map fun v => .dat v.d) := rfl
@[simp] theorem pv_tup (es : List E) : pv C (n + 1) (.tup es) s = ((pvs (pv C n) es s).map fun ds => .dat (.tuple ds)) := rfl
@[simp] theorem pv_lst (es : List E) : pv C (n + 1) (.lst es) s = ((pvs (pv C n) es s).map fun ds => .fr (.list ds)) := rfl
@[simp] theorem pv_bin (op : BOp) (a : E) (b : E) : pv C (n + 1) (.bin op a b) s = ((po (pv C n) a s).bind fun x => (po (pv C n) b s).bind fun y => binop op x y) := rfl
@[simp] theorem pv_neg (a : E) : pv C (n + 1) (.neg a) s = ((po (pv C n) a s).bind fun
      | .int i => some (.dat (.int (-i)))
      | _ => none) := rfl
@[simp] theorem pv_not (a : E) : pv C (n + 1) (.not a) s = ((pv C n a s).bind fun v => (boolV v).map fun b => .dat (.bool !b)) := rfl
@[simp] theorem pv_cmp (op : COp) (a : E) (b : E) : pv C (n + 1) (.cmp op a b) s = ((po (pv C n) a s).bind fun x => (po (pv C n) b s).bind fun y => lift (cmpD op x y)) := rfl
@[simp] theorem pv_isN (a : E) : pv C (n + 1) (.isN a) s = ((po (pv C n) a s).bind fun d => some (.dat (.bool (isNone d)))) := rfl
@[simp] theorem pv_notN (a : E) : pv C (n + 1) (.notN a) s = ((po (pv C n) a s).bind fun d => some (.dat (.bool (!isNone d)))) := rfl
@[simp] theorem pv_ch2 (o1 : COp) (o2 : COp) (a : E) (b : E) (c : E) : pv C (n + 1) (.ch2 o1 o2 a b c) s = ((pv C n a s).bind fun x => (pv C n b s).bind fun y => (cmpD o1 x.d y.d).bind fun k =>
      if k = true then (pv C n c s).bind fun z => lift (cmpD o2 y.d z.d) else some (.dat (.bool false))) := rfl
@[simp] theorem pv_ch3 (o1 : COp) (o2 : COp) (o3 : COp) (a : E) (b : E) (c : E) (d : E) : pv C (n + 1) (.ch3 o1 o2 o3 a b c d) s = ((pv C n a s).bind fun x => (pv C n b s).bind fun y => (cmpD o1 x.d y.d).bind fun k =>
      if k = true then (pv C n c s).bind fun z => (cmpD o2 y.d z.d).bind fun k =>
        if k = true then (pv C n d s).bind fun u => lift (cmpD o3 z.d u.d) else some (.dat (.bool false))
      else some (.dat (.bool false))) := rfl
@[simp] theorem pv_and (a : E) (b : E) : pv C (n + 1) (.and a b) s = ((pv C n a s).bind fun v => (boolV v).bind fun k =>
      if k = true then (pv C n b s).bind fun w => (boolV w).map fun k => .dat (.bool k) else some (.dat (.bool false))) := rfl
@[simp] theorem pv_or (a : E) (b : E) : pv C (n + 1) (.or a b) s = ((pv C n a s).bind fun v => (boolV v).bind fun k =>
      if k = true then some (.dat (.bool true)) else (pv C n b s).bind fun w => (boolV w).map fun k => .dat (.bool k)) := rfl
@[simp] theorem pv_ife (t : E) (a : E) (b : E) : pv C (n + 1) (.ife t a b) s = ((pv C n t s).bind fun v => (boolV v).bind fun k => if k = true then pv C n a s else pv C n b s) := rfl
@[simp] theorem pv_idx (a : E) (i : E) : pv C (n + 1) (.idx a i) s = ((poS (pv C n) a s).bind fun x => (poS (pv C n) i s).bind fun y => (idxD x y).map Vl.dat) := rfl
@[simp] theorem pv_slc (a : E) (lo : Option E) (hi : Option E) : pv C (n + 1) (.slc a lo hi) s = ((poS (pv C n) a s).bind fun d =>
      (match lo with
        | none => some none
        | some e => (pv C n e s).bind fun v => (intV v).map some).bind fun l =>
      (match hi with
        | none => some none
        | some e => (pv C n e s).bind fun v => (intV v).map some).bind fun h => slcD d l h) := rfl
@[simp] theorem pv_rev (a : E) : pv C (n + 1) (.rev a) s = ((po (pv C n) a s).bind fun
      | .list xs => some (.fr (.list xs.reverse))
      | _ => none) := rfl
@[simp] theorem pv_call (f : Nat) (es : List E) (u2 : Nat) : pv C (n + 1) (.call f es u2) s = ((pas (pv C n) es s).bind fun as => pcall C f as) := rfl
@[simp] theorem pv_prim_len (es : List E) : pv C (n + 1) (.prim .len es) s = (posS (pv C n) es s).bind (prim .len) := rfl
@[simp] theorem pv_isi (a : E) (t : Ty) : pv C (n + 1) (.isi a t) s = ((po (pv C n) a s).bind fun x => some (.dat (.bool (isTy t x)))) := rfl
@[simp] theorem pv_comp (tg : List Nat) (one : Bool) (it : E) (c : Option E) (e : E) (own : List Nat) : pv C (n + 1) (.comp tg one it c e own) s = ((pit (pv C n) it s).bind fun q => if q.1.length ≤ lim ∧ own = tg then
        (compP (pitem tg one (fun s => match c with
          | none => some true
          | some c => (pv C n c s).bind boolV) (fun s => (pv C n e s).map Vl.d) (wipe (own ++ shutI q.2) s)) q.1).map fun ds => .fr (.list ds)
      else none) := rfl
@[simp] theorem pv_gen (al : Bool) (i : Nat) (it : E) (e : E) : pv C (n + 1) (.gen al i it e) s = ((pit (pv C n) it s).bind fun q => if q.2 = none ∧ i < s.length then
        (genP al (fun x => (pv C n e (s.set i (.dat x))).bind boolV) q.1).map fun b => .dat (.bool b)
      else none) := rfl
@[simp] theorem pv_index (i : Nat) (x : E) : pv C (n + 1) (.index i x) s = ((match s[i]? with
      | some (.dat (.list xs)) => (pv C n x s).bind fun v => findD xs v.d
      | some (.dat (.dict [(.none, .tuple xs)])) => (pv C n x s).bind fun v => findD xs v.d
      | _ => none)) := rfl
@[simp] theorem pv_din (neg : Bool) (k : E) (d : E) : pv C (n + 1) (.din neg k d) s = ((po (pv C n) k s).bind fun x => (po (pv C n) d s).bind fun y => (dhas y x).map fun b => .dat (.bool (if neg = true then !b else b))) := rfl
@[simp] theorem pv_didx (d : E) (k : E) : pv C (n + 1) (.didx d k) s = ((po (pv C n) d s).bind fun x => (po (pv C n) k s).bind fun y => (dat? x y).map Vl.dat) := rfl
@[simp] theorem pv_sortd (d : E) : pv C (n + 1) (.sortd d) s = ((po (pv C n) d s).bind fun x => (dsort x).map fun ks => .fr (.list ks)) := rfl
@[simp] theorem pv_get (d : E) (k : E) (x : E) : pv C (n + 1) (.get d k x) s = ((po (pv C n) d s).bind fun y => (po (pv C n) k s).bind fun z => (po (pv C n) x s).bind fun u => (dget y z u).map Vl.dat) := rfl
@[simp] theorem pv_lrng (lo : E) (hi : E) : pv C (n + 1) (.lrng lo hi) s = ((pv C n lo s).bind fun v => (intV v).bind fun l => (pv C n hi s).bind fun w => (intV w).bind fun h => (rngD l h).map fun ds => .fr (.list ds)) := rfl
@[simp] theorem pv_prim_abs (es : List E) : pv C (n + 1) (.prim .abs es) s = (pos (pv C n) es s).bind (prim .abs) := rfl
@[simp] theorem pv_prim_int (es : List E) : pv C (n + 1) (.prim .int es) s = (pos (pv C n) es s).bind (prim .int) := rfl
@[simp] theorem pv_prim_max2 (es : List E) : pv C (n + 1) (.prim .max2 es) s = (pos (pv C n) es s).bind (prim .max2) := rfl
@[simp] theorem pv_prim_min2 (es : List E) : pv C (n + 1) (.prim .min2 es) s = (pos (pv C n) es s).bind (prim .min2) := rfl
@[simp] theorem pv_prim_max1 (es : List E) : pv C (n + 1) (.prim .max1 es) s = (pos (pv C n) es s).bind (prim .max1) := rfl
@[simp] theorem pv_prim_min1 (es : List E) : pv C (n + 1) (.prim .min1 es) s = (pos (pv C n) es s).bind (prim .min1) := rfl
@[simp] theorem pv_prim_sorted (es : List E) : pv C (n + 1) (.prim .sorted es) s = (pos (pv C n) es s).bind (prim .sorted) := rfl
@[simp] theorem pv_prim_tuple (es : List E) : pv C (n + 1) (.prim .tuple es) s = (pos (pv C n) es s).bind (prim .tuple) := rfl
@[simp] theorem pv_prim_list (es : List E) : pv C (n + 1) (.prim .list es) s = (pos (pv C n) es s).bind (prim .list) := rfl
@[simp] theorem pv_prim_any (es : List E) : pv C (n + 1) (.prim .any es) s = (pos (pv C n) es s).bind (prim .any) := rfl
@[simp] theorem pv_prim_all (es : List E) : pv C (n + 1) (.prim .all es) s = (pos (pv C n) es s).bind (prim .all) := rfl
@[simp] theorem pv_prim_lenset (es : List E) : pv C (n + 1) (.prim .lenset es) s = (pos (pv C n) es s).bind (prim .lenset) := rfl
@[simp] theorem pv_prim_tagT (es : List E) : pv C (n + 1) (.prim .tagT es) s = (pos (pv C n) es s).bind (prim .tagT) := rfl
end
end Fs
set_option linter.all false
set_option maxRecDepth 10000
namespace Fs
open PySem
/-! ### loops -/
def forB (C : CT) (n : Nat) (tg : List Nat) (one : Bool) (b : List St) : D → S → O := fun x s => if tg.all (free s) then (match bind tg one x s with
        | some s => exs (ex C n) b s
        | none => .stuck) else .stuck
section
variable {α β : Type} {C : CT} {n : Nat} {s : S} {tg : List Nat} {one : Bool} {it : E} {b : List St}
theorem ex_for_pv (enc : α → D) (as : List α) (hit : pit (pv C n) it s = some (as.map enc, none)) : ex C (n + 1) (.for tg one it b) s = forL (forB C n tg one b) (as.map enc) s := by
  rw [ex_for, pit_ok (pv_ok C n) hit]; rfl
theorem ex_for_it (enc : α → D) (as : List α) {s' : S} (hit : iters (ev C n) it s = .ok (as.map enc, none) s') : ex C (n + 1) (.for tg one it b) s = forL (forB C n tg one b) (as.map enc) s' := by
  rw [ex_for, hit]; rfl
/-- a loop from frame to frame, with what holds of the state -/
theorem forL_run {f : D → S → O} (enc : α → D) (St : β → S) (P : Nat → β → Prop) (g : β → α → β) : ∀ (as : List α) (i : Nat) (r : β), P i r → (∀ (j : Nat) (a : α) (r : β), as[j]? = some a → P (i + j) r → f (enc a) (St r) = .nx (St (g r a)) ∧ P (i + j + 1) (g r a)) → forL f (as.map enc) (St r) = .nx (St (as.foldl g r)) ∧ P (i + as.length) (as.foldl g r)
  | [], i, r, hr, _ => ⟨rfl, hr⟩
  | a :: as, i, r, hr, h => by
    rw [List.map_cons]
    unfold forL
    obtain ⟨h1, h2⟩ := h 0 a r rfl hr
    rw [h1]
    have := forL_run enc St P g as (i + 1) (g r a) h2 fun j b r e p => by
      have := h (j + 1) b r (by simpa using e) (by rw [show i + (j + 1) = i + 1 + j by omega]; exact p)
      rw [show i + (j + 1) + 1 = i + 1 + j + 1 by omega] at this
      exact this
    rw [List.length_cons, show i + (as.length + 1) = i + 1 + as.length by omega]
    exact this
theorem for_run (enc : α → D) (as : List α) (St : β → S) (P : Nat → β → Prop) (g : β → α → β) (r : β) (hit : pit (pv C n) it (St r) = some (as.map enc, none)) (hr : P 0 r) (h : ∀ (j : Nat) (a : α) (r : β), as[j]? = some a → P j r → forB C n tg one b (enc a) (St r) = .nx (St (g r a)) ∧ P (j + 1) (g r a)) :
    ex C (n + 1) (.for tg one it b) (St r) = .nx (St (as.foldl g r)) ∧ P as.length (as.foldl g r) := by
  rw [ex_for_pv enc as hit]
  have := forL_run (f := forB C n tg one b) enc St P g as 0 r hr fun j a r e p => by
    rw [Nat.zero_add] at p ⊢; exact h j a r e p
  rwa [Nat.zero_add] at this
/-- .. that may end early, with a value -/
theorem for_find (enc : α → D) (as : List α) (St : S) (np : Nat) (g : α → Option D) (hit : pit (pv C n) it St = some (as.map enc, none)) (h : ∀ a ∈ as, match g a with
    | none => forB C n tg one b (enc a) St = .nx St
    | some v => ∃ s' : S, forB C n tg one b (enc a) St = .rt (.dat v) s' ∧ s'.take np = St.take np) : match as.findSome? g with
    | none => ex C (n + 1) (.for tg one it b) St = .nx St
    | some v => ∃ s' : S, ex C (n + 1) (.for tg one it b) St = .rt (.dat v) s' ∧ s'.take np = St.take np := by
  rw [ex_for_pv enc as hit]
  induction as with
  | nil => rfl
  | cons a as ih =>
    have h1 := h a List.mem_cons_self
    rw [List.findSome?_cons]
    cases hg : g a with
    | some v =>
      rw [hg] at h1
      obtain ⟨s', e1, e2⟩ := h1
      refine ⟨s', ?_, e2⟩
      rw [List.map_cons]
      unfold forL
      rw [e1]
    | none =>
      rw [hg] at h1
      dsimp only at h1 ⊢
      have e : forL (forB C n tg one b) ((a :: as).map enc) St = forL (forB C n tg one b) (as.map enc) St := by
        rw [List.map_cons]
        show (match forB C n tg one b (enc a) St with
          | .nx s => forL (forB C n tg one b) (as.map enc) s
          | .bk s => .nx s
          | o => o) = _
        rw [h1]
      rw [e]
      have go : ∀ as : List α, (∀ a ∈ as, match g a with
          | none => forB C n tg one b (enc a) St = .nx St
          | some v => ∃ s' : S, forB C n tg one b (enc a) St = .rt (.dat v) s' ∧ s'.take np = St.take np) → match as.findSome? g with
          | none => forL (forB C n tg one b) (as.map enc) St = .nx St
          | some v => ∃ s' : S, forL (forB C n tg one b) (as.map enc) St = .rt (.dat v) s' ∧ s'.take np = St.take np := by
        intro as
        induction as with
        | nil => intro _; rfl
        | cons a as ih =>
          intro h
          have h1 := h a List.mem_cons_self
          rw [List.findSome?_cons]
          cases hg : g a with
          | some v =>
            rw [hg] at h1
            obtain ⟨s', e1, e2⟩ := h1
            refine ⟨s', ?_, e2⟩
            rw [List.map_cons]
            unfold forL
            rw [e1]
          | none =>
            rw [hg] at h1
            dsimp only at h1 ⊢
            have e : forL (forB C n tg one b) ((a :: as).map enc) St = forL (forB C n tg one b) (as.map enc) St := by
              rw [List.map_cons]
              show (match forB C n tg one b (enc a) St with
                | .nx s => forL (forB C n tg one b) (as.map enc) s
                | .bk s => .nx s
                | o => o) = _
              rw [h1]
            rw [e]
            exact ih fun b hb => h b (List.mem_cons_of_mem _ hb)
      exact go as fun b hb => h b (List.mem_cons_of_mem _ hb)
theorem compP_guard {p : α → Prop} [DecidablePred p] {as : List α} (h : ∀ a ∈ as, p a) (g : α → D) : compP (fun a => if p a then some (some (g a)) else none) as = some (as.map g) :=
  compP_all g fun a ha => by rw [if_pos (h a ha)]
theorem foldl_app (p : α → Bool) (f : α → List β) : ∀ (as : List α) (r : List β), as.foldl (fun r a => if p a = true then r ++ f a else r) r = r ++ (as.filter p).flatMap f
  | [], r => by simp
  | a :: as, r => by
    rw [List.foldl_cons, foldl_app p f as]
    cases h : p a <;> simp [h]
theorem foldl_all (f : α → List β) : ∀ (as : List α) (r : List β), as.foldl (fun r a => r ++ f a) r = r ++ as.flatMap f
  | [], r => by simp
  | a :: as, r => by
    rw [List.foldl_cons, foldl_all f as]
    simp
end
end Fs
set_option linter.all false
set_option maxRecDepth 10000
namespace Fs
open PySem
/-! ### data equal to itself -/
theorem eqvAll_self : ∀ xs : List D, (∀ x ∈ xs, PyData.eqv x x = true) → PyData.eqvAll xs xs = true
  | [], _ => by simp [PyData.eqvAll]
  | x :: xs, h => by
    have h1 := h x List.mem_cons_self
    have h2 := eqvAll_self xs fun y hy => h y (List.mem_cons_of_mem _ hy)
    simp [PyData.eqvAll, h1, h2]
theorem eqv_self : ∀ (n : Nat) (d : D), okD n d = true → PyData.eqv d d = true
  | _, .none, _ => by simp [PyData.eqv]
  | _, .bool b, _ => by simp [PyData.eqv]
  | _, .int i, _ => by simp [PyData.eqv]
  | _, .str s, _ => by simp [PyData.eqv]
  | 0, .list _, h => by simp [okD] at h
  | 0, .tuple _, h => by simp [okD] at h
  | n + 1, .list xs, h => by
    have h : xs.all (okD n) = true := h
    simp only [PyData.eqv]
    exact eqvAll_self xs fun x hx => eqv_self n x (List.all_eq_true.mp h x hx)
  | n + 1, .tuple xs, h => by
    have h : xs.all (okD n) = true := h
    simp only [PyData.eqv]
    exact eqvAll_self xs fun x hx => eqv_self n x (List.all_eq_true.mp h x hx)
  | 0, .dict _, h => by simp [okD] at h
  | n + 1, .dict _, h => by simp [okD] at h
@[simp] theorem eqv_bool_bool (a b : Bool) : PyData.eqv (.bool a) (.bool b) = (a == b) := by cases a <;> cases b <;> simp [PyData.eqv]
@[simp] theorem eqv_none_none : PyData.eqv .none .none = true := by simp [PyData.eqv]
theorem cmp_ne_self {d : D} (h : okD dp d = true) : cmpD .ne d d = some false := by
  unfold cmpD
  simp only [h, eqv_self dp d h, Bool.and_self, if_true, Bool.not_true]
theorem cmp_eq_self {d : D} (h : okD dp d = true) : cmpD .eq d d = some true := by
  unfold cmpD
  simp only [h, eqv_self dp d h, Bool.and_self, if_true]
/-! ### statement by statement -/
theorem exs_nx {f : St → S → O} {t : St} {ts : List St} {s s' : S} (h : f t s = .nx s') : exs f (t :: ts) s = exs f ts s' := by
  show (match f t s with
    | .nx s => exs f ts s
    | o => o) = _
  rw [h]
/-! ### comprehensions that roll dice -/
theorem unwipe_eq {I : List Nat} {s s' t : S} (h : wipe I s' = wipe I t) (hs : ∀ i ∈ I, s[i]? = t[i]?) (hl : s.length = t.length) : unwipe I s s' = t := by
  have hl2 : s'.length = t.length := by rw [← wipe_len I s', h, wipe_len]
  refine ext_at fun j => ?_
  rw [unwipe_at]
  by_cases hj : j ∈ I
  · rw [if_pos hj]
    by_cases hlt : j < t.length
    · rw [List.getElem?_eq_getElem (by omega)]
      have := hs j hj
      rw [List.getElem?_eq_getElem (by omega), List.getElem?_eq_getElem hlt] at this
      rw [List.getElem?_eq_getElem hlt]
      simp only [Option.map_some, List.getD_eq_getElem?_getD]
      rw [List.getElem?_eq_getElem (by omega)]
      simpa using this
    · rw [List.getElem?_eq_none (by omega), List.getElem?_eq_none (by omega)]; rfl
  · rw [if_neg hj]
    have : (wipe I s')[j]? = (wipe I t)[j]? := by rw [h]
    rwa [wipe_at, if_neg hj, wipe_at, if_neg hj] at this
section
variable {σ : Type} {C : CT} {n : Nat} {tg own : List Nat} {one : Bool} {it e : E}
/-- F: the frame by what changes; I: what holds of it; Q: what holds of the items -/
theorem compL_step (F : σ → S) (I : Nat → σ → Prop) (Q : D → Prop) (c : S → R Bool) (e : S → R D) : ∀ (xs : List D) (j : Nat) (d : σ) (s : S), wipe own s = wipe own (F d) → I j d →
    (∀ i x d, xs[i]? = some x → I (j + i) d → ∃ s1 s2 s3 v d', bind tg one x (wipe own (F d)) = some s1 ∧ c s1 = .ok true s2 ∧ e s2 = .ok v s3 ∧ wipe own s3 = wipe own (F d') ∧ I (j + i + 1) d' ∧ Q v) →
    ∃ ds s' d', compL tg one c e own xs s = .ok ds s' ∧ wipe own s' = wipe own (F d') ∧ I (j + xs.length) d' ∧ ds.length = xs.length ∧ ∀ v ∈ ds, Q v
  | [], j, d, s, hs, hI, _ => ⟨[], s, d, rfl, hs, hI, rfl, fun _ h => nomatch h⟩
  | x :: xs, j, d, s, hs, hI, h => by
    obtain ⟨s1, s2, s3, v, d', h1, h2, h3, h4, h5, h6⟩ := h 0 x d rfl hI
    obtain ⟨ds, s', d2, h7, h8, h9, h10, h11⟩ := compL_step F I Q c e xs (j + 1) d' s3 h4 h5 fun i y d hy hI => by
      have := h (i + 1) y d (by simpa using hy) (by rw [show j + (i + 1) = j + 1 + i by omega]; exact hI)
      rw [show j + (i + 1) + 1 = j + 1 + i + 1 by omega] at this
      exact this
    refine ⟨v :: ds, s', d2, ?_, h8, by rw [List.length_cons, show j + (xs.length + 1) = j + 1 + xs.length by omega]; exact h9, by simp [h10], fun w hw => ?_⟩
    · unfold compL
      rw [hs, h1]
      dsimp only
      rw [h2]
      dsimp only
      rw [h3]
      dsimp only
      rw [h7]
    · rcases List.mem_cons.mp hw with rfl | hw
      · exact h6
      · exact h11 w hw
theorem ev_comp_step (F : σ → S) (I : Nat → σ → Prop) (Q : D → Prop) {xs : List D} {d : σ} {s : S} (hit : iters (ev C n) it s = .ok (xs, none) (F d)) (hl : xs.length ≤ lim) (hI : I 0 d) (hF : ∀ d d', (F d).length = (F d').length ∧ ∀ i ∈ own, (F d)[i]? = (F d')[i]?)
    (h : ∀ j x d, xs[j]? = some x → I j d → ∃ s1 s3 v d', bind tg one x (wipe own (F d)) = some s1 ∧ ev C n e s1 = .ok v s3 ∧ wipe own s3 = wipe own (F d') ∧ I (j + 1) d' ∧ Q v.d) :
    ∃ ds d', ev C (n + 1) (.comp tg one it none e own) s = .ok (.fr (.list ds)) (F d') ∧ I xs.length d' ∧ ds.length = xs.length ∧ ∀ v ∈ ds, Q v := by
  obtain ⟨ds, s', d', h1, h2, h3, h4, h5⟩ := compL_step (tg := tg) (own := own) (one := one) F I Q (fun s => .ok true s) (fun s => (ev C n e s).bind fun v s => .ok v.d s) xs 0 d (wipe own (F d)) (wipe_wipe (fun i hi => hi) _) hI fun j x d hx hI => by
    rw [Nat.zero_add] at hI ⊢
    obtain ⟨s1, s3, v, d', q1, q2, q3, q4, q5⟩ := h j x d hx hI
    exact ⟨s1, s1, s3, v.d, d', q1, rfl, by rw [q2]; rfl, q3, q4, q5⟩
  refine ⟨ds, d', ?_, by rwa [Nat.zero_add] at h3, h4, h5⟩
  rw [ev_comp, hit, bind_ok]
  unfold compR
  rw [if_pos hl]
  show (match compL tg one (fun s => .ok true s) (fun s => (ev C n e s).bind fun v s => .ok v.d s) own xs (wipe (own ++ []) (F d)) with
    | .ok ds s' => R.ok (Vl.fr (.list ds)) (unwipe (own ++ []) (F d) s')
    | _ => .stuck) = _
  rw [List.append_nil, h1]
  show R.ok _ _ = R.ok _ _
  congr 1
  exact unwipe_eq h2 (hF d d').2 (hF d d').1
theorem ev_comp_step1 {i : Nat} (F : σ → S) (I : Nat → σ → Prop) (Q : D → Prop) {xs : List D} {d : σ} {s : S} (hit : iters (ev C n) it s = .ok (xs, none) (F d)) (hl : xs.length ≤ lim) (hI : I 0 d) (hF : ∀ d d', (F d).length = (F d').length ∧ (F d)[i]? = (F d')[i]?)
    (h : ∀ j x d, xs[j]? = some x → I j d → ∃ v d', ev C n e ((F d).set i (.dat x)) = .ok v ((F d').set i (.dat x)) ∧ I (j + 1) d' ∧ Q v.d) :
    ∃ ds d', ev C (n + 1) (.comp [i] true it none e [i]) s = .ok (.fr (.list ds)) (F d') ∧ I xs.length d' ∧ ds.length = xs.length ∧ ∀ v ∈ ds, Q v :=
  ev_comp_step F I Q hit hl hI (fun d d' => ⟨(hF d d').1, fun k hk => by rw [List.mem_singleton.mp hk]; exact (hF d d').2⟩) fun j x d hx hI => by
    obtain ⟨v, d', h1, h2, h3⟩ := h j x d hx hI
    exact ⟨(F d).set i (.dat x), (F d').set i (.dat x), v, d', by simp [wipe, bind], h1, by simp [wipe], h2, h3⟩
end
end Fs
set_option linter.all false
set_option maxRecDepth 10000
namespace Fs
open PySem
/-! ### loops with a state that may end with a value -/
section
variable {α β : Type} {C : CT} {n : Nat} {tg : List Nat} {one : Bool} {it : E} {b : List St}
def foldE (g : β → α → β ⊕ D) : List α → β → β ⊕ D
  | [], r => .inl r
  | a :: as, r => match g r a with
    | .inl r' => foldE g as r'
    | .inr v => .inr v
theorem forL_try {f : D → S → O} (enc : α → D) (St : β → S) (P : Nat → β → Prop) (np : Nat) (T : S) (g : β → α → β ⊕ D) : ∀ (as : List α) (i : Nat) (r : β), P i r →
    (∀ (j : Nat) (a : α) (r : β), as[j]? = some a → P (i + j) r → match g r a with
      | .inl r' => f (enc a) (St r) = .nx (St r') ∧ P (i + j + 1) r'
      | .inr v => ∃ s' : S, f (enc a) (St r) = .rt (.dat v) s' ∧ s'.take np = T) → match foldE g as r with
    | .inl r' => forL f (as.map enc) (St r) = .nx (St r') ∧ P (i + as.length) r'
    | .inr v => ∃ s' : S, forL f (as.map enc) (St r) = .rt (.dat v) s' ∧ s'.take np = T
  | [], i, r, hr, _ => ⟨rfl, hr⟩
  | a :: as, i, r, hr, h => by
    have h0 := h 0 a r rfl hr
    unfold foldE
    cases hg : g r a with
    | inl r' =>
      rw [hg] at h0
      obtain ⟨h1, h2⟩ := h0
      have ih := forL_try enc St P np T g as (i + 1) r' h2 fun j b r e p => by
        have := h (j + 1) b r (by simpa using e) (by rw [show i + (j + 1) = i + 1 + j by omega]; exact p)
        rw [show i + (j + 1) + 1 = i + 1 + j + 1 by omega] at this
        exact this
      dsimp only
      have e : forL f ((a :: as).map enc) (St r) = forL f (as.map enc) (St r') := by
        rw [List.map_cons]
        show (match f (enc a) (St r) with
          | .nx s => forL f (as.map enc) s
          | .bk s => .nx s
          | o => o) = _
        rw [h1]
      rw [e, List.length_cons, show i + (as.length + 1) = i + 1 + as.length by omega]
      exact ih
    | inr v =>
      rw [hg] at h0
      obtain ⟨s', h1, h2⟩ := h0
      dsimp only
      refine ⟨s', ?_, h2⟩
      rw [List.map_cons]
      unfold forL
      rw [h1]
theorem for_try (enc : α → D) (as : List α) (St : β → S) (P : Nat → β → Prop) (np : Nat) (T : S) (g : β → α → β ⊕ D) (r : β) (hit : pit (pv C n) it (St r) = some (as.map enc, none)) (hr : P 0 r) (h : ∀ (j : Nat) (a : α) (r : β), as[j]? = some a → P j r → match g r a with
      | .inl r' => forB C n tg one b (enc a) (St r) = .nx (St r') ∧ P (j + 1) r'
      | .inr v => ∃ s' : S, forB C n tg one b (enc a) (St r) = .rt (.dat v) s' ∧ s'.take np = T) : match foldE g as r with
    | .inl r' => ex C (n + 1) (.for tg one it b) (St r) = .nx (St r') ∧ P as.length r'
    | .inr v => ∃ s' : S, ex C (n + 1) (.for tg one it b) (St r) = .rt (.dat v) s' ∧ s'.take np = T := by
  rw [ex_for_pv enc as hit]
  have := forL_try (f := forB C n tg one b) enc St P np T g as 0 r hr fun j a r e p => by
    rw [Nat.zero_add] at p ⊢; exact h j a r e p
  rw [Nat.zero_add] at this
  exact this
end
end Fs
namespace Fs
open PySem
theorem whlL_meas {β : Type} {c : S → R Bool} {f : S → O} (St : β → S) (P : β → Prop) (t : β → Bool) (g : β → β) (mu : β → Nat) (h : ∀ r, P r → c (St r) = .ok (t r) (St r) ∧ (t r = true → f (St r) = .nx (St (g r)) ∧ P (g r) ∧ mu (g r) < mu r)) : ∀ (m : Nat) (r : β), P r → mu r < m → ∃ r', whlL c f m (St r) = .nx (St r') ∧ P r' ∧ t r' = false
  | 0, r, _, hm => by omega
  | m + 1, r, hP, hm => by
    obtain ⟨h1, h2⟩ := h r hP
    unfold whlL
    rw [h1, of_ok]
    cases ht : t r with
    | false => exact ⟨r, rfl, hP, ht⟩
    | true =>
      obtain ⟨h3, h4, h5⟩ := h2 ht
      dsimp only
      rw [h3]
      exact whlL_meas St P t g mu h m (g r) h4 (by omega)
theorem filter_rng (a b : Nat) : ∀ N, (List.range N).filter (fun x => decide (a ≤ x ∧ x < b)) = (List.range (min b N - a)).map (a + ·)
  | 0 => by simp
  | N + 1 => by
    rw [List.range_succ, List.filter_append, filter_rng a b N]
    by_cases h : a ≤ N ∧ N < b
    · have e1 : min b (N + 1) - a = (min b N - a) + 1 := by omega
      have e2 : a + (min b N - a) = N := by omega
      rw [e1, List.range_succ, List.map_append]
      simp [h, e2]
    · have e1 : min b (N + 1) - a = min b N - a := by omega
      rw [e1]
      simp [h]
end Fs
set_option autoImplicit false
set_option linter.all false
set_option maxRecDepth 100000
namespace Fs
open PySem
/-! ### which ridges hide: plain -/
structure Hl where
  (x y z : Int)
deriving DecidableEq
structure Rg where
  (a b c d t : Int)
deriving DecidableEq
def turnI (px py qx qy rx ry : Int) : Int := (qx - px) * (ry - py) - (qy - py) * (rx - px)
def crossI (ax ay bx bw : Int) : Int := ax * bw - ay * bx
def lowI (z1 z2 t a b : Int) : Bool := decide (z1 * (b - a) + z2 * a < t * b)
def alongW (W f0 f1 : Int) : List (Int × Int) := if max 0 (min f0 f1) ≤ min W (max f0 f1) then [(max 0 (min f0 f1), W), (min W (max f0 f1), W)] else []
def alongX (p q e0 e1 : Int) : List (Int × Int) := if q - p < 0 then alongW (0 - (q - p)) (0 - (e0 - p)) (0 - (e1 - p)) else alongW (q - p) (e0 - p) (e1 - p)
def alongL (p q : Hl) (r : Rg) : List (Int × Int) := if p.x ≠ q.x then alongX p.x q.x r.a r.c else alongX p.y q.y r.b r.d
def sharesL (p q : Hl) (r : Rg) : List (Int × Int) :=
  if turnI r.a r.b r.c r.d p.x p.y = 0 ∧ turnI r.a r.b r.c r.d q.x q.y = 0 then alongL p q r
  else if 0 < turnI r.a r.b r.c r.d p.x p.y * turnI r.a r.b r.c r.d q.x q.y then []
  else if 0 < turnI p.x p.y q.x q.y r.a r.b * turnI p.x p.y q.x q.y r.c r.d then []
  else [((turnI r.a r.b r.c r.d p.x p.y).natAbs, ((turnI r.a r.b r.c r.d p.x p.y).natAbs : Int) + (turnI r.a r.b r.c r.d q.x q.y).natAbs), ((turnI r.a r.b r.c r.d p.x p.y).natAbs, ((turnI r.a r.b r.c r.d p.x p.y).natAbs : Int) + (turnI r.a r.b r.c r.d q.x q.y).natAbs)]
def hidB (p q : Hl) (r : Rg) : Bool := (sharesL p q r).any fun ab => lowI p.z q.z r.t ab.1 ab.2
def ptB (p q : Hl) (r : Rg) (u v : Int) : Bool :=
  let part := (u - p.x) * (q.x - p.x) + (v - p.y) * (q.y - p.y)
  let place := (u - r.a) * (r.c - r.a) + (v - r.b) * (r.d - r.b)
  let sq := (q.x - p.x) * (q.x - p.x) + (q.y - p.y) * (q.y - p.y)
  let tl := (r.c - r.a) * (r.c - r.a) + (r.d - r.b) * (r.d - r.b)
  decide (0 ≤ part ∧ part ≤ sq) && (decide (0 ≤ place ∧ place ≤ tl) && lowI p.z q.z r.t part sq)
def sgS (S : Int) : Int := if 0 < S then 1 else -1
def lhB (p q : Hl) (r : Rg) : Bool :=
  let S := crossI (q.x - p.x) (q.y - p.y) (r.c - r.a) (r.d - r.b)
  let A := crossI (r.a - p.x) (r.b - p.y) (r.c - r.a) (r.d - r.b)
  let B := crossI (r.a - p.x) (r.b - p.y) (q.x - p.x) (q.y - p.y)
  if S ≠ 0 then decide (0 ≤ A * sgS S ∧ A * sgS S ≤ S * sgS S) && (decide (0 ≤ B * sgS S ∧ B * sgS S ≤ S * sgS S) && lowI p.z q.z r.t (A * sgS S) (S * sgS S))
  else if B ≠ 0 then false
  else ptB p q r p.x p.y || (ptB p q r q.x q.y || (ptB p q r r.a r.b || ptB p q r r.c r.d))
theorem nn_iff {x c : Int} (hc : 0 < c) : 0 ≤ x * c ↔ 0 ≤ x := by
  constructor
  · intro h
    by_cases hx : 0 ≤ x
    · exact hx
    · have := Int.mul_neg_of_neg_of_pos (show x < 0 by omega) hc
      omega
  · intro h; exact Int.mul_nonneg h (by omega)
theorem pp_iff {x c : Int} (hc : 0 < c) : 0 < x * c ↔ 0 < x := by
  constructor
  · intro h
    by_cases hx : 0 < x
    · exact hx
    · have := Int.mul_nonneg (show 0 ≤ -x by omega) (show 0 ≤ c by omega)
      rw [Int.neg_mul] at this
      omega
  · intro h; exact Int.mul_pos h hc
theorem low_scale {z1 z2 t part sq e W : Int} (h : part * W = e * sq) (hs : 0 < sq) (hW : 0 < W) : (z1 * (sq - part) + z2 * part < t * sq) ↔ (z1 * (W - e) + z2 * e < t * W) := by
  have key : (t * sq - (z1 * (sq - part) + z2 * part)) * W = (t * W - (z1 * (W - e) + z2 * e)) * sq := by grind
  have a := pp_iff (x := t * sq - (z1 * (sq - part) + z2 * part)) hW
  have b := pp_iff (x := t * W - (z1 * (W - e) + z2 * e)) hs
  rw [key] at a
  omega
theorem rng_scale {part sq e W : Int} (h : part * W = e * sq) (hs : 0 < sq) (hW : 0 < W) : (0 ≤ part ∧ part ≤ sq) ↔ (0 ≤ e ∧ e ≤ W) := by
  have key : (sq - part) * W = (W - e) * sq := by grind
  have a := nn_iff (x := part) hW
  have b := nn_iff (x := e) hs
  have c := nn_iff (x := sq - part) hW
  have d := nn_iff (x := W - e) hs
  rw [h] at a
  rw [key] at c
  omega
theorem one_dim {W f0 f1 : Int} {P : Int → Prop} (hW : 0 < W) : (max 0 (min f0 f1) ≤ min W (max f0 f1) ∧ (P (max 0 (min f0 f1)) ∨ P (min W (max f0 f1)))) ↔
    ((((0:Int) ≤ 0 ∧ 0 ≤ W) ∧ (min f0 f1 ≤ 0 ∧ 0 ≤ max f0 f1) ∧ P 0) ∨ ((0 ≤ W ∧ W ≤ W) ∧ (min f0 f1 ≤ W ∧ W ≤ max f0 f1) ∧ P W) ∨ ((0 ≤ f0 ∧ f0 ≤ W) ∧ (min f0 f1 ≤ f0 ∧ f0 ≤ max f0 f1) ∧ P f0) ∨ ((0 ≤ f1 ∧ f1 ≤ W) ∧ (min f0 f1 ≤ f1 ∧ f1 ≤ max f0 f1) ∧ P f1)) := by
  constructor
  · rintro ⟨h1, h2 | h2⟩
    · have : max 0 (min f0 f1) = 0 ∨ max 0 (min f0 f1) = f0 ∨ max 0 (min f0 f1) = f1 := by omega
      rcases this with e | e | e
      · rw [e] at h2 h1; exact .inl ⟨by omega, by omega, h2⟩
      · rw [e] at h2 h1; exact .inr (.inr (.inl ⟨by omega, by omega, h2⟩))
      · rw [e] at h2 h1; exact .inr (.inr (.inr ⟨by omega, by omega, h2⟩))
    · have : min W (max f0 f1) = W ∨ min W (max f0 f1) = f0 ∨ min W (max f0 f1) = f1 := by omega
      rcases this with e | e | e
      · rw [e] at h2 h1; exact .inr (.inl ⟨by omega, by omega, h2⟩)
      · rw [e] at h2 h1; exact .inr (.inr (.inl ⟨by omega, by omega, h2⟩))
      · rw [e] at h2 h1; exact .inr (.inr (.inr ⟨by omega, by omega, h2⟩))
  · rintro (⟨h1, h2, h3⟩ | ⟨h1, h2, h3⟩ | ⟨h1, h2, h3⟩ | ⟨h1, h2, h3⟩)
    · have e : max 0 (min f0 f1) = 0 := by omega
      exact ⟨by omega, .inl (by rw [e]; exact h3)⟩
    · have e : min W (max f0 f1) = W := by omega
      exact ⟨by omega, .inr (by rw [e]; exact h3)⟩
    · by_cases c : f0 ≤ f1
      · have e : max 0 (min f0 f1) = f0 := by omega
        exact ⟨by omega, .inl (by rw [e]; exact h3)⟩
      · have e : min W (max f0 f1) = f0 := by omega
        exact ⟨by omega, .inr (by rw [e]; exact h3)⟩
    · by_cases c : f0 ≤ f1
      · have e : min W (max f0 f1) = f1 := by omega
        exact ⟨by omega, .inr (by rw [e]; exact h3)⟩
      · have e : max 0 (min f0 f1) = f1 := by omega
        exact ⟨by omega, .inl (by rw [e]; exact h3)⟩
theorem sq_nn (a : Int) : 0 ≤ a * a := by
  by_cases h : 0 ≤ a
  · exact Int.mul_nonneg h h
  · have := Int.mul_nonneg (show 0 ≤ -a by omega) (show 0 ≤ -a by omega)
    rw [Int.neg_mul_neg] at this; exact this
theorem sq_pos {a : Int} (h : a ≠ 0) : 0 < a * a := by
  by_cases h0 : 0 < a
  · exact Int.mul_pos h0 h0
  · have := Int.mul_pos (show 0 < -a by omega) (show 0 < -a by omega)
    rw [Int.neg_mul_neg] at this; exact this
def ptG (w wo l lo g go u uo z1 z2 t : Int) : Prop := ((0 ≤ u * w + uo * wo ∧ u * w + uo * wo ≤ w * w + wo * wo) ∧ (0 ≤ (u - g) * l + (uo - go) * lo ∧ (u - g) * l + (uo - go) * lo ≤ l * l + lo * lo) ∧ z1 * ((w * w + wo * wo) - (u * w + uo * wo)) + z2 * (u * w + uo * wo) < t * (w * w + wo * wo))
theorem ptG_swap {w wo l lo g go u uo z1 z2 t : Int} : ptG w wo l lo g go u uo z1 z2 t ↔ ptG wo w lo l go g uo u z1 z2 t := by
  unfold ptG
  rw [Int.add_comm (u * w), Int.add_comm (w * w), Int.add_comm ((u - g) * l), Int.add_comm (l * l)]
theorem core_pt {w wo l lo g go u uo z1 z2 t W f0 f1 e : Int} (hw : (0 < w ∧ W = w ∧ f0 = g ∧ f1 = g + l ∧ e = u) ∨ (w < 0 ∧ W = -w ∧ f0 = -g ∧ f1 = -(g + l) ∧ e = -u))
    (hS : w * lo = wo * l) (hB : go * w = g * wo) (hl : l ≠ 0) (hu : uo * w = u * wo) :
    ptG w wo l lo g go u uo z1 z2 t ↔
    ((0 ≤ e ∧ e ≤ W) ∧ (min f0 f1 ≤ e ∧ e ≤ max f0 f1) ∧ z1 * (W - e) + z2 * e < t * W) := by
  unfold ptG
  have hw0 : w ≠ 0 := by omega
  have hW : 0 < W := by omega
  have hsq : 0 < w * w + wo * wo := by have := sq_pos hw0; have := sq_nn wo; omega
  have htl : 0 < l * l + lo * lo := by have := sq_pos hl; have := sq_nn lo; omega
  have hp : (u * w + uo * wo) * w = u * (w * w + wo * wo) := by grind
  have hpW : (u * w + uo * wo) * W = e * (w * w + wo * wo) := by
    rcases hw with ⟨_, rfl, _, _, rfl⟩ | ⟨_, rfl, _, _, rfl⟩
    · exact hp
    · grind
  have hc : (uo - go) * l = (u - g) * lo := by
    have : ((uo - go) * l) * w = ((u - g) * lo) * w := by grind
    exact Int.eq_of_mul_eq_mul_right hw0 this
  have hq : ((u - g) * l + (uo - go) * lo) * l = (u - g) * (l * l + lo * lo) := by grind
  have h1 := rng_scale hpW hsq hW
  have h2 := low_scale (z1 := z1) (z2 := z2) (t := t) hpW hsq hW
  have h3 : (0 ≤ (u - g) * l + (uo - go) * lo ∧ (u - g) * l + (uo - go) * lo ≤ l * l + lo * lo) ↔ (min f0 f1 ≤ e ∧ e ≤ max f0 f1) := by
    by_cases hl0 : 0 < l
    · rw [rng_scale hq htl hl0]
      rcases hw with ⟨_, _, rfl, rfl, rfl⟩ | ⟨_, _, rfl, rfl, rfl⟩ <;> omega
    · have hq2 : ((u - g) * l + (uo - go) * lo) * (-l) = (-(u - g)) * (l * l + lo * lo) := by grind
      rw [rng_scale hq2 htl (by omega)]
      rcases hw with ⟨_, _, rfl, rfl, rfl⟩ | ⟨_, _, rfl, rfl, rfl⟩ <;> omega
  rw [h1, h2, h3]
theorem mul_sign {x y : Int} : 0 < x * y ↔ (0 < x ∧ 0 < y) ∨ (x < 0 ∧ y < 0) := by
  rcases Int.lt_trichotomy x 0 with h | h | h
  · constructor
    · intro hp
      by_cases hy : y < 0
      · exact .inr ⟨h, hy⟩
      · have := Int.mul_nonneg (show 0 ≤ -x by omega) (show 0 ≤ y by omega)
        rw [Int.neg_mul] at this; omega
    · rintro (⟨h1, _⟩ | ⟨_, h2⟩)
      · omega
      · exact Int.mul_pos_of_neg_of_neg h h2
  · subst h; simp
  · have := pp_iff (x := y) h
    rw [Int.mul_comm y x] at this
    omega
theorem lowI_iff {z1 z2 t a b : Int} : lowI z1 z2 t a b = true ↔ z1 * (b - a) + z2 * a < t * b := by unfold lowI; exact decide_eq_true_iff
theorem alongW_any {W f0 f1 z1 z2 t : Int} : ((alongW W f0 f1).any fun ab => lowI z1 z2 t ab.1 ab.2) = true ↔ (max 0 (min f0 f1) ≤ min W (max f0 f1) ∧ (z1 * (W - max 0 (min f0 f1)) + z2 * max 0 (min f0 f1) < t * W ∨ z1 * (W - min W (max f0 f1)) + z2 * min W (max f0 f1) < t * W)) := by
  unfold alongW
  by_cases c : max 0 (min f0 f1) ≤ min W (max f0 f1)
  · rw [if_pos c]
    simp only [List.any_cons, List.any_nil, Bool.or_false, Bool.or_eq_true, lowI_iff]
    constructor
    · intro h; exact ⟨c, h⟩
    · exact fun h => h.2
  · rw [if_neg c]
    simp only [List.any_nil, Bool.false_eq_true, false_iff]
    exact fun h => c h.1
/-- on one line: by the axis -/
theorem axis_eq {w wo l lo g go z1 z2 t : Int} {L : List (Int × Int)} (hw : w ≠ 0) (hS : w * lo = wo * l) (hB : go * w = g * wo) (hl : l ≠ 0)
    (hL : L = if w < 0 then alongW (0 - w) (0 - g) (0 - (g + l)) else alongW w g (g + l)) :
    (L.any fun ab => lowI z1 z2 t ab.1 ab.2) = true ↔
    (∃ u uo : Int, ((u = 0 ∧ uo = 0) ∨ (u = w ∧ uo = wo) ∨ (u = g ∧ uo = go) ∨ (u = g + l ∧ uo = go + lo)) ∧
      ptG w wo l lo g go u uo z1 z2 t) := by
  obtain ⟨W, f0, f1, sg, hsg, hWf, hLW⟩ : ∃ W f0 f1 sg : Int, (sg = 1 ∨ sg = -1) ∧ ((sg = 1 ∧ 0 < w ∧ W = w ∧ f0 = g ∧ f1 = g + l) ∨ (sg = -1 ∧ w < 0 ∧ W = -w ∧ f0 = -g ∧ f1 = -(g + l))) ∧ L = alongW W f0 f1 := by
    by_cases c : w < 0
    · rw [if_pos c] at hL
      exact ⟨-w, -g, -(g + l), -1, .inr rfl, .inr ⟨rfl, c, rfl, rfl, rfl⟩, by rw [hL]; congr 1 <;> omega⟩
    · rw [if_neg c] at hL
      exact ⟨w, g, g + l, 1, .inl rfl, .inl ⟨rfl, by omega, rfl, rfl, rfl⟩, hL⟩
  have hW : 0 < W := by omega
  have core : ∀ u uo : Int, uo * w = u * wo → _ := fun u uo hu => core_pt (w := w) (wo := wo) (l := l) (lo := lo) (g := g) (go := go) (u := u) (uo := uo) (z1 := z1) (z2 := z2) (t := t) (W := W) (f0 := f0) (f1 := f1) (e := sg * u) (by
    rcases hWf with ⟨rfl, h1, h2, h3, h4⟩ | ⟨rfl, h1, h2, h3, h4⟩
    · exact .inl ⟨h1, h2, h3, h4, by omega⟩
    · exact .inr ⟨h1, h2, h3, h4, by omega⟩) hS hB hl hu
  rw [hLW, alongW_any, one_dim (P := fun e => z1 * (W - e) + z2 * e < t * W) hW]
  have c0 := core 0 0 (by omega)
  have c1 := core w wo (by grind)
  have c2 := core g go hB
  have c3 := core (g + l) (go + lo) (by grind)
  have s0 : sg * 0 = 0 := by omega
  have s1 : sg * w = W := by rcases hWf with ⟨rfl, h1, h2, h3, h4⟩ | ⟨rfl, h1, h2, h3, h4⟩ <;> omega
  have s2 : sg * g = f0 := by rcases hWf with ⟨rfl, h1, h2, h3, h4⟩ | ⟨rfl, h1, h2, h3, h4⟩ <;> omega
  have s3 : sg * (g + l) = f1 := by rcases hWf with ⟨rfl, h1, h2, h3, h4⟩ | ⟨rfl, h1, h2, h3, h4⟩ <;> omega
  rw [s0] at c0; rw [s1] at c1; rw [s2] at c2; rw [s3] at c3
  constructor
  · rintro (h | h | h | h)
    · exact ⟨0, 0, .inl ⟨rfl, rfl⟩, c0.mpr h⟩
    · exact ⟨w, wo, .inr (.inl ⟨rfl, rfl⟩), c1.mpr h⟩
    · exact ⟨g, go, .inr (.inr (.inl ⟨rfl, rfl⟩)), c2.mpr h⟩
    · exact ⟨g + l, go + lo, .inr (.inr (.inr ⟨rfl, rfl⟩)), c3.mpr h⟩
  · rintro ⟨u, uo, ⟨rfl, rfl⟩ | ⟨rfl, rfl⟩ | ⟨rfl, rfl⟩ | ⟨rfl, rfl⟩, h⟩
    · exact .inl (c0.mp h)
    · exact .inr (.inl (c1.mp h))
    · exact .inr (.inr (.inl (c2.mp h)))
    · exact .inr (.inr (.inr (c3.mp h)))
theorem ptB_iff {p q : Hl} {r : Rg} {u v : Int} : ptB p q r u v = true ↔ ptG (q.x - p.x) (q.y - p.y) (r.c - r.a) (r.d - r.b) (r.a - p.x) (r.b - p.y) (u - p.x) (v - p.y) p.z q.z r.t := by
  unfold ptB ptG
  rw [show u - p.x - (r.a - p.x) = u - r.a by omega, show v - p.y - (r.b - p.y) = v - r.b by omega]
  simp only [Bool.and_eq_true, decide_eq_true_eq, lowI_iff]
theorem hid_eq {p q : Hl} {r : Rg} (hw : p.x ≠ q.x ∨ p.y ≠ q.y) (hl : r.a ≠ r.c ∨ r.b ≠ r.d) : hidB p q r = lhB p q r := by
  obtain ⟨S, hS⟩ : ∃ S, S = crossI (q.x - p.x) (q.y - p.y) (r.c - r.a) (r.d - r.b) := ⟨_, rfl⟩
  obtain ⟨A, hA⟩ : ∃ A, A = crossI (r.a - p.x) (r.b - p.y) (r.c - r.a) (r.d - r.b) := ⟨_, rfl⟩
  obtain ⟨B, hB⟩ : ∃ B, B = crossI (r.a - p.x) (r.b - p.y) (q.x - p.x) (q.y - p.y) := ⟨_, rfl⟩
  have t1 : turnI r.a r.b r.c r.d p.x p.y = A := by rw [hA]; unfold turnI crossI; grind
  have t2 : turnI r.a r.b r.c r.d q.x q.y = A - S := by rw [hA, hS]; unfold turnI crossI; grind
  have t3 : turnI p.x p.y q.x q.y r.a r.b = -B := by rw [hB]; unfold turnI crossI; grind
  have t4 : turnI p.x p.y q.x q.y r.c r.d = S - B := by rw [hB, hS]; unfold turnI crossI; grind
  have r1 : (q.x - p.x) * A = (r.c - r.a) * B + (r.a - p.x) * S := by rw [hA, hS, hB]; unfold crossI; grind
  have r2 : (q.y - p.y) * A = (r.d - r.b) * B + (r.b - p.y) * S := by rw [hA, hS, hB]; unfold crossI; grind
  unfold hidB sharesL lhB
  dsimp only
  rw [t1, t2, t3, t4, ← hS, ← hA, ← hB]
  by_cases hS0 : S = 0
  · rw [if_neg (by simpa using hS0 : ¬ (S ≠ 0))]
    by_cases hA0 : A = 0
    · rw [if_pos ⟨hA0, by omega⟩]
      rw [hA0, hS0] at r1 r2
      have hB0 : B = 0 := by
        have e1 : (r.c - r.a) * B = 0 := by omega
        have e2 : (r.d - r.b) * B = 0 := by omega
        rcases hl with h | h
        · rcases Int.mul_eq_zero.mp e1 with z | z
          · omega
          · exact z
        · rcases Int.mul_eq_zero.mp e2 with z | z
          · omega
          · exact z
      rw [if_neg (by simpa using hB0 : ¬ (B ≠ 0))]
      have qS : (q.x - p.x) * (r.d - r.b) = (q.y - p.y) * (r.c - r.a) := by
        have : crossI (q.x - p.x) (q.y - p.y) (r.c - r.a) (r.d - r.b) = 0 := by rw [← hS]; exact hS0
        unfold crossI at this; omega
      have qB : (r.b - p.y) * (q.x - p.x) = (r.a - p.x) * (q.y - p.y) := by
        have : crossI (r.a - p.x) (r.b - p.y) (q.x - p.x) (q.y - p.y) = 0 := by rw [← hB]; exact hB0
        unfold crossI at this; omega
      rw [Bool.eq_iff_iff]
      simp only [Bool.or_eq_true, ptB_iff]
      unfold alongL
      have four : ∀ P : Int → Int → Prop, (P (p.x - p.x) (p.y - p.y) ∨ P (q.x - p.x) (q.y - p.y) ∨ P (r.a - p.x) (r.b - p.y) ∨ P (r.c - p.x) (r.d - p.y)) ↔
          ∃ u uo : Int, ((u = 0 ∧ uo = 0) ∨ (u = q.x - p.x ∧ uo = q.y - p.y) ∨ (u = r.a - p.x ∧ uo = r.b - p.y) ∨ (u = r.a - p.x + (r.c - r.a) ∧ uo = r.b - p.y + (r.d - r.b))) ∧ P u uo := fun P => by
        rw [show r.a - p.x + (r.c - r.a) = r.c - p.x by omega, show r.b - p.y + (r.d - r.b) = r.d - p.y by omega, Int.sub_self, Int.sub_self]
        constructor
        · rintro (h | h | h | h)
          · exact ⟨0, 0, .inl ⟨rfl, rfl⟩, h⟩
          · exact ⟨_, _, .inr (.inl ⟨rfl, rfl⟩), h⟩
          · exact ⟨_, _, .inr (.inr (.inl ⟨rfl, rfl⟩)), h⟩
          · exact ⟨_, _, .inr (.inr (.inr ⟨rfl, rfl⟩)), h⟩
        · rintro ⟨u, uo, ⟨rfl, rfl⟩ | ⟨rfl, rfl⟩ | ⟨rfl, rfl⟩ | ⟨rfl, rfl⟩, h⟩
          · exact .inl h
          · exact .inr (.inl h)
          · exact .inr (.inr (.inl h))
          · exact .inr (.inr (.inr h))
      rw [four fun u v => ptG (q.x - p.x) (q.y - p.y) (r.c - r.a) (r.d - r.b) (r.a - p.x) (r.b - p.y) u v p.z q.z r.t]
      by_cases hx : p.x ≠ q.x
      · rw [if_pos hx]
        have hl0 : r.c - r.a ≠ 0 := fun z => by
          rw [z, Int.mul_zero] at qS
          rcases Int.mul_eq_zero.mp qS with y | y
          · omega
          · rcases hl with h | h <;> omega
        rw [axis_eq (w := q.x - p.x) (wo := q.y - p.y) (l := r.c - r.a) (lo := r.d - r.b) (g := r.a - p.x) (go := r.b - p.y) (by omega) qS qB hl0 (by
          unfold alongX
          rw [show r.a - p.x + (r.c - r.a) = r.c - p.x by omega])]
      · rw [if_neg hx]
        have hx : p.x = q.x := by omega
        have hl0 : r.d - r.b ≠ 0 := fun z => by
          rw [z, Int.mul_zero] at qS
          rcases Int.mul_eq_zero.mp qS.symm with y | y
          · omega
          · rcases hl with h | h <;> omega
        rw [axis_eq (w := q.y - p.y) (wo := q.x - p.x) (l := r.d - r.b) (lo := r.c - r.a) (g := r.b - p.y) (go := r.a - p.x) (by omega) qS.symm qB.symm hl0 (by
          unfold alongX
          rw [show r.b - p.y + (r.d - r.b) = r.d - p.y by omega])]
        constructor
        · rintro ⟨u, uo, h1, h2⟩
          exact ⟨uo, u, by rcases h1 with ⟨a, b⟩ | ⟨a, b⟩ | ⟨a, b⟩ | ⟨a, b⟩ <;> simp [a, b], ptG_swap.mp h2⟩
        · rintro ⟨u, uo, h1, h2⟩
          exact ⟨uo, u, by rcases h1 with ⟨a, b⟩ | ⟨a, b⟩ | ⟨a, b⟩ | ⟨a, b⟩ <;> simp [a, b], ptG_swap.mpr h2⟩
    · rw [if_neg (fun z => hA0 z.1), if_pos (by rw [hS0, Int.sub_zero]; exact sq_pos hA0)]
      have hB0 : B ≠ 0 := fun z => by
        rw [z, hS0] at r1 r2
        simp only [Int.mul_zero, Int.zero_add] at r1 r2
        rcases hw with h | h
        · rcases Int.mul_eq_zero.mp r1 with y | y
          · omega
          · exact hA0 y
        · rcases Int.mul_eq_zero.mp r2 with y | y
          · omega
          · exact hA0 y
      rw [if_pos hB0]; rfl
  · rw [if_pos hS0, if_neg (by omega)]
    have m1 := mul_sign (x := A) (y := A - S)
    have m2 := mul_sign (x := -B) (y := S - B)
    obtain ⟨sg, hsg⟩ : ∃ sg, sg = sgS S := ⟨_, rfl⟩
    rw [← hsg]
    have hsg2 : (0 < S ∧ sg = 1) ∨ (S < 0 ∧ sg = -1) := by
      rw [hsg]; unfold sgS
      by_cases c : 0 < S
      · rw [if_pos c]; exact .inl ⟨c, rfl⟩
      · rw [if_neg c]; exact .inr ⟨by omega, rfl⟩
    have eA : A * sg = if 0 < S then A else -A := by rcases hsg2 with ⟨c, rfl⟩ | ⟨c, rfl⟩ <;> split <;> omega
    have eB : B * sg = if 0 < S then B else -B := by rcases hsg2 with ⟨c, rfl⟩ | ⟨c, rfl⟩ <;> split <;> omega
    have eS : S * sg = if 0 < S then S else -S := by rcases hsg2 with ⟨c, rfl⟩ | ⟨c, rfl⟩ <;> split <;> omega
    rw [eA, eB, eS]
    by_cases cA : 0 < A * (A - S)
    · rw [if_pos cA]
      have : ¬ (0 ≤ (if 0 < S then A else -A) ∧ (if 0 < S then A else -A) ≤ (if 0 < S then S else -S)) := by
        rcases m1.mp cA with h | h <;> split <;> omega
      rw [decide_eq_false this]; rfl
    · rw [if_neg cA]
      have hA : 0 ≤ (if 0 < S then A else -A) ∧ (if 0 < S then A else -A) ≤ (if 0 < S then S else -S) := by
        have : ¬ ((0 < A ∧ 0 < A - S) ∨ (A < 0 ∧ A - S < 0)) := fun z => cA (m1.mpr z)
        split <;> omega
      rw [decide_eq_true hA, Bool.true_and]
      by_cases cB : 0 < -B * (S - B)
      · rw [if_pos cB]
        have : ¬ (0 ≤ (if 0 < S then B else -B) ∧ (if 0 < S then B else -B) ≤ (if 0 < S then S else -S)) := by
          rcases m2.mp cB with h | h <;> split <;> omega
        rw [decide_eq_false this]; rfl
      · rw [if_neg cB]
        have hB : 0 ≤ (if 0 < S then B else -B) ∧ (if 0 < S then B else -B) ≤ (if 0 < S then S else -S) := by
          have : ¬ ((0 < -B ∧ 0 < S - B) ∨ (-B < 0 ∧ S - B < 0)) := fun z => cB (m2.mpr z)
          split <;> omega
        rw [decide_eq_true hB, Bool.true_and]
        have v1 : (A.natAbs : Int) = if 0 < S then A else -A := by split <;> rename_i c <;> simp only [c, if_true, if_false] at hA <;> omega
        have v2 : (A.natAbs : Int) + (A - S).natAbs = if 0 < S then S else -S := by split <;> rename_i c <;> simp only [c, if_true, if_false] at hA <;> omega
        rw [v2, v1]
        simp only [List.any_cons, List.any_nil, Bool.or_false, Bool.or_self]
end Fs
set_option autoImplicit false
set_option linter.all false
set_option maxRecDepth 100000
namespace Fs
open PySem
variable {n : Nat}
/-! ### is_hidden -/
abbrev hilD (p : Hl) : D := .tuple [.int p.x, .int p.y, .int p.z]
abbrev rgD (r : Rg) : D := .tuple [.int r.a, .int r.b, .int r.c, .int r.d, .int r.t]
abbrev prD (ab : Int × Int) : D := .tuple [.int ab.1, .int ab.2]
def Sm (i : Int) : Prop := -10000 ≤ i ∧ i ≤ 10000
structure HlS (p : Hl) : Prop where
  x : Sm p.x
  y : Sm p.y
  z : Sm p.z
structure RgS (r : Rg) : Prop where
  a : Sm r.a
  b : Sm r.b
  c : Sm r.c
  d : Sm r.d
  t : Sm r.t
theorem small_of {i : Int} (h : -1000000000000 ≤ i ∧ i ≤ 1000000000000) : small i = true := by
  unfold small
  exact decide_eq_true (by omega)
theorem small_sub {i j : Int} (hi : Sm i) (hj : Sm j) : small (i - j) = true := small_of (by unfold Sm at *; omega)
theorem small_sm {i : Int} (hi : Sm i) : small i = true := small_of (by unfold Sm at *; omega)
theorem turn_ok {P Q R : D} {px py qx qy rx ry : Int} (p0 : idxD P (.int 0) = some (.int px)) (p1 : idxD P (.int 1) = some (.int py)) (q0 : idxD Q (.int 0) = some (.int qx)) (q1 : idxD Q (.int 1) = some (.int qy)) (r0 : idxD R (.int 0) = some (.int rx)) (r1 : idxD R (.int 1) = some (.int ry)) (hpx : Sm px) (hpy : Sm py) (hqx : Sm qx) (hqy : Sm qy) :
    call Ir.tbl (n + 1) 7 [.dat P, .dat Q, .dat R] = .ok (.dat (.int (turnI px py qx qy rx ry))) [.dat P, .dat Q, .dat R] := by
  have s1 := small_sub hqx hpx
  have s2 := small_sub hqy hpy
  exact run (fn := Ir.f_turn) rfl rfl fun d => by simp [Ir.f_turn, p0, p1, q0, q1, r0, r1, binop, s1, s2, turnI]
theorem sl_ab (r : Rg) : slcD (rgD r) none (some 2) = some (.dat (.tuple [.int r.a, .int r.b])) := rfl
theorem sl_cd (r : Rg) : slcD (rgD r) (some 2) (some 4) = some (.dat (.tuple [.int r.c, .int r.d])) := rfl
theorem sl_xy (p : Hl) : slcD (hilD p) none (some 2) = some (.dat (.tuple [.int p.x, .int p.y])) := rfl
theorem alikes_int (ns : List Int) : alikes (ns.map .int) = true := by
  unfold alikes
  simp only [Bool.and_eq_true, List.all_eq_true, List.mem_map]
  refine ⟨⟨?_, ?_⟩, ?_⟩
  · rintro x ⟨i, _, rfl⟩; rfl
  · rintro x ⟨i, _, rfl⟩; rfl
  · rintro x ⟨i, _, rfl⟩ y ⟨j, _, rfl⟩; simp [W.alike]
theorem min_two (a b : Int) : prim .min1 [.list [.int a, .int b]] = some (.dat (.int (min a b))) := by
  show (if alikes ([a, b].map .int) = true then some (Vl.dat (W.minD (.int a) ([b].map .int))) else none) = _
  rw [if_pos (alikes_int _), W.minD_ints]; rfl
theorem max_two (a b : Int) : prim .max1 [.list [.int a, .int b]] = some (.dat (.int (max a b))) := by
  show (if alikes ([a, b].map .int) = true then some (Vl.dat (W.maxD (.int a) ([b].map .int))) else none) = _
  rw [if_pos (alikes_int _), W.maxD_ints]; rfl
theorem prim_max2 (a b : Int) : prim .max2 [.int a, .int b] = some (.dat (.int (max a b))) := by
  show some (Vl.dat (.int (if b > a then b else a))) = _
  congr 3
  split <;> omega
theorem prim_min2 (a b : Int) : prim .min2 [.int a, .int b] = some (.dat (.int (min a b))) := by
  show some (Vl.dat (.int (if b < a then b else a))) = _
  congr 3
  split <;> omega
theorem along_ok (p q : Hl) (r : Rg) : call Ir.tbl (n + 1) 9 [.dat (hilD p), .dat (hilD q), .dat (rgD r)] = .ok (.dat (.tuple ((alongL p q r).map prD))) [.dat (hilD p), .dat (hilD q), .dat (rgD r)] := by
  have P0 : idxD (hilD p) (.int 0) = some (.int p.x) := rfl
  have P1 : idxD (hilD p) (.int 1) = some (.int p.y) := rfl
  have Q0 : idxD (hilD q) (.int 0) = some (.int q.x) := rfl
  have Q1 : idxD (hilD q) (.int 1) = some (.int q.y) := rfl
  have R0 : idxD (rgD r) (.int 0) = some (.int r.a) := rfl
  have R1 : idxD (rgD r) (.int 1) = some (.int r.b) := rfl
  have R2 : idxD (rgD r) (.int 2) = some (.int r.c) := rfl
  have R3 : idxD (rgD r) (.int 3) = some (.int r.d) := rfl
  have l2 : (2 : Nat) ≤ lim := by unfold lim; omega
  refine run (fn := Ir.f_along) rfl rfl fun d => ?_
  generalize hP : (hilD p) = HP at *
  generalize hQ : (hilD q) = HQ at *
  generalize hR : (rgD r) = HR at *
  unfold alongL alongX alongW
  by_cases hx : p.x = q.x
  · rw [if_neg (by simpa using hx)]
    by_cases hw : q.y - p.y < 0
    · rw [if_pos hw]
      simp only [Int.zero_sub]
      have m1 := min_two (-(r.b - p.y)) (-(r.d - p.y))
      have m2 := max_two (-(r.b - p.y)) (-(r.d - p.y))
      have m3 := prim_max2 0 (min (-(r.b - p.y)) (-(r.d - p.y)))
      have m4 := prim_min2 (-(q.y - p.y)) (max (-(r.b - p.y)) (-(r.d - p.y)))
      generalize min (-(r.b - p.y)) (-(r.d - p.y)) = mn at *
      generalize max (-(r.b - p.y)) (-(r.d - p.y)) = mx at *
      by_cases c : max 0 mn ≤ min (-(q.y - p.y)) mx
      · rw [if_pos c]
        generalize max 0 mn = b at *
        generalize min (-(q.y - p.y)) mx = m at *
        simp [Ir.f_along, P0, P1, Q0, Q1, R0, R1, R2, R3, cmpD, ltD, okD, binop, l2, hx, hw, m1, m2, m3, m4, c, prD]
      · rw [if_neg c]
        generalize max 0 mn = b at *
        generalize min (-(q.y - p.y)) mx = m at *
        simp [Ir.f_along, P0, P1, Q0, Q1, R0, R1, R2, R3, cmpD, ltD, okD, binop, l2, hx, hw, m1, m2, m3, m4, c, prD]
    · rw [if_neg hw]
      have m1 := min_two (r.b - p.y) (r.d - p.y)
      have m2 := max_two (r.b - p.y) (r.d - p.y)
      have m3 := prim_max2 0 (min (r.b - p.y) (r.d - p.y))
      have m4 := prim_min2 (q.y - p.y) (max (r.b - p.y) (r.d - p.y))
      generalize min (r.b - p.y) (r.d - p.y) = mn at *
      generalize max (r.b - p.y) (r.d - p.y) = mx at *
      by_cases c : max 0 mn ≤ min (q.y - p.y) mx
      · rw [if_pos c]
        generalize max 0 mn = b at *
        generalize min (q.y - p.y) mx = m at *
        simp [Ir.f_along, P0, P1, Q0, Q1, R0, R1, R2, R3, cmpD, ltD, okD, binop, l2, hx, hw, m1, m2, m3, m4, c, prD]
      · rw [if_neg c]
        generalize max 0 mn = b at *
        generalize min (q.y - p.y) mx = m at *
        simp [Ir.f_along, P0, P1, Q0, Q1, R0, R1, R2, R3, cmpD, ltD, okD, binop, l2, hx, hw, m1, m2, m3, m4, c, prD]
  · rw [if_pos hx]
    by_cases hw : q.x - p.x < 0
    · rw [if_pos hw]
      simp only [Int.zero_sub]
      have m1 := min_two (-(r.a - p.x)) (-(r.c - p.x))
      have m2 := max_two (-(r.a - p.x)) (-(r.c - p.x))
      have m3 := prim_max2 0 (min (-(r.a - p.x)) (-(r.c - p.x)))
      have m4 := prim_min2 (-(q.x - p.x)) (max (-(r.a - p.x)) (-(r.c - p.x)))
      generalize min (-(r.a - p.x)) (-(r.c - p.x)) = mn at *
      generalize max (-(r.a - p.x)) (-(r.c - p.x)) = mx at *
      by_cases c : max 0 mn ≤ min (-(q.x - p.x)) mx
      · rw [if_pos c]
        generalize max 0 mn = b at *
        generalize min (-(q.x - p.x)) mx = m at *
        simp [Ir.f_along, P0, P1, Q0, Q1, R0, R1, R2, R3, cmpD, ltD, okD, binop, l2, hx, hw, m1, m2, m3, m4, c, prD]
      · rw [if_neg c]
        generalize max 0 mn = b at *
        generalize min (-(q.x - p.x)) mx = m at *
        simp [Ir.f_along, P0, P1, Q0, Q1, R0, R1, R2, R3, cmpD, ltD, okD, binop, l2, hx, hw, m1, m2, m3, m4, c, prD]
    · rw [if_neg hw]
      have m1 := min_two (r.a - p.x) (r.c - p.x)
      have m2 := max_two (r.a - p.x) (r.c - p.x)
      have m3 := prim_max2 0 (min (r.a - p.x) (r.c - p.x))
      have m4 := prim_min2 (q.x - p.x) (max (r.a - p.x) (r.c - p.x))
      generalize min (r.a - p.x) (r.c - p.x) = mn at *
      generalize max (r.a - p.x) (r.c - p.x) = mx at *
      by_cases c : max 0 mn ≤ min (q.x - p.x) mx
      · rw [if_pos c]
        generalize max 0 mn = b at *
        generalize min (q.x - p.x) mx = m at *
        simp [Ir.f_along, P0, P1, Q0, Q1, R0, R1, R2, R3, cmpD, ltD, okD, binop, l2, hx, hw, m1, m2, m3, m4, c, prD]
      · rw [if_neg c]
        generalize max 0 mn = b at *
        generalize min (q.x - p.x) mx = m at *
        simp [Ir.f_along, P0, P1, Q0, Q1, R0, R1, R2, R3, cmpD, ltD, okD, binop, l2, hx, hw, m1, m2, m3, m4, c, prD]
end Fs
set_option autoImplicit false
set_option linter.all false
set_option maxRecDepth 100000
namespace Fs
open PySem
variable {n : Nat}
theorem mul_bd {x y : Int} {B C : Nat} (hx : x.natAbs ≤ B) (hy : y.natAbs ≤ C) : (x * y).natAbs ≤ B * C := by
  rw [Int.natAbs_mul]; exact Nat.mul_le_mul hx hy
theorem sub_bd {i j : Int} (hi : Sm i) (hj : Sm j) : (i - j).natAbs ≤ 20000 := by unfold Sm at *; omega
theorem turn_sm {px py qx qy rx ry : Int} (hpx : Sm px) (hpy : Sm py) (hqx : Sm qx) (hqy : Sm qy) (hrx : Sm rx) (hry : Sm ry) : small (turnI px py qx qy rx ry) = true := by
  have a := mul_bd (sub_bd hqx hpx) (sub_bd hry hpy)
  have b := mul_bd (sub_bd hqy hpy) (sub_bd hrx hpx)
  unfold turnI
  exact small_of (by omega)
theorem shares_ok {p q : Hl} {r : Rg} (hp : HlS p) (hq : HlS q) (hr : RgS r) : call Ir.tbl (n + 2) 8 [.dat (hilD p), .dat (hilD q), .dat (rgD r)] = .ok (.dat (.tuple ((sharesL p q r).map prD))) [.dat (hilD p), .dat (hilD q), .dat (rgD r)] := by
  have t1 := turn_ok (n := n) (P := .tuple [.int r.a, .int r.b]) (Q := .tuple [.int r.c, .int r.d]) (R := hilD p) (px := r.a) (py := r.b) (qx := r.c) (qy := r.d) (rx := p.x) (ry := p.y) rfl rfl rfl rfl rfl rfl hr.a hr.b hr.c hr.d
  have t2 := turn_ok (n := n) (P := .tuple [.int r.a, .int r.b]) (Q := .tuple [.int r.c, .int r.d]) (R := hilD q) (px := r.a) (py := r.b) (qx := r.c) (qy := r.d) (rx := q.x) (ry := q.y) rfl rfl rfl rfl rfl rfl hr.a hr.b hr.c hr.d
  have t3 := turn_ok (n := n) (P := hilD p) (Q := hilD q) (R := .tuple [.int r.a, .int r.b]) (px := p.x) (py := p.y) (qx := q.x) (qy := q.y) (rx := r.a) (ry := r.b) rfl rfl rfl rfl rfl rfl hp.x hp.y hq.x hq.y
  have t4 := turn_ok (n := n) (P := hilD p) (Q := hilD q) (R := .tuple [.int r.c, .int r.d]) (px := p.x) (py := p.y) (qx := q.x) (qy := q.y) (rx := r.c) (ry := r.d) rfl rfl rfl rfl rfl rfl hp.x hp.y hq.x hq.y
  have m1 := turn_sm hr.a hr.b hr.c hr.d hp.x hp.y
  have m2 := turn_sm hp.x hp.y hq.x hq.y hr.a hr.b
  have e1 := sl_ab r
  have e2 := sl_cd r
  have al := along_ok (n := n) p q r
  refine run (fn := Ir.f_shares) rfl rfl fun d => ?_
  unfold sharesL
  generalize hHP : hilD p = HP at *
  generalize hHQ : hilD q = HQ at *
  generalize hHR : rgD r = HR at *
  generalize turnI r.a r.b r.c r.d p.x p.y = A at *
  generalize turnI r.a r.b r.c r.d q.x q.y = B at *
  generalize turnI p.x p.y q.x q.y r.a r.b = C at *
  generalize turnI p.x p.y q.x q.y r.c r.d = E at *
  by_cases c0 : A = 0 ∧ B = 0
  · rw [if_pos c0]
    obtain ⟨z1, z2⟩ := c0
    subst z1; subst z2
    simp [Ir.f_shares, e1, e2, t1, t2, cmpD, okD, al]
  · rw [if_neg c0]
    have key : ∀ (x : Bool) , True := fun _ => trivial
    by_cases c1 : 0 < A * B
    · rw [if_pos c1]
      by_cases cA : A = 0
      · rw [cA, Int.zero_mul] at c1; omega
      · simp [Ir.f_shares, e1, e2, t1, t2, cmpD, okD, cA, binop, m1, c1]
    · rw [if_neg c1]
      by_cases c2 : 0 < C * E
      · rw [if_pos c2]
        by_cases cA : A = 0
        · have cB : ¬ B = 0 := fun z => c0 ⟨cA, z⟩
          subst cA
          simp [Ir.f_shares, e1, e2, t1, t2, t3, t4, cmpD, okD, cB, binop, m1, m2, c2]
        · simp [Ir.f_shares, e1, e2, t1, t2, t3, t4, cmpD, okD, cA, binop, m1, m2, c1, c2]
      · rw [if_neg c2]
        by_cases cA : A = 0
        · have cB : ¬ B = 0 := fun z => c0 ⟨cA, z⟩
          subst cA
          simp [Ir.f_shares, e1, e2, t1, t2, t3, t4, cmpD, okD, cB, binop, m1, m2, c2, prim, prD]
        · simp [Ir.f_shares, e1, e2, t1, t2, t3, t4, cmpD, okD, cA, binop, m1, m2, c1, c2, prim, prD]
theorem find_some {α : Type} (p : α → Bool) (v : D) : ∀ as : List α, (as.findSome? fun a => if p a = true then some v else none) = if as.any p = true then some v else none
  | [] => rfl
  | a :: as => by
    rw [List.findSome?_cons, List.any_cons]
    cases h : p a with
    | true => simp
    | false => simp [find_some p v as]
theorem hidden_ok {p q : Hl} {r : Rg} (hp : HlS p) (hq : HlS q) (hr : RgS r) : call Ir.tbl (n + 3) 10 [.dat (hilD p), .dat (hilD q), .dat (rgD r)] = .ok (.dat (.bool (hidB p q r))) [.dat (hilD p), .dat (hilD q), .dat (rgD r)] := by
  have e := shares_ok (n := n) hp hq hr
  have P2 : idxD (hilD p) (.int 2) = some (.int p.z) := rfl
  have Q2 : idxD (hilD q) (.int 2) = some (.int q.z) := rfl
  have R4 : idxD (rgD r) (.int 4) = some (.int r.t) := rfl
  have s1 := small_sm hp.z
  have s2 := small_sm hq.z
  have s3 := small_sm hr.t
  refine run (fn := Ir.f_is_hidden) rfl rfl fun d => ?_
  generalize hHP : hilD p = HP at *
  generalize hHQ : hilD q = HQ at *
  generalize hHR : rgD r = HR at *
  have w := for_find (C := call Ir.tbl (n + 2)) (n := d + 29) (tg := [3, 4]) (one := false) (it := .call 8 [.ref 0, .ref 1, .ref 2] 0) (b := Ir.l_is_hidden_1) prD (sharesL p q r) [.dat HP, .dat HQ, .dat HR, .un, .un] 3 (fun ab => if lowI p.z q.z r.t ab.1 ab.2 = true then some (.bool true) else none) (by simp [e]) (fun ab hab => by
    unfold lowI
    by_cases c : p.z * (ab.2 - ab.1) + q.z * ab.1 < r.t * ab.2
    · rw [if_pos (decide_eq_true c)]
      refine ⟨[.dat HP, .dat HQ, .dat HR, .dat (.int ab.1), .dat (.int ab.2)], ?_, rfl⟩
      simp [forB, Ir.l_is_hidden_1, P2, Q2, R4, binop, s1, s2, s3, cmpD, ltD, c]
    · simp [forB, Ir.l_is_hidden_1, P2, Q2, R4, binop, s1, s2, s3, cmpD, ltD, c])
  rw [find_some (fun ab : Int × Int => lowI p.z q.z r.t ab.1 ab.2)] at w
  unfold hidB
  cases hq2 : (sharesL p q r).any fun ab => lowI p.z q.z r.t ab.1 ab.2 with
  | true =>
    rw [if_pos hq2] at w
    obtain ⟨s', w, w2⟩ := w
    simp [Ir.f_is_hidden, w, w2]
  | false =>
    rw [if_neg (by rw [hq2]; simp)] at w
    simp [Ir.f_is_hidden, w]
end Fs
set_option autoImplicit false
set_option linter.all false
set_option maxRecDepth 100000
set_option maxHeartbeats 4000000
namespace Fs
open PySem
variable {n : Nat}
/-! ### _law_hides -/
theorem bd_small {i : Int} (h : i.natAbs ≤ 1000000000) : small i = true := small_of (by omega)
theorem cross_ok {ax ay bx bw : Int} (h1 : ax.natAbs ≤ 20000) (h2 : ay.natAbs ≤ 20000) : call Ir.tbl (n + 1) 21 [.dat (.tuple [.int ax, .int ay]), .dat (.tuple [.int bx, .int bw])] = .ok (.dat (.int (crossI ax ay bx bw))) [.dat (.tuple [.int ax, .int ay]), .dat (.tuple [.int bx, .int bw])] := by
  have s1 := bd_small (i := ax) (by omega)
  have s2 := bd_small (i := ay) (by omega)
  exact run (fn := Ir.f__law_cross) rfl rfl fun d => by simp [Ir.f__law_cross, idxD, at?, binop, s1, s2, crossI]
theorem low_ok {p q : Hl} {a b t : Int} (hp : HlS p) (hq : HlS q) (ht : Sm t) : call Ir.tbl (n + 1) 22 [.dat (hilD p), .dat (hilD q), .dat (.int a), .dat (.int b), .dat (.int t)] = .ok (.dat (.bool (lowI p.z q.z t a b))) [.dat (hilD p), .dat (hilD q), .dat (.int a), .dat (.int b), .dat (.int t)] := by
  have s1 := small_sm hp.z
  have s2 := small_sm hq.z
  have s3 := small_sm ht
  exact run (fn := Ir.f__law_low) rfl rfl fun d => by simp [Ir.f__law_low, idxD, at?, binop, s1, s2, s3, cmpD, ltD, lowI]
theorem cross_bd {ax ay bx bw : Int} (h1 : ax.natAbs ≤ 20000) (h2 : ay.natAbs ≤ 20000) (h3 : bx.natAbs ≤ 20000) (h4 : bw.natAbs ≤ 20000) : (crossI ax ay bx bw).natAbs ≤ 1000000000 := by
  have a := mul_bd h1 h4
  have b := mul_bd h2 h3
  unfold crossI; omega
theorem hides_ok {p q : Hl} {r : Rg} (hp : HlS p) (hq : HlS q) (hr : RgS r) : call Ir.tbl (n + 2) 23 [.dat (hilD p), .dat (hilD q), .dat (rgD r)] = .ok (.dat (.bool (lhB p q r))) [.dat (hilD p), .dat (hilD q), .dat (rgD r)] := by
  have P0 : idxD (hilD p) (.int 0) = some (.int p.x) := rfl
  have P1 : idxD (hilD p) (.int 1) = some (.int p.y) := rfl
  have Q0 : idxD (hilD q) (.int 0) = some (.int q.x) := rfl
  have Q1 : idxD (hilD q) (.int 1) = some (.int q.y) := rfl
  have R0 : idxD (rgD r) (.int 0) = some (.int r.a) := rfl
  have R1 : idxD (rgD r) (.int 1) = some (.int r.b) := rfl
  have R2 : idxD (rgD r) (.int 2) = some (.int r.c) := rfl
  have R3 : idxD (rgD r) (.int 3) = some (.int r.d) := rfl
  have R4 : idxD (rgD r) (.int 4) = some (.int r.t) := rfl
  have T0 : ∀ a b : Int, idxD (.tuple [.int a, .int b]) (.int 0) = some (.int a) := fun _ _ => rfl
  have T1 : ∀ a b : Int, idxD (.tuple [.int a, .int b]) (.int 1) = some (.int b) := fun _ _ => rfl
  have wx := sub_bd hq.x hp.x
  have wy := sub_bd hq.y hp.y
  have lx := sub_bd hr.c hr.a
  have ly := sub_bd hr.d hr.b
  have gx := sub_bd hr.a hp.x
  have gy := sub_bd hr.b hp.y
  have k1 := cross_ok (n := n) (bx := r.c - r.a) (bw := r.d - r.b) wx wy
  have k2 := cross_ok (n := n) (bx := r.c - r.a) (bw := r.d - r.b) gx gy
  have k3 := cross_ok (n := n) (bx := q.x - p.x) (bw := q.y - p.y) gx gy
  have b2 := bd_small (cross_bd gx gy lx ly)
  have b3 := bd_small (cross_bd gx gy wx wy)
  have b1 := bd_small (cross_bd wx wy lx ly)
  have lw := fun a b => low_ok (n := n) (a := a) (b := b) hp hq hr.t
  have x1 := sl_xy p
  have x2 := sl_xy q
  have x3 := sl_ab r
  have x4 := sl_cd r
  have n1 := bd_small (i := q.x - p.x) (by omega)
  have n2 := bd_small (i := q.y - p.y) (by omega)
  have n3 := bd_small (i := r.c - r.a) (by omega)
  have n4 := bd_small (i := r.d - r.b) (by omega)
  have pts : ∀ uv ∈ [(p.x, p.y), (q.x, q.y), (r.a, r.b), (r.c, r.d)], Sm uv.1 ∧ Sm uv.2 := fun uv h => by
    simp only [List.mem_cons, List.not_mem_nil, or_false] at h
    rcases h with rfl | rfl | rfl | rfl
    · exact ⟨hp.x, hp.y⟩
    · exact ⟨hq.x, hq.y⟩
    · exact ⟨hr.a, hr.b⟩
    · exact ⟨hr.c, hr.d⟩
  refine run (fn := Ir.f__law_hides) rfl rfl fun d => ?_
  have w := for_find (C := call Ir.tbl (n + 1)) (n := d + 29) (tg := [12]) (one := true) (it := .tup [.slc (.ref 0) none (some (.lit (.int 2))), .slc (.ref 1) none (some (.lit (.int 2))), .slc (.ref 2) none (some (.lit (.int 2))), .slc (.ref 2) (some (.lit (.int 2))) (some (.lit (.int 4)))]) (b := Ir.l__law_hides_1) prD [(p.x, p.y), (q.x, q.y), (r.a, r.b), (r.c, r.d)] [.dat (hilD p), .dat (hilD q), .dat (rgD r), .dat (.tuple [.int (q.x - p.x), .int (q.y - p.y)]), .dat (.tuple [.int (r.c - r.a), .int (r.d - r.b)]), .dat (.tuple [.int (r.a - p.x), .int (r.b - p.y)]), .dat (.int (crossI (q.x - p.x) (q.y - p.y) (r.c - r.a) (r.d - r.b))), .un, .un, .un, .dat (.int ((q.x - p.x) * (q.x - p.x) + (q.y - p.y) * (q.y - p.y))), .dat (.int ((r.c - r.a) * (r.c - r.a) + (r.d - r.b) * (r.d - r.b))), .un, .un, .un] 3 (fun uv => if ptB p q r uv.1 uv.2 = true then some (.bool true) else none) (by simp [x1, x2, x3, x4, prD]) (fun uv huv => by
    obtain ⟨h1, h2⟩ := pts uv huv
    have s1 := small_sub h1 hp.x
    have s2 := small_sub h2 hp.y
    have s3 := small_sub h1 hr.a
    have s4 := small_sub h2 hr.b
    unfold ptB
    dsimp only
    generalize crossI (q.x - p.x) (q.y - p.y) (r.c - r.a) (r.d - r.b) = SS
    generalize hsq : (q.x - p.x) * (q.x - p.x) + (q.y - p.y) * (q.y - p.y) = sq
    generalize htl : (r.c - r.a) * (r.c - r.a) + (r.d - r.b) * (r.d - r.b) = tl
    generalize hpa : (uv.1 - p.x) * (q.x - p.x) + (uv.2 - p.y) * (q.y - p.y) = pa
    generalize hpl : (uv.1 - r.a) * (r.c - r.a) + (uv.2 - r.b) * (r.d - r.b) = pl
    have lw := lw pa sq
    by_cases c1 : 0 ≤ pa ∧ pa ≤ sq
    · by_cases c2 : 0 ≤ pl ∧ pl ≤ tl
      · by_cases c3 : lowI p.z q.z r.t pa sq = true
        · rw [c3] at lw
          have hb : (decide (0 ≤ pa ∧ pa ≤ sq) && (decide (0 ≤ pl ∧ pl ≤ tl) && lowI p.z q.z r.t pa sq)) = true := by simp [c1, c2, c3]
          rw [if_pos hb]
          refine ⟨[.dat (hilD p), .dat (hilD q), .dat (rgD r), .dat (.tuple [.int (q.x - p.x), .int (q.y - p.y)]), .dat (.tuple [.int (r.c - r.a), .int (r.d - r.b)]), .dat (.tuple [.int (r.a - p.x), .int (r.b - p.y)]), .dat (.int SS), .un, .un, .un, .dat (.int sq), .dat (.int tl), .dat (prD uv), .dat (.int pa), .dat (.int pl)], ?_, rfl⟩
          simp [forB, Ir.l__law_hides_1, P0, P1, R0, R1, R4, T0, T1, binop, s1, s2, s3, s4, hpa, hpl, cmpD, c1, c2, lw]
        · have c3 : lowI p.z q.z r.t pa sq = false := by simpa using c3
          rw [c3] at lw
          have hb : ¬ ((decide (0 ≤ pa ∧ pa ≤ sq) && (decide (0 ≤ pl ∧ pl ≤ tl) && lowI p.z q.z r.t pa sq)) = true) := by simp [c3]
          rw [if_neg hb]
          simp [forB, Ir.l__law_hides_1, P0, P1, R0, R1, R4, T0, T1, binop, s1, s2, s3, s4, hpa, hpl, cmpD, c1, c2, lw]
      · have hb : ¬ ((decide (0 ≤ pa ∧ pa ≤ sq) && (decide (0 ≤ pl ∧ pl ≤ tl) && lowI p.z q.z r.t pa sq)) = true) := by
          intro z
          simp only [Bool.and_eq_true, decide_eq_true_eq] at z
          exact c2 z.2.1
        rw [if_neg hb]
        by_cases c3 : 0 ≤ pl
        · have c4 : ¬ pl ≤ tl := fun z => c2 ⟨c3, z⟩
          simp [forB, Ir.l__law_hides_1, P0, P1, R0, R1, R4, T0, T1, binop, s1, s2, s3, s4, hpa, hpl, cmpD, c1, c3, c4]
        · simp [forB, Ir.l__law_hides_1, P0, P1, R0, R1, R4, T0, T1, binop, s1, s2, s3, s4, hpa, hpl, cmpD, c1, c3]
    · have hb : ¬ ((decide (0 ≤ pa ∧ pa ≤ sq) && (decide (0 ≤ pl ∧ pl ≤ tl) && lowI p.z q.z r.t pa sq)) = true) := by
        intro z
        simp only [Bool.and_eq_true, decide_eq_true_eq] at z
        exact c1 z.1
      rw [if_neg hb]
      by_cases c3 : 0 ≤ pa
      · have c4 : ¬ pa ≤ sq := fun z => c1 ⟨c3, z⟩
        simp [forB, Ir.l__law_hides_1, P0, P1, R0, R1, R4, T0, T1, binop, s1, s2, s3, s4, hpa, hpl, cmpD, c3, c4]
      · simp [forB, Ir.l__law_hides_1, P0, P1, R0, R1, R4, T0, T1, binop, s1, s2, s3, s4, hpa, hpl, cmpD, c3])
  rw [find_some (fun uv : Int × Int => ptB p q r uv.1 uv.2)] at w
  have ew : ([(p.x, p.y), (q.x, q.y), (r.a, r.b), (r.c, r.d)].any fun uv => ptB p q r uv.1 uv.2) = (ptB p q r p.x p.y || (ptB p q r q.x q.y || (ptB p q r r.a r.b || ptB p q r r.c r.d))) := by simp
  rw [ew] at w
  unfold lhB
  dsimp only
  generalize (ptB p q r p.x p.y || (ptB p q r q.x q.y || (ptB p q r r.a r.b || ptB p q r r.c r.d))) = PT at w ⊢
  generalize hsq : (q.x - p.x) * (q.x - p.x) + (q.y - p.y) * (q.y - p.y) = sq at w
  generalize htl : (r.c - r.a) * (r.c - r.a) + (r.d - r.b) * (r.d - r.b) = tl at w
  generalize crossI (q.x - p.x) (q.y - p.y) (r.c - r.a) (r.d - r.b) = SS at *
  generalize crossI (r.a - p.x) (r.b - p.y) (r.c - r.a) (r.d - r.b) = AA at *
  generalize crossI (r.a - p.x) (r.b - p.y) (q.x - p.x) (q.y - p.y) = BB at *
  by_cases cS : SS = 0
  · subst cS
    rw [if_neg (by simp)]
    by_cases cB : BB = 0
    · rw [if_neg (by simpa using cB)]
      cases PT with
      | true =>
        rw [if_pos rfl] at w
        obtain ⟨s', w, w2⟩ := w
        simp [Ir.f__law_hides, P0, P1, Q0, Q1, R0, R1, R2, R3, T0, T1, binop, setAll, toO, k1, k3, cmpD, okD, cB, n1, n2, n3, n4, hsq, htl, w, w2]
      | false =>
        rw [if_neg (by simp)] at w
        simp [Ir.f__law_hides, P0, P1, Q0, Q1, R0, R1, R2, R3, T0, T1, binop, setAll, toO, k1, k3, cmpD, okD, cB, n1, n2, n3, n4, hsq, htl, w]
    · rw [if_pos cB]
      simp [Ir.f__law_hides, P0, P1, Q0, Q1, R0, R1, R2, R3, T0, T1, binop, setAll, toO, k1, k3, cmpD, okD, cB]
  · rw [if_pos cS]
    obtain ⟨sg, hsg⟩ : ∃ sg, sg = sgS SS := ⟨_, rfl⟩
    have hs1 : small sg = true := by rw [hsg]; unfold sgS; split <;> decide
    have hife : (0 < SS ∧ sg = 1) ∨ (¬ 0 < SS ∧ sg = -1) := by
      rw [hsg]; unfold sgS
      by_cases c : 0 < SS
      · rw [if_pos c]; exact .inl ⟨c, rfl⟩
      · rw [if_neg c]; exact .inr ⟨c, rfl⟩
    rw [← hsg]
    have lw := lw (AA * sg) (SS * sg)
    clear w ew hsg x1 x2 x3 x4 n1 n2 n3 n4 pts hsq htl hp hq hr wx wy lx ly gx gy
    generalize hilD p = HP at *
    generalize hilD q = HQ at *
    generalize rgD r = HR at *
    rcases hife with ⟨c0, e0⟩ | ⟨c0, e0⟩
    · subst e0
      simp only [Int.mul_one] at lw ⊢
      generalize lowI p.z q.z r.t AA SS = LB at lw ⊢
      by_cases a1 : 0 ≤ AA
      · by_cases a2 : AA ≤ SS
        · by_cases a3 : 0 ≤ BB
          · by_cases a4 : BB ≤ SS
            · simp [Ir.f__law_hides, P0, P1, Q0, Q1, R0, R1, R2, R3, R4, T0, T1, binop, setAll, toO, k1, k2, k3, cmpD, okD, ltD, cS, c0, b1, b2, b3, a1, a2, a3, a4, lw]
            · simp [Ir.f__law_hides, P0, P1, Q0, Q1, R0, R1, R2, R3, R4, T0, T1, binop, setAll, toO, k1, k2, k3, cmpD, okD, ltD, cS, c0, b1, b2, b3, a1, a2, a3, a4]
          · simp [Ir.f__law_hides, P0, P1, Q0, Q1, R0, R1, R2, R3, R4, T0, T1, binop, setAll, toO, k1, k2, k3, cmpD, okD, ltD, cS, c0, b1, b2, b3, a1, a2, a3]
        · simp [Ir.f__law_hides, P0, P1, Q0, Q1, R0, R1, R2, R3, R4, T0, T1, binop, setAll, toO, k1, k2, k3, cmpD, okD, ltD, cS, c0, b1, b2, b3, a1, a2]
      · simp [Ir.f__law_hides, P0, P1, Q0, Q1, R0, R1, R2, R3, R4, T0, T1, binop, setAll, toO, k1, k2, k3, cmpD, okD, ltD, cS, c0, b1, b2, b3, a1]
    · subst e0
      simp only [Int.mul_neg, Int.mul_one] at lw ⊢
      generalize lowI p.z q.z r.t (-AA) (-SS) = LB at lw ⊢
      by_cases a1 : AA ≤ 0
      · by_cases a2 : SS ≤ AA
        · by_cases a3 : BB ≤ 0
          · by_cases a4 : SS ≤ BB
            · simp [Ir.f__law_hides, P0, P1, Q0, Q1, R0, R1, R2, R3, R4, T0, T1, binop, setAll, toO, k1, k2, k3, cmpD, okD, ltD, cS, c0, b1, b2, b3, a1, a2, a3, a4, lw]
            · simp [Ir.f__law_hides, P0, P1, Q0, Q1, R0, R1, R2, R3, R4, T0, T1, binop, setAll, toO, k1, k2, k3, cmpD, okD, ltD, cS, c0, b1, b2, b3, a1, a2, a3, a4]
          · simp [Ir.f__law_hides, P0, P1, Q0, Q1, R0, R1, R2, R3, R4, T0, T1, binop, setAll, toO, k1, k2, k3, cmpD, okD, ltD, cS, c0, b1, b2, b3, a1, a2, a3]
        · simp [Ir.f__law_hides, P0, P1, Q0, Q1, R0, R1, R2, R3, R4, T0, T1, binop, setAll, toO, k1, k2, k3, cmpD, okD, ltD, cS, c0, b1, b2, b3, a1, a2]
      · simp [Ir.f__law_hides, P0, P1, Q0, Q1, R0, R1, R2, R3, R4, T0, T1, binop, setAll, toO, k1, k2, k3, cmpD, okD, ltD, cS, c0, b1, b2, b3, a1]
end Fs
set_option autoImplicit false
set_option linter.all false
set_option maxRecDepth 100000
namespace Fs
open PySem
variable {n : Nat}
/-! ### hills, ridges -/
abbrev hillsD (hs : List Hl) : D := .tuple (hs.map hilD)
abbrev ridgesD (rs : List Rg) : D := .tuple (rs.map rgD)
def Pl (i : Int) : Prop := -1000 ≤ i ∧ i ≤ 1000
structure HlOk (p : Hl) : Prop where
  x : Pl p.x
  y : Pl p.y
  z : 0 ≤ p.z ∧ p.z ≤ 1000
structure RgOk (r : Rg) : Prop where
  a : Pl r.a
  b : Pl r.b
  c : Pl r.c
  d : Pl r.d
  t : 0 ≤ r.t ∧ r.t ≤ 1000
  ne : r.a ≠ r.c ∨ r.b ≠ r.d
structure HlsOk (hs : List Hl) : Prop where
  lo : 1 ≤ hs.length
  hi : hs.length ≤ 9
  ok : ∀ p ∈ hs, HlOk p
  nd : (hs.map fun p => [p.x, p.y]).Nodup
structure RgsOk (rs : List Rg) : Prop where
  hi : rs.length ≤ 20
  ok : ∀ r ∈ rs, RgOk r
theorem abs_le {i : Int} (h : Pl i) : ((i.natAbs : Nat) : Int) ≤ 1000 := by unfold Pl at h; omega
theorem is_hill_ok {p : Hl} (h : HlOk p) : call Ir.tbl (n + 2) 2 [.dat (hilD p)] = .ok (.dat (.bool true)) [.dat (hilD p)] := by
  have s : slcD (hilD p) none (some 2) = some (.dat (.tuple [.int p.x, .int p.y])) := rfl
  have i2 : idxD (hilD p) (.int 2) = some (.int p.z) := rfl
  have l : prim .len [hilD p] = some (.dat (.int 3)) := rfl
  have it : items (hilD p) = some [.int p.x, .int p.y, .int p.z] := rfl
  have ty : isTy .tup (hilD p) = true := rfl
  have a1 := abs_le h.x
  have a2 := abs_le h.y
  have z1 := h.z.1
  have z2 := h.z.2
  have ck : ∀ a b : Int, cmpD .ne (.int a) (.int b) = some (!decide (a = b)) := fun a b => by
    show some (!PyData.eqv (.int a) (.int b)) = _
    rw [eqv_int]
  have cl : ∀ a b : Int, cmpD .le (.int a) (.int b) = some (decide (a ≤ b)) := fun _ _ => rfl
  have pa : ∀ a : Int, prim .abs [.int a] = some (.dat (.int a.natAbs)) := fun _ => rfl
  refine run (fn := Ir.f_is_hill) rfl rfl fun d => ?_
  generalize hilD p = T at *
  simp [Ir.f_is_hill, s, i2, l, it, ty, ck, cl, pa, a1, a2, z1, z2]
theorem sl4 (r : Rg) : slcD (rgD r) none (some 4) = some (.dat (.tuple [.int r.a, .int r.b, .int r.c, .int r.d])) := rfl
theorem ab_ne {r : Rg} (h : r.a ≠ r.c ∨ r.b ≠ r.d) : cmpD .ne (.tuple [.int r.a, .int r.b]) (.tuple [.int r.c, .int r.d]) = some true := by
  show some (!PyData.eqv (.tuple [.int r.a, .int r.b]) (.tuple [.int r.c, .int r.d])) = _
  simp only [PyData.eqv, PyData.eqvAll, eqv_int]
  rcases h with h | h <;> simp [h]
theorem is_ridge_ok {r : Rg} (h : RgOk r) : call Ir.tbl (n + 2) 4 [.dat (rgD r)] = .ok (.dat (.bool true)) [.dat (rgD r)] := by
  have s := sl4 r
  have s1 := sl_ab r
  have s2 := sl_cd r
  have i2 : idxD (rgD r) (.int 4) = some (.int r.t) := rfl
  have l : prim .len [rgD r] = some (.dat (.int 5)) := rfl
  have it : items (rgD r) = some [.int r.a, .int r.b, .int r.c, .int r.d, .int r.t] := rfl
  have ty : isTy .tup (rgD r) = true := rfl
  have a1 := abs_le h.a
  have a2 := abs_le h.b
  have a3 := abs_le h.c
  have a4 := abs_le h.d
  have z1 := h.t.1
  have z2 := h.t.2
  have ne := ab_ne h.ne
  have ck : ∀ a b : Int, cmpD .ne (.int a) (.int b) = some (!decide (a = b)) := fun a b => by
    show some (!PyData.eqv (.int a) (.int b)) = _
    rw [eqv_int]
  have cl : ∀ a b : Int, cmpD .le (.int a) (.int b) = some (decide (a ≤ b)) := fun _ _ => rfl
  have pa : ∀ a : Int, prim .abs [.int a] = some (.dat (.int a.natAbs)) := fun _ => rfl
  refine run (fn := Ir.f_is_ridge) rfl rfl fun d => ?_
  generalize rgD r = T at *
  simp [Ir.f_is_ridge, s, s1, s2, i2, l, it, ty, ck, cl, ne, pa, a1, a2, a3, a4, z1, z2]
theorem are_ridges_ok {rs : List Rg} (h : RgsOk rs) : call Ir.tbl (n + 3) 5 [.dat (ridgesD rs)] = .ok (.dat (.bool true)) [.dat (ridgesD rs)] := by
  have h1 : (rs.length : Int) ≤ 20 := by have := h.hi; omega
  refine run (fn := Ir.f_are_ridges) rfl rfl fun d => ?_
  simp [Ir.f_are_ridges, isTy, prim, cmpD, h1]
  rw [genP_run (fun _ : Rg => true) (fun r hr => by
    have := is_ridge_ok (n := n) (h.ok r hr)
    simp [this])]
  simp
theorem are_hills_ok {hs : List Hl} (h : HlsOk hs) : call Ir.tbl (n + 3) 3 [.dat (hillsD hs)] = .ok (.dat (.bool true)) [.dat (hillsD hs)] := by
  have h1 : (1 : Int) ≤ (hs.length : Int) := by have := h.lo; omega
  have h2 : (hs.length : Int) ≤ 9 := by have := h.hi; omega
  have hlim : hs.length ≤ lim := by have := h.hi; unfold lim; omega
  have c1 : ∀ N, ev (call Ir.tbl (n + 2)) (N + 14) (.comp [1] true (.ref 0) none (.slc (.var 1) none (some (.lit (.int 2)))) [1]) [.dat (hillsD hs), .un] = .ok (.fr (.list ((hs.map fun p => [p.x, p.y]).map q0T))) [.dat (hillsD hs), .un] := fun N => by
    simp [hlim]
    rw [compP_all (fun p : Hl => q0T [p.x, p.y]) (fun p hp => by
      have := sl_xy p
      simp [this, q0T])]
    simp [Function.comp_def]
  have ls : prim .lenset [.list ((hs.map fun p => [p.x, p.y]).map q0T)] = some (.dat (.int (hs.length : Nat))) := by
    have cnt := once_count (rs := hs.map fun p => [p.x, p.y]) h.nd (fun r hr => hr) (fun r hr => hr)
    rw [List.length_map] at cnt
    have a1 : ((hs.map fun p => [p.x, p.y]).map q0T).all isInt = false := by
      cases hs with
      | nil => have := h.lo; simp at this
      | cons p hs => rfl
    have a2 : ((hs.map fun p => [p.x, p.y]).map q0T).all isTupI = true := by
      rw [List.all_eq_true]
      intro x hx
      obtain ⟨r, hr, rfl⟩ := List.mem_map.mp hx
      obtain ⟨p, _, rfl⟩ := List.mem_map.mp hr
      rfl
    have a3 : ((hs.map fun p => [p.x, p.y]).map q0T).length < 64 := by rw [List.length_map, List.length_map]; have := h.hi; omega
    show (if (((hs.map fun p => [p.x, p.y]).map q0T).all isInt && decide (((hs.map fun p => [p.x, p.y]).map q0T).length ≤ 4000)) = true then some (Vl.dat (.int (once ((hs.map fun p => [p.x, p.y]).map q0T)).length)) else if (((hs.map fun p => [p.x, p.y]).map q0T).all isTupI && decide (((hs.map fun p => [p.x, p.y]).map q0T).length < 64)) = true then some (Vl.dat (.int (once ((hs.map fun p => [p.x, p.y]).map q0T)).length)) else none) = _
    rw [a1, Bool.false_and, if_neg (by simp), a2, decide_eq_true a3, Bool.and_self, if_pos rfl, cnt]
  refine run (fn := Ir.f_are_hills) rfl rfl fun d => ?_
  have g1 : ∀ N : Nat, ev (call Ir.tbl (n + 2)) (N + 14) (.gen true 1 (.ref 0) (.call 2 [.var 1] 0)) [.dat (hillsD hs), .un] = .ok (.dat (.bool true)) [.dat (hillsD hs), .un] := fun N => by
    simp
    rw [genP_run (fun _ : Hl => true) (fun p hp => by
      have := is_hill_ok (n := n) (h.ok p hp)
      simp [this])]
    simp
  have ll : prim .len [hillsD hs] = some (.dat (.int (hs.length : Nat))) := by
    show some (Vl.dat (.int (hs.map hilD).length)) = _
    simp
  have ty : isTy .tup (hillsD hs) = true := rfl
  generalize hHD : hillsD hs = T at *
  generalize hGG : (hs.map fun p => [p.x, p.y]).map q0T = GG at *
  simp [Ir.f_are_hills, ty, ll, cmpD, okD, h1, h2, -ev_gen_via, g1, -ev_comp_via, c1, ls]
theorem land_ok {hs : List Hl} {rs : List Rg} (h : HlsOk hs) (k : RgsOk rs) : call Ir.tbl (n + 4) 6 [.dat (hillsD hs), .dat (ridgesD rs)] = .ok (.dat .none) [.dat (hillsD hs), .dat (ridgesD rs)] := by
  have e1 := are_hills_ok (n := n) h
  have e2 := are_ridges_ok (n := n) k
  exact run (fn := Ir.f_need_land) rfl rfl fun d => by simp [Ir.f_need_land, e1, e2]
end Fs
set_option autoImplicit false
set_option linter.all false
set_option maxRecDepth 100000
namespace Fs
open PySem
variable {n : Nat}
/-! ### hiding, net_of, _law_pairs -/
def gh (hs : List Hl) (i : Nat) : Hl := hs.getD i ⟨0, 0, 0⟩
def hidJ (hs : List Hl) (rs : List Rg) (i j : Nat) : Bool := rs.any fun r => hidB (gh hs i) (gh hs j) r
def rowJ (hs : List Hl) (rs : List Rg) (i : Nat) : List (Int × Int) := (((List.range (hs.length - (i + 1))).map fun (k : Nat) => i + 1 + k).filter fun j => !hidJ hs rs i j).map fun (j : Nat) => ((i : Int), (j : Int))
def pairsJ (hs : List Hl) (rs : List Rg) : List (Int × Int) := (List.range hs.length).flatMap (rowJ hs rs)
/-- what the walks ask of hills and ridges -/
structure LandS (hs : List Hl) (rs : List Rg) : Prop where
  hl : hs.length ≤ 9
  rl : rs.length ≤ 20
  h : ∀ p ∈ hs, HlS p
  r : ∀ r ∈ rs, RgS r
  ne : ∀ r ∈ rs, r.a ≠ r.c ∨ r.b ≠ r.d
  nd : (hs.map fun p => [p.x, p.y]).Nodup
section
variable {hs : List Hl} {rs : List Rg}
theorem hil_at {i : Nat} (hi : i < hs.length) : idxD (hillsD hs) (.int (i : Int)) = some (hilD (gh hs i)) ∧ gh hs i ∈ hs := by
  constructor
  · show at? (hs.map hilD) (i : Int) = _
    unfold at? gh
    rw [if_pos (by omega), Int.toNat_natCast, List.getElem?_map, List.getElem?_eq_getElem hi, List.getD_eq_getElem?_getD, List.getElem?_eq_getElem hi]; rfl
  · unfold gh
    rw [List.getD_eq_getElem?_getD, List.getElem?_eq_getElem hi]
    exact List.getElem_mem hi
theorem far_apart (k : LandS hs rs) {i j : Nat} (hi : i < hs.length) (hj : j < hs.length) (hij : i ≠ j) : (gh hs i).x ≠ (gh hs j).x ∨ (gh hs i).y ≠ (gh hs j).y := by
  by_cases c : (gh hs i).x = (gh hs j).x
  · right
    intro e
    have h1 : (hs.map fun p => [p.x, p.y])[i]'(by rw [List.length_map]; exact hi) = (hs.map fun p => [p.x, p.y])[j]'(by rw [List.length_map]; exact hj) := by
      rw [List.getElem_map, List.getElem_map]
      have a1 : gh hs i = hs[i] := by unfold gh; rw [List.getD_eq_getElem?_getD, List.getElem?_eq_getElem hi]; rfl
      have a2 : gh hs j = hs[j] := by unfold gh; rw [List.getD_eq_getElem?_getD, List.getElem?_eq_getElem hj]; rfl
      rw [← a1, ← a2, c, e]
    exact hij ((List.getElem_inj k.nd).mp h1)
  · exact .inl c
theorem any_len {α : Type} (p : α → Bool) : ∀ as : List α, as.any p = !decide ((as.filter p).length = 0)
  | [] => rfl
  | a :: as => by
    rw [List.any_cons, any_len p as, List.filter_cons]
    cases p a <;> simp
/-- a row of pairs, as both write it -/
theorem row_ok (C : CT) (b : List St) (St0 : List (Int × Int) → Nat → S) (k : LandS hs rs) (i : Nat) (hi : i < hs.length) (acc : List (Int × Int)) (hacc : acc.length ≤ 9 * i) (d : Nat)
    (hit : ∀ acc, pit (pv C (d + 28)) (.rng2 (.bin .add (.var 3) (.lit (.int 1))) (.prim .len [.ref 0])) (St0 acc i) = some (((List.range (hs.length - (i + 1))).map fun (q : Nat) => i + 1 + q).map fun (j : Nat) => .int (j : Int), none))
    (one : ∀ (acc : List (Int × Int)) (j : Nat), i < j → j < hs.length → acc.length ≤ 90 → forB C (d + 28) [4] true b (.int (j : Int)) (St0 acc i) = .nx (St0 (if (!hidJ hs rs i j) = true then acc ++ [((i : Int), (j : Int))] else acc) i)) :
    ex C (d + 29) (.for [4] true (.rng2 (.bin .add (.var 3) (.lit (.int 1))) (.prim .len [.ref 0])) b) (St0 acc i) = .nx (St0 (acc ++ rowJ hs rs i) i) ∧ (acc ++ rowJ hs rs i).length ≤ 9 * (i + 1) := by
  have hl := k.hl
  have hrow : (rowJ hs rs i).length ≤ 9 := by
    unfold rowJ
    rw [List.length_map]
    refine Nat.le_trans (List.length_filter_le _ _) ?_
    simp; omega
  obtain ⟨w, _⟩ := for_run (C := C) (n := d + 28) (tg := [4]) (one := true) (it := .rng2 (.bin .add (.var 3) (.lit (.int 1))) (.prim .len [.ref 0])) (b := b) (fun (j : Nat) => .int (j : Int)) ((List.range (hs.length - (i + 1))).map fun (q : Nat) => i + 1 + q) (fun acc => St0 acc i) (fun j a => a.length ≤ 9 * i + j) (fun a j => if (!hidJ hs rs i j) = true then a ++ [((i : Int), (j : Int))] else a) acc (hit acc) (by omega) (fun m j a hj hP => by
    obtain ⟨h5, h6⟩ := List.getElem?_eq_some_iff.mp hj
    simp at h5 h6
    refine ⟨one a j (by omega) (by omega) (by omega), ?_⟩
    split
    · rw [List.length_append]; simp; omega
    · omega)
  rw [foldl_app (fun j => !hidJ hs rs i j) (fun (j : Nat) => [((i : Int), (j : Int))]), ← List.map_eq_flatMap] at w
  exact ⟨w, by rw [List.length_append]; omega⟩
theorem rng_from (i m : Nat) (hi : i < m) (hm : m ≤ 9) : rngD ((i : Int) + 1) (m : Int) = some (((List.range (m - (i + 1))).map fun (q : Nat) => i + 1 + q).map fun (j : Nat) => .int (j : Int)) := by
  unfold rngD
  rw [if_pos ⟨by omega, by omega, by unfold lim; omega⟩]
  have : ((m : Int) - ((i : Int) + 1)).toNat = m - (i + 1) := by omega
  rw [this, List.map_map]
  congr 1
theorem len_hills : prim .len [hillsD hs] = some (.dat (.int (hs.length : Nat))) := by
  show some (Vl.dat (.int (hs.map hilD).length)) = _
  simp
theorem len_ridges : prim .len [ridgesD rs] = some (.dat (.int (rs.length : Nat))) := by
  show some (Vl.dat (.int (rs.map rgD).length)) = _
  simp
theorem any_hid (k : LandS hs rs) {i j : Nat} (hi : i < hs.length) (hj : j < hs.length) (A : Sl) (N : Nat) : ev (call Ir.tbl (n + 3)) (N + 16) (.prim .any [.comp [5] true (.ref 1) none (.call 10 [.idx (.ref 0) (.var 3), .idx (.ref 0) (.var 4), .var 5] 0) [5]]) [.dat (hillsD hs), .dat (ridgesD rs), A, .dat (.int (i : Int)), .dat (.int (j : Int)), .un] = .ok (.dat (.bool (hidJ hs rs i j))) [.dat (hillsD hs), .dat (ridgesD rs), A, .dat (.int (i : Int)), .dat (.int (j : Int)), .un] := by
  obtain ⟨a1, a2⟩ := hil_at hi
  obtain ⟨b1, b2⟩ := hil_at hj
  have hlim : rs.length ≤ lim := by have := k.rl; unfold lim; omega
  generalize hHD : hillsD hs = T at *
  simp [hlim]
  rw [compP_all (fun r : Rg => .bool (hidB (gh hs i) (gh hs j) r)) (fun r hr => by
    have e := hidden_ok (n := n) (k.h _ a2) (k.h _ b2) (k.r r hr)
    simp [a1, b1, e])]
  simp [prim, bools_map, hidJ]
theorem net_ok (h : HlsOk hs) (kr : RgsOk rs) (k : LandS hs rs) : call Ir.tbl (n + 5) 12 [.dat (hillsD hs), .dat (ridgesD rs)] = .ok (.dat (.tuple [.int (hs.length : Nat), .tuple ((pairsJ hs rs).map prD)])) [.dat (hillsD hs), .dat (ridgesD rs)] := by
  have e1 := land_ok (n := n) h kr
  have hl := k.hl
  have ll := len_hills (hs := hs)
  have ah := fun (i j : Nat) (hi : i < hs.length) (hj : j < hs.length) A N => any_hid (n := n + 1) k hi hj A N
  refine run (fn := Ir.f_net_of) rfl rfl fun d => ?_
  generalize hHD : hillsD hs = T at *
  generalize hRD : ridgesD rs = R at *
  obtain ⟨w, _⟩ := for_run (C := call Ir.tbl (n + 4)) (n := d + 29) (tg := [3]) (one := true) (it := .rng1 (.prim .len [.ref 0])) (b := Ir.l_net_of_2) (fun (j : Nat) => .int (j : Int)) (List.range hs.length) (fun acc : List (Int × Int) => [.dat T, .dat R, .mu false (.list (acc.map prD)), .un, .un, .un]) (fun j acc => acc.length ≤ 9 * j) (fun acc i => acc ++ rowJ hs rs i) [] (by simp [ll, rng0 hs.length (by omega)]) (by simp) (fun m i acc hj hP => by
    obtain ⟨h5, h6⟩ := List.getElem?_eq_some_iff.mp hj
    have hb : i = m := by simp at h6; exact h6.symm
    subst hb
    simp at h5
    have hr := rng_from i hs.length h5 hl
    obtain ⟨w1, w2⟩ := row_ok (call Ir.tbl (n + 4)) Ir.l_net_of_1 (fun acc i => [.dat T, .dat R, .mu false (.list (acc.map prD)), .dat (.int (i : Int)), .un, .un]) k i h5 acc hP d (fun acc => by simp [ll, binop, hr]) (fun acc j hij hj hacc => by
      have a := ah i j h5 hj
      have hlim : acc.length < lim := by unfold lim; omega
      cases q : hidJ hs rs i j with
      | true => rw [q] at a; simp [forB, Ir.l_net_of_1, -ev_prim_any, a]
      | false => rw [q] at a; simp [forB, Ir.l_net_of_1, -ev_prim_any, a, isMuL, hlim, prD])
    refine ⟨?_, w2⟩
    simp [forB, Ir.l_net_of_2, w1])
  rw [foldl_all (rowJ hs rs), List.nil_append] at w
  have w : ex (call Ir.tbl (n + 4)) (d + 30) (.for [3] true (.rng1 (.prim .len [.ref 0])) Ir.l_net_of_2) [.dat T, .dat R, .mu false (.list []), .un, .un, .un] = .nx [.dat T, .dat R, .mu false (.list ((pairsJ hs rs).map prD)), .un, .un, .un] := w
  have pt : ∀ xs : List D, prim .tuple [.list xs] = some (.dat (.tuple xs)) := fun _ => rfl
  simp [Ir.f_net_of, e1, ll, w, pt]
end
end Fs
set_option autoImplicit false
set_option linter.all false
set_option maxRecDepth 100000
namespace Fs
open PySem
variable {n : Nat}
/-! ### _law_pairs, hiding, raised -/
theorem cut_lo {α : Type} (xs : List α) {j : Nat} (hj : j ≤ xs.length) : cut xs none (some (j : Int)) = xs.take j := by
  unfold cut sIx
  have h1 : ¬ ((j : Int) < 0) := by omega
  simp [h1]
  try omega
theorem cut_hi {α : Type} (xs : List α) {j : Nat} (hj : j ≤ xs.length) : cut xs (some (j : Int)) none = xs.drop j := by
  unfold cut sIx
  have h1 : ¬ ((j : Int) < 0) := by omega
  simp [h1]
  try rw [show min j xs.length = j by omega]
  try rw [List.take_of_length_le (by simp)]
theorem slc_lo {α : Type} (f : α → D) (xs : List α) {j : Nat} (hj : j < xs.length) : slcD (.tuple (xs.map f)) none (some (j : Int)) = some (.dat (.tuple ((xs.map f).take j))) := by
  show some (Vl.dat (.tuple (cut (xs.map f) none (some (j : Int))))) = _
  rw [cut_lo _ (by rw [List.length_map]; omega)]
theorem slc_hi {α : Type} (f : α → D) (xs : List α) {j : Nat} (hj : j < xs.length) : slcD (.tuple (xs.map f)) (some ((j : Int) + 1)) none = some (.dat (.tuple ((xs.map f).drop (j + 1)))) := by
  show some (Vl.dat (.tuple (cut (xs.map f) (some ((j : Int) + 1)) none))) = _
  rw [show ((j : Int) + 1) = ((j + 1 : Nat) : Int) by omega, cut_hi _ (by rw [List.length_map]; omega)]
def gr (rs : List Rg) (i : Nat) : Rg := rs.getD i ⟨0, 0, 0, 0, 0⟩
def hidT (hs : List Hl) (rs : List Rg) (i j : Nat) : List Nat := (List.range rs.length).filter fun a => decide (i ≠ j) && hidB (gh hs i) (gh hs j) (gr rs a)
section
variable {hs : List Hl} {rs : List Rg}
theorem rg_at {i : Nat} (hi : i < rs.length) : idxD (ridgesD rs) (.int (i : Int)) = some (rgD (gr rs i)) ∧ gr rs i ∈ rs := by
  constructor
  · show at? (rs.map rgD) (i : Int) = _
    unfold at? gr
    rw [if_pos (by omega), Int.toNat_natCast, List.getElem?_map, List.getElem?_eq_getElem hi, List.getD_eq_getElem?_getD, List.getElem?_eq_getElem hi]; rfl
  · unfold gr
    rw [List.getD_eq_getElem?_getD, List.getElem?_eq_getElem hi]
    exact List.getElem_mem hi
theorem land_S (h : HlsOk hs) (k : RgsOk rs) : LandS hs rs where
  hl := h.hi
  rl := k.hi
  h p hp := by
    have := h.ok p hp
    have a := this.x
    have b := this.y
    have c := this.z
    unfold Pl at a b
    exact ⟨by unfold Sm; omega, by unfold Sm; omega, by unfold Sm; omega⟩
  r r hr := by
    have := k.ok r hr
    have a := this.a
    have b := this.b
    have c := this.c
    have e := this.d
    have t := this.t
    unfold Pl at a b c e
    exact ⟨by unfold Sm; omega, by unfold Sm; omega, by unfold Sm; omega, by unfold Sm; omega, by unfold Sm; omega⟩
  ne r hr := (k.ok r hr).ne
  nd := h.nd
theorem some_hid (k : LandS hs rs) {i j : Nat} (hi : i < hs.length) (hj : j < hs.length) (hij : i ≠ j) (A : Sl) (N : Nat) : ev (call Ir.tbl (n + 2)) (N + 16) (.cmp .eq (.prim .len [.comp [5] true (.ref 1) (some (.call 23 [.idx (.ref 0) (.var 3), .idx (.ref 0) (.var 4), .var 5] 0)) (.lit (.int 1)) [5]]) (.lit (.int 0))) [.dat (hillsD hs), .dat (ridgesD rs), A, .dat (.int (i : Int)), .dat (.int (j : Int)), .un] = .ok (.dat (.bool (!hidJ hs rs i j))) [.dat (hillsD hs), .dat (ridgesD rs), A, .dat (.int (i : Int)), .dat (.int (j : Int)), .un] := by
  obtain ⟨a1, a2⟩ := hil_at hi
  obtain ⟨b1, b2⟩ := hil_at hj
  have hlim : rs.length ≤ lim := by have := k.rl; unfold lim; omega
  have far := far_apart k hi hj hij
  have hcn : hidJ hs rs i j = !decide ((rs.filter fun r => hidB (gh hs i) (gh hs j) r).length = 0) := any_len _ _
  generalize hHD : hillsD hs = T at *
  simp [hlim]
  rw [compP_run (fun r : Rg => hidB (gh hs i) (gh hs j) r) (fun _ => .int 1) (fun r hr => by
    have e := hides_ok (n := n) (k.h _ a2) (k.h _ b2) (k.r r hr)
    rw [← hid_eq far (k.ne r hr)] at e
    cases q : hidB (gh hs i) (gh hs j) r <;> rw [q] at e <;> simp [a1, b1, e])]
  rw [hcn]
  generalize rs.filter (fun r => hidB (gh hs i) (gh hs j) r) = F
  have c1 : cmpD .eq (.int (F.length : Int)) (.int 0) = some (decide ((F.length : Int) = 0)) := by
    show some (PyData.eqv (.int (F.length : Int)) (.int 0)) = _
    rw [eqv_int]
  have c2 : decide ((F.length : Int) = 0) = decide (F.length = 0) := by
    by_cases z : F.length = 0
    · rw [decide_eq_true z, decide_eq_true (by omega)]
    · rw [decide_eq_false z, decide_eq_false (by omega)]
  rw [c2] at c1
  simp [prim, c1]
theorem lpairs_ok (k : LandS hs rs) : call Ir.tbl (n + 3) 24 [.dat (hillsD hs), .dat (ridgesD rs)] = .ok (.fr (.list ((pairsJ hs rs).map prD))) [.dat (hillsD hs), .dat (ridgesD rs)] := by
  have hl := k.hl
  have ll := len_hills (hs := hs)
  have ah := fun (i j : Nat) (hi : i < hs.length) (hj : j < hs.length) (hij : i ≠ j) A N => some_hid (n := n) k hi hj hij A N
  refine run (fn := Ir.f__law_pairs) rfl rfl fun d => ?_
  generalize hHD : hillsD hs = T at *
  generalize hRD : ridgesD rs = R at *
  obtain ⟨w, _⟩ := for_run (C := call Ir.tbl (n + 2)) (n := d + 29) (tg := [3]) (one := true) (it := .rng1 (.prim .len [.ref 0])) (b := Ir.l__law_pairs_2) (fun (j : Nat) => .int (j : Int)) (List.range hs.length) (fun acc : List (Int × Int) => [.dat T, .dat R, .mu false (.list (acc.map prD)), .un, .un, .un]) (fun j acc => acc.length ≤ 9 * j) (fun acc i => acc ++ rowJ hs rs i) [] (by simp [ll, rng0 hs.length (by omega)]) (by simp) (fun m i acc hj hP => by
    obtain ⟨h5, h6⟩ := List.getElem?_eq_some_iff.mp hj
    have hb : i = m := by simp at h6; exact h6.symm
    subst hb
    simp at h5
    have hr := rng_from i hs.length h5 hl
    obtain ⟨w1, w2⟩ := row_ok (call Ir.tbl (n + 2)) Ir.l__law_pairs_1 (fun acc i => [.dat T, .dat R, .mu false (.list (acc.map prD)), .dat (.int (i : Int)), .un, .un]) k i h5 acc hP d (fun acc => by simp [ll, binop, hr]) (fun acc j hij hj hacc => by
      have a := ah i j h5 hj (by omega)
      have hlim : acc.length < lim := by unfold lim; omega
      cases q : hidJ hs rs i j with
      | true => rw [q] at a; simp [forB, Ir.l__law_pairs_1, -ev_cmp, a]
      | false => rw [q] at a; simp [forB, Ir.l__law_pairs_1, -ev_cmp, a, isMuL, hlim, prD])
    refine ⟨?_, w2⟩
    simp [forB, Ir.l__law_pairs_2, w1])
  rw [foldl_all (rowJ hs rs), List.nil_append] at w
  have w : ex (call Ir.tbl (n + 2)) (d + 30) (.for [3] true (.rng1 (.prim .len [.ref 0])) Ir.l__law_pairs_2) [.dat T, .dat R, .mu false (.list []), .un, .un, .un] = .nx [.dat T, .dat R, .mu false (.list ((pairsJ hs rs).map prD)), .un, .un, .un] := w
  simp [Ir.f__law_pairs, ll, w]
theorem hiding_ok (h : HlsOk hs) (kr : RgsOk rs) {i j : Nat} (hi : i < hs.length) (hj : j < hs.length) : call Ir.tbl (n + 5) 11 [.dat (hillsD hs), .dat (ridgesD rs), .dat (.int (i : Int)), .dat (.int (j : Int))] = .ok (.dat (.tuple ((hidT hs rs i j).map fun (a : Nat) => .int (a : Int)))) [.dat (hillsD hs), .dat (ridgesD rs), .dat (.int (i : Int)), .dat (.int (j : Int))] := by
  have k := land_S h kr
  have e1 := land_ok (n := n) h kr
  have hr20 := kr.hi
  have ll := len_hills (hs := hs)
  have lr := len_ridges (rs := rs)
  obtain ⟨a1, a2⟩ := hil_at hi
  obtain ⟨b1, b2⟩ := hil_at hj
  have rat := fun (a : Nat) (ha : a < rs.length) => rg_at (rs := rs) ha
  have n1 := fun nm => need_integer_ok (n := n + 2) (i : Int) nm 0 ((hs.length : Int) - 1) (by omega) (by omega)
  have n2 := fun nm => need_integer_ok (n := n + 2) (j : Int) nm 0 ((hs.length : Int) - 1) (by omega) (by omega)
  have hlim : rs.length ≤ lim := by unfold lim; omega
  have pt : ∀ xs : List D, prim .tuple [.list xs] = some (.dat (.tuple xs)) := fun _ => rfl
  have ck : cmpD .ne (.int (i : Int)) (.int (j : Int)) = some (decide (i ≠ j)) := by
    show some (!PyData.eqv (.int (i : Int)) (.int (j : Int))) = _
    rw [eqv_int]
    by_cases z : i = j
    · simp [z]
    · have : ¬ (i : Int) = j := by omega
      simp [z, this]
  refine run (fn := Ir.f_hiding) rfl rfl fun d => ?_
  generalize hHD : hillsD hs = T at *
  generalize hRD : ridgesD rs = R at *
  simp [Ir.f_hiding, e1, ll, lr, binop, n1, n2, rng0 rs.length (by omega), hlim]
  rw [compP_run (fun a : Nat => decide (i ≠ j) && hidB (gh hs i) (gh hs j) (gr rs a)) (fun (a : Nat) => .int (a : Int)) (fun a ha => by
    obtain ⟨c1, c2⟩ := rat a (List.mem_range.mp ha)
    have e := hidden_ok (n := n + 1) (k.h _ a2) (k.h _ b2) (k.r _ c2)
    by_cases z : i = j
    · rw [decide_eq_false (by simpa using z)] at ck ⊢
      simp [ck]
    · rw [decide_eq_true z] at ck ⊢
      cases q : hidB (gh hs i) (gh hs j) (gr rs a) <;> rw [q] at e <;> simp [ck, a1, b1, c1, e])]
  simp [pt, hidT]
def raiH (hs : List Hl) (i : Nat) (t : Int) : List Hl := hs.set i ⟨(gh hs i).x, (gh hs i).y, (gh hs i).z + t⟩
theorem gh_get {i : Nat} (hi : i < hs.length) : gh hs i = hs[i] := by
  unfold gh; rw [List.getD_eq_getElem?_getD, List.getElem?_eq_getElem hi]; rfl
theorem rai_D {i : Nat} (hi : i < hs.length) (t : Int) : (.tuple ((hs.map hilD).take i ++ (.tuple [.int (gh hs i).x, .int (gh hs i).y, .int ((gh hs i).z + t)] :: (hs.map hilD).drop (i + 1))) : D) = hillsD (raiH hs i t) := by
  unfold raiH
  rw [hillsD, List.set_eq_take_append_cons_drop, if_pos hi, List.map_append, List.map_cons, List.map_take, List.map_drop]
theorem rai_len {i : Nat} {t : Int} : (raiH hs i t).length = hs.length := by unfold raiH; rw [List.length_set]
theorem rai_xy {i : Nat} (hi : i < hs.length) (t : Int) : (raiH hs i t).map (fun p => [p.x, p.y]) = hs.map fun p => [p.x, p.y] := by
  unfold raiH
  rw [List.map_set]
  apply List.ext_getElem (by simp)
  intro m h1 h2
  rw [List.getElem_set]
  split
  · rename_i e
    subst e
    rw [List.getElem_map, gh_get hi]
  · rfl
theorem land_R (h : HlsOk hs) (k : RgsOk rs) {i : Nat} (hi : i < hs.length) {t : Int} (h0 : 0 ≤ t) (h1 : t ≤ 3000) : LandS (raiH hs i t) rs where
  hl := by rw [rai_len]; exact h.hi
  rl := k.hi
  h p hp := by
    have hp := List.mem_or_eq_of_mem_set hp
    rcases hp with hp | hp
    · exact (land_S h k).h p hp
    · subst hp
      have := h.ok _ (hil_at hi).2
      have a := this.x
      have b := this.y
      have c := this.z
      unfold Pl at a b
      exact ⟨by unfold Sm; dsimp only; omega, by unfold Sm; dsimp only; omega, by unfold Sm; dsimp only; omega⟩
  r := (land_S h k).r
  ne := (land_S h k).ne
  nd := by rw [rai_xy hi]; exact h.nd
theorem raised_ok (h9 : hs.length ≤ 9) {i : Nat} (hi : i < hs.length) (t : Int) : call Ir.tbl (n + 1) 13 [.dat (hillsD hs), .dat (.int (i : Int)), .dat (.int t)] = .ok (.dat (hillsD (raiH hs i t))) [.dat (hillsD hs), .dat (.int (i : Int)), .dat (.int t)] := by
  obtain ⟨a1, _⟩ := hil_at hi
  have s1 := slc_lo hilD hs hi
  have s2 := slc_hi hilD hs hi
  have hlim : min i hs.length + 1 ≤ lim := by unfold lim; omega
  have hlim2 : min i hs.length + 1 + (hs.length - (i + 1)) ≤ lim := by unfold lim; omega
  have hlim3 : i + 1 ≤ lim := by unfold lim; omega
  have hlim4 : i + 1 + (hs.length - (i + 1)) ≤ lim := by unfold lim; omega
  have e := rai_D hi t
  refine run (fn := Ir.f_raised) rfl rfl fun d => ?_
  simp [Ir.f_raised, a1, s1, s2, setAll, toO, binop, hlim, hlim2, Nat.min_eq_left (Nat.le_of_lt hi), hlim3, hlim4, e]
theorem lraised_ok (h9 : hs.length ≤ 9) {i : Nat} (hi : i < hs.length) (t : Int) : call Ir.tbl (n + 1) 25 [.dat (hillsD hs), .dat (.int (i : Int)), .dat (.int t)] = .ok (.dat (hillsD (raiH hs i t))) [.dat (hillsD hs), .dat (.int (i : Int)), .dat (.int t)] := by
  obtain ⟨a1, _⟩ := hil_at hi
  have s1 := slc_lo hilD hs hi
  have s2 := slc_hi hilD hs hi
  have hlim : min i hs.length + 1 ≤ lim := by unfold lim; omega
  have hlim2 : min i hs.length + 1 + (hs.length - (i + 1)) ≤ lim := by unfold lim; omega
  have hlim3 : i + 1 ≤ lim := by unfold lim; omega
  have hlim4 : i + 1 + (hs.length - (i + 1)) ≤ lim := by unfold lim; omega
  have hlim5 : 3 ≤ lim := by unfold lim; omega
  have e := rai_D hi t
  have g1 := sl_xy (gh hs i)
  have g2 : idxD (hilD (gh hs i)) (.int 2) = some (.int (gh hs i).z) := rfl
  refine run (fn := Ir.f__law_raised) rfl rfl fun d => ?_
  simp [Ir.f__law_raised, a1, s1, s2, g1, g2, setAll, toO, binop, hlim, hlim2, Nat.min_eq_left (Nat.le_of_lt hi), hlim3, hlim4, hlim5, e]
end
end Fs
set_option autoImplicit false
set_option linter.all false
set_option maxRecDepth 100000
namespace Fs
open PySem
variable {n : Nat}
/-! ### hiding goes both ways -/
theorem low_sym {z1 z2 t a b : Int} : lowI z1 z2 t a b = lowI z2 z1 t (b - a) b := by
  unfold lowI
  rw [show b - (b - a) = a by omega, Int.add_comm]
theorem pt_sym (p q : Hl) (r : Rg) (u v : Int) : ptB p q r u v = ptB q p r u v := by
  unfold ptB
  dsimp only
  have e1 : (p.x - q.x) * (p.x - q.x) + (p.y - q.y) * (p.y - q.y) = (q.x - p.x) * (q.x - p.x) + (q.y - p.y) * (q.y - p.y) := by grind
  have e2 : (u - q.x) * (p.x - q.x) + (v - q.y) * (p.y - q.y) = ((q.x - p.x) * (q.x - p.x) + (q.y - p.y) * (q.y - p.y)) - ((u - p.x) * (q.x - p.x) + (v - p.y) * (q.y - p.y)) := by grind
  rw [e1, e2]
  generalize (q.x - p.x) * (q.x - p.x) + (q.y - p.y) * (q.y - p.y) = sq
  generalize (u - p.x) * (q.x - p.x) + (v - p.y) * (q.y - p.y) = pt
  rw [low_sym (a := pt)]
  congr 1
  rw [decide_eq_decide]
  omega
theorem lh_sym (p q : Hl) (r : Rg) : lhB p q r = lhB q p r := by
  unfold lhB crossI
  dsimp only
  have eS : (p.x - q.x) * (r.d - r.b) - (p.y - q.y) * (r.c - r.a) = -((q.x - p.x) * (r.d - r.b) - (q.y - p.y) * (r.c - r.a)) := by grind
  have eA : (r.a - q.x) * (r.d - r.b) - (r.b - q.y) * (r.c - r.a) = ((r.a - p.x) * (r.d - r.b) - (r.b - p.y) * (r.c - r.a)) - ((q.x - p.x) * (r.d - r.b) - (q.y - p.y) * (r.c - r.a)) := by grind
  have eB : (r.a - q.x) * (p.y - q.y) - (r.b - q.y) * (p.x - q.x) = -((r.a - p.x) * (q.y - p.y) - (r.b - p.y) * (q.x - p.x)) := by grind
  rw [eS, eA, eB]
  generalize (q.x - p.x) * (r.d - r.b) - (q.y - p.y) * (r.c - r.a) = S
  generalize (r.a - p.x) * (r.d - r.b) - (r.b - p.y) * (r.c - r.a) = A
  generalize (r.a - p.x) * (q.y - p.y) - (r.b - p.y) * (q.x - p.x) = B
  by_cases c : S = 0
  · subst c
    simp only [Int.neg_zero, ne_eq, not_true_eq_false, if_false, Int.neg_eq_zero]
    by_cases cB : B = 0
    · subst cB
      simp only [not_true_eq_false, if_false]
      rw [← pt_sym p q, ← pt_sym p q, ← pt_sym p q, ← pt_sym p q]
      cases ptB p q r p.x p.y <;> cases ptB p q r q.x q.y <;> rfl
    · rw [if_pos cB, if_pos cB]
  · rw [if_pos c, if_pos (by omega)]
    have hs : (sgS S = 1 ∧ sgS (-S) = -1) ∨ (sgS S = -1 ∧ sgS (-S) = 1) := by
      unfold sgS
      by_cases z : 0 < S
      · rw [if_pos z, if_neg (by omega)]; exact .inl ⟨rfl, rfl⟩
      · rw [if_neg z, if_pos (by omega)]; exact .inr ⟨rfl, rfl⟩
    rcases hs with ⟨e1, e2⟩ | ⟨e1, e2⟩
    · rw [e1, e2, show (A - S) * -1 = S - A by omega, show -S * -1 = S by omega, show -B * -1 = B by omega, Int.mul_one, Int.mul_one, Int.mul_one, ← low_sym]
      congr 1
      rw [decide_eq_decide]
      omega
    · rw [e1, e2, show (A - S) * 1 = -S - -A by omega, show -S * 1 = -S by omega, show -B * 1 = -B by omega, show A * -1 = -A by omega, show S * -1 = -S by omega, show B * -1 = -B by omega, ← low_sym]
      congr 1
      rw [decide_eq_decide]
      omega
/-! ### least_tower -/
section
variable {hs : List Hl} {rs : List Rg}
def hT (hs : List Hl) (rs : List Rg) (i j : Nat) (v : Nat) : Bool := hidJ (raiH hs i v) rs i j
structure TwI (hs : List Hl) (rs : List Rg) (i j : Nat) (p : Nat × Nat) : Prop where
  le : p.1 ≤ p.2
  hi : p.2 ≤ 2001
  lo : p.1 = 0 ∨ hT hs rs i j (p.1 - 1) = true
  up : p.2 = 2001 ∨ hT hs rs i j p.2 = false
theorem fdiv_two (a b : Nat) : ((a : Int) + (b : Int)).fdiv 2 = (((a + b) / 2 : Nat) : Int) := by
  rw [Int.fdiv_eq_ediv_of_nonneg _ (by omega)]; omega
theorem any_hidV (k : LandS hs rs) {i j : Nat} (hi : i < hs.length) (hj : j < hs.length) (A0 A1 A2 : Sl) (N : Nat) : ev (call Ir.tbl (n + 3)) (N + 16) (.prim .any [.comp [8] true (.ref 1) none (.call 10 [.idx (.var 7) (.ref 2), .idx (.var 7) (.ref 3), .var 8] 0) [8]]) [A0, .dat (ridgesD rs), .dat (.int (i : Int)), .dat (.int (j : Int)), A1, A2, .dat (.int 0), .dat (hillsD hs), .un] = .ok (.dat (.bool (hidJ hs rs i j))) [A0, .dat (ridgesD rs), .dat (.int (i : Int)), .dat (.int (j : Int)), A1, A2, .dat (.int 0), .dat (hillsD hs), .un] := by
  obtain ⟨a1, a2⟩ := hil_at hi
  obtain ⟨b1, b2⟩ := hil_at hj
  have hlim : rs.length ≤ lim := by have := k.rl; unfold lim; omega
  generalize hHD : hillsD hs = T at *
  simp [hlim]
  rw [compP_all (fun r : Rg => .bool (hidB (gh hs i) (gh hs j) r)) (fun r hr => by
    have e := hidden_ok (n := n) (k.h _ a2) (k.h _ b2) (k.r r hr)
    simp [a1, b1, e])]
  simp [prim, bools_map, hidJ]
theorem any_hidW (k : LandS hs rs) {i j : Nat} (hi : i < hs.length) (hj : j < hs.length) (A0 A1 A2 A3 : Sl) (N : Nat) : ev (call Ir.tbl (n + 3)) (N + 16) (.prim .any [.comp [8] true (.ref 1) none (.call 10 [.idx (.var 7) (.ref 2), .idx (.var 7) (.ref 3), .var 8] 0) [8]]) [A0, .dat (ridgesD rs), .dat (.int (i : Int)), .dat (.int (j : Int)), A1, A2, A3, .dat (hillsD hs), .un] = .ok (.dat (.bool (hidJ hs rs i j))) [A0, .dat (ridgesD rs), .dat (.int (i : Int)), .dat (.int (j : Int)), A1, A2, A3, .dat (hillsD hs), .un] := by
  obtain ⟨a1, a2⟩ := hil_at hi
  obtain ⟨b1, b2⟩ := hil_at hj
  have hlim : rs.length ≤ lim := by have := k.rl; unfold lim; omega
  generalize hHD : hillsD hs = T at *
  simp [hlim]
  rw [compP_all (fun r : Rg => .bool (hidB (gh hs i) (gh hs j) r)) (fun r hr => by
    have e := hidden_ok (n := n) (k.h _ a2) (k.h _ b2) (k.r r hr)
    simp [a1, b1, e])]
  simp [prim, bools_map, hidJ]
def towD (v : Nat) : D := if v ≤ 2000 then .int (v : Int) else .none
theorem least_ok (h : HlsOk hs) (kr : RgsOk rs) {i j : Nat} (hi : i < hs.length) (hj : j < hs.length) (hij : i ≠ j) : ∃ v, v ≤ 2001 ∧ (v = 0 ∨ hT hs rs i j (v - 1) = true) ∧ (v = 2001 ∨ hT hs rs i j v = false) ∧ call Ir.tbl (n + 5) 14 [.dat (hillsD hs), .dat (ridgesD rs), .dat (.int (i : Int)), .dat (.int (j : Int))] = .ok (.dat (towD v)) [.dat (hillsD hs), .dat (ridgesD rs), .dat (.int (i : Int)), .dat (.int (j : Int))] := by
  have e1 := land_ok (n := n) h kr
  have h9 := h.hi
  have ll := len_hills (hs := hs)
  have n1 := fun nm => need_integer_ok (n := n + 2) (i : Int) nm 0 ((hs.length : Int) - 1) (by omega) (by omega)
  have n2 := fun nm => need_integer_ok (n := n + 2) (j : Int) nm 0 ((hs.length : Int) - 1) (by omega) (by omega)
  have ck : cmpD .eq (.int (i : Int)) (.int (j : Int)) = some false := by
    show some (PyData.eqv (.int (i : Int)) (.int (j : Int))) = _
    rw [eqv_int, decide_eq_false (by omega)]
  have rk := fun v : Nat => raised_ok (n := n + 3) h9 hi (v : Int)
  have ah := fun (v : Nat) (hv : v ≤ 3000) A0 A1 A2 A3 N => any_hidW (n := n + 1) (land_R h kr hi (t := v) (by omega) (by omega)) (i := i) (j := j) (by rw [rai_len]; exact hi) (by rw [rai_len]; exact hj) A0 A1 A2 A3 N
  obtain ⟨q, hq⟩ := call_at (tbl := Ir.tbl) (i := 14) (fn := Ir.f_least_tower) rfl (n + 4) [.dat (hillsD hs), .dat (ridgesD rs), .dat (.int (i : Int)), .dat (.int (j : Int))] rfl
  generalize hHD : hillsD hs = T at *
  generalize hRD : ridgesD rs = RR at *
  obtain ⟨p, w, hP, ht⟩ := whlL_meas (c := fun s => tst (ev (call Ir.tbl (n + 4)) (q + 29) (.cmp .lt (.var 4) (.var 5)) s)) (f := exs (ex (call Ir.tbl (n + 4)) (q + 29)) Ir.l_least_tower_1) (fun p : Nat × Nat => [.dat T, .dat RR, .dat (.int (i : Int)), .dat (.int (j : Int)), .dat (.int (p.1 : Int)), .dat (.int (p.2 : Int)), .un, .un, .un]) (TwI hs rs i j) (fun p => decide (p.1 < p.2)) (fun p => if hT hs rs i j ((p.1 + p.2) / 2) = true then ((p.1 + p.2) / 2 + 1, p.2) else (p.1, (p.1 + p.2) / 2)) (fun p => p.2 - p.1) (fun p hP => by
    obtain ⟨lo, hi2⟩ := p
    obtain ⟨a1, a2, a3, a4⟩ := hP
    dsimp only at *
    refine ⟨by simp [cmpD, ltD], fun hlt => ?_⟩
    have hlt : lo < hi2 := by simpa using hlt
    have hm : (lo + hi2) / 2 < hi2 := by omega
    have hm0 : lo ≤ (lo + hi2) / 2 := by omega
    have ef := fdiv_two lo hi2
    generalize (lo + hi2) / 2 = m at *
    have hm2 : ¬ (2000 : Int) < (m : Int) := by omega
    have rm := rk m
    have am := ah m (by omega)
    cases hh : hT hs rs i j m with
    | true =>
      have hh2 : hidJ (raiH hs i m) rs i j = true := hh
      rw [hh2] at am
      refine ⟨?_, ?_, ?_⟩
      · simp [Ir.l_least_tower_1, binop, ef, rm, cmpD, ltD, hm2, -ev_prim_any, am]
      · exact ⟨by simp; omega, by simp; omega, .inr (by simpa using hh), a4⟩
      · simp; omega
    | false =>
      have hh2 : hidJ (raiH hs i m) rs i j = false := hh
      rw [hh2] at am
      refine ⟨?_, ?_, ?_⟩
      · simp [Ir.l_least_tower_1, binop, ef, rm, cmpD, ltD, hm2, -ev_prim_any, am]
      · exact ⟨by simp; omega, by simp; omega, a3, .inr (by simpa using hh)⟩
      · simp; omega) turns (0, 2001) ⟨by simp, by simp, .inl rfl, .inl rfl⟩ (by unfold turns; simp)
  obtain ⟨lo, hi2⟩ := p
  obtain ⟨a1, a2, a3, a4⟩ := hP
  have ht : ¬ lo < hi2 := by simpa using ht
  dsimp only at *
  have e : lo = hi2 := by omega
  subst e
  refine ⟨lo, a2, a3, a4, ?_⟩
  have w : ex (call Ir.tbl (n + 4)) (q + 30) (.whl (.cmp .lt (.var 4) (.var 5)) Ir.l_least_tower_1) [.dat T, .dat RR, .dat (.int (i : Int)), .dat (.int (j : Int)), .dat (.int 0), .dat (.int 2001), .un, .un, .un] = .nx [.dat T, .dat RR, .dat (.int (i : Int)), .dat (.int (j : Int)), .dat (.int (lo : Int)), .dat (.int (lo : Int)), .un, .un, .un] := w
  rw [hq]
  unfold towD
  by_cases c : lo ≤ 2000
  · have c2 : cmpD .le (.int (lo : Int)) (.int 2000) = some true := by
      show some (decide ((lo : Int) ≤ 2000)) = _
      rw [decide_eq_true (by omega)]
    rw [if_pos c]
    simp [Ir.f_least_tower, e1, ll, binop, n1, n2, ck, w, c2]
  · have c2 : cmpD .le (.int (lo : Int)) (.int 2000) = some false := by
      show some (decide ((lo : Int) ≤ 2000)) = _
      rw [decide_eq_false (by omega)]
    rw [if_neg c]
    simp [Ir.f_least_tower, e1, ll, binop, n1, n2, ck, w, c2]
end
end Fs
set_option autoImplicit false
set_option linter.all false
set_option maxRecDepth 100000
namespace Fs
open PySem
variable {n : Nat}
/-! ### best_tower -/
def bstS (f : Nat → Nat) (o : Option (Nat × Nat)) (b : Nat) : Option (Nat × Nat) := match o with
  | none => some (b, f b)
  | some (h, m) => if m < f b then some (b, f b) else some (h, m)
def bD : Option (Nat × Nat) → D
  | none => .none
  | some (h, m) => .tuple [.int (h : Int), .int (m : Int)]
theorem fold_cnt {α : Type} (p : α → Bool) : ∀ (as : List α) (c : Nat), as.foldl (fun c a => if p a = true then c + 1 else c) c = c + (as.filter p).length
  | [], c => rfl
  | a :: as, c => by
    rw [List.foldl_cons, fold_cnt p as, List.filter_cons]
    cases p a <;> simp; omega
theorem fold_len {α β : Type} (f : α → List β) : ∀ (as : List α) (c : Nat), as.foldl (fun c a => c + (f a).length) c = c + (as.flatMap f).length
  | [], c => rfl
  | a :: as, c => by
    rw [List.foldl_cons, fold_len f as, List.flatMap_cons, List.length_append]; omega
section
variable {hs : List Hl} {rs : List Rg}
def cntJ (hs : List Hl) (rs : List Rg) (t : Int) (b : Nat) : Nat := (pairsJ (raiH hs b t) rs).length
theorem row_len (hs : List Hl) (rs : List Rg) (i : Nat) : (rowJ hs rs i).length ≤ hs.length := by
  unfold rowJ
  rw [List.length_map]
  refine Nat.le_trans (List.length_filter_le _ _) ?_
  simp
theorem pairs_len (h9 : hs.length ≤ 9) : (pairsJ hs rs).length ≤ 81 := by
  have key : ∀ (is : List Nat) (c : Nat), (is.flatMap (rowJ hs rs)).length ≤ is.length * 9 := by
    intro is c
    induction is with
    | nil => simp
    | cons i is ih =>
      have := row_len hs rs i
      rw [List.flatMap_cons, List.length_append, List.length_cons]
      omega
  have := key (List.range hs.length) 0
  rw [List.length_range] at this
  unfold pairsJ
  omega
theorem any_hidB (k : LandS hs rs) {i j : Nat} (hi : i < hs.length) (hj : j < hs.length) (A0 A2 A3 A4 A5 : Sl) (N : Nat) : ev (call Ir.tbl (n + 3)) (N + 16) (.prim .any [.comp [9] true (.ref 1) none (.call 10 [.idx (.var 6) (.var 7), .idx (.var 6) (.var 8), .var 9] 0) [9]]) [A0, .dat (ridgesD rs), A2, A3, A4, A5, .dat (hillsD hs), .dat (.int (i : Int)), .dat (.int (j : Int)), .un] = .ok (.dat (.bool (hidJ hs rs i j))) [A0, .dat (ridgesD rs), A2, A3, A4, A5, .dat (hillsD hs), .dat (.int (i : Int)), .dat (.int (j : Int)), .un] := by
  obtain ⟨a1, a2⟩ := hil_at hi
  obtain ⟨b1, b2⟩ := hil_at hj
  have hlim : rs.length ≤ lim := by have := k.rl; unfold lim; omega
  generalize hHD : hillsD hs = T at *
  simp [hlim]
  rw [compP_all (fun r : Rg => .bool (hidB (gh hs i) (gh hs j) r)) (fun r hr => by
    have e := hidden_ok (n := n) (k.h _ a2) (k.h _ b2) (k.r r hr)
    simp [a1, b1, e])]
  simp [prim, bools_map, hidJ]
theorem cnt_row (k : LandS hs rs) {A0 A2 A3 A4 : Sl} {i : Nat} (hi : i < hs.length) (c : Nat) (d : Nat) : ex (call Ir.tbl (n + 3)) (d + 28) (.for [8] true (.rng2 (.bin .add (.var 7) (.lit (.int 1))) (.prim .len [.var 6])) Ir.l_best_tower_1) [A0, .dat (ridgesD rs), A2, A3, A4, .dat (.int (c : Int)), .dat (hillsD hs), .dat (.int (i : Int)), .un, .un] = .nx [A0, .dat (ridgesD rs), A2, A3, A4, .dat (.int ((c + (rowJ hs rs i).length : Nat) : Int)), .dat (hillsD hs), .dat (.int (i : Int)), .un, .un] := by
  have hl := k.hl
  have ll := len_hills (hs := hs)
  have hr := rng_from i hs.length hi hl
  have ah := fun (j : Nat) (hj : j < hs.length) A0 A2 A3 A4 A5 N => any_hidB (n := n) k hi hj A0 A2 A3 A4 A5 N
  generalize hHD : hillsD hs = T at *
  generalize hRD : ridgesD rs = R at *
  obtain ⟨w, _⟩ := for_run (C := call Ir.tbl (n + 3)) (n := d + 27) (tg := [8]) (one := true) (it := .rng2 (.bin .add (.var 7) (.lit (.int 1))) (.prim .len [.var 6])) (b := Ir.l_best_tower_1) (fun (j : Nat) => .int (j : Int)) ((List.range (hs.length - (i + 1))).map fun (q : Nat) => i + 1 + q) (fun c : Nat => [A0, .dat R, A2, A3, A4, .dat (.int (c : Int)), .dat T, .dat (.int (i : Int)), .un, .un]) (fun j a => True) (fun a j => if (!hidJ hs rs i j) = true then a + 1 else a) c (by simp [ll, binop, hr]) trivial (fun m j a hj hP => by
    obtain ⟨h5, h6⟩ := List.getElem?_eq_some_iff.mp hj
    simp at h5 h6
    refine ⟨?_, trivial⟩
    have a := ah j (by omega)
    cases q : hidJ hs rs i j with
    | true => rw [q] at a; simp [forB, Ir.l_best_tower_1, -ev_prim_any, a]
    | false => rw [q] at a; simp [forB, Ir.l_best_tower_1, -ev_prim_any, a])
  rw [fold_cnt (fun j => !hidJ hs rs i j)] at w
  rw [w]
  unfold rowJ
  rw [List.length_map]
theorem cnt_all (k : LandS hs rs) {A0 A2 A3 A4 : Sl} (d : Nat) : ex (call Ir.tbl (n + 3)) (d + 29) (.for [7] true (.rng1 (.prim .len [.var 6])) Ir.l_best_tower_2) [A0, .dat (ridgesD rs), A2, A3, A4, .dat (.int 0), .dat (hillsD hs), .un, .un, .un] = .nx [A0, .dat (ridgesD rs), A2, A3, A4, .dat (.int ((pairsJ hs rs).length : Nat)), .dat (hillsD hs), .un, .un, .un] := by
  have hl := k.hl
  have ll := len_hills (hs := hs)
  have cr := fun (i : Nat) (hi : i < hs.length) c => cnt_row (n := n) k (A0 := A0) (A2 := A2) (A3 := A3) (A4 := A4) hi c d
  generalize hHD : hillsD hs = T at *
  generalize hRD : ridgesD rs = R at *
  obtain ⟨w, _⟩ := for_run (C := call Ir.tbl (n + 3)) (n := d + 28) (tg := [7]) (one := true) (it := .rng1 (.prim .len [.var 6])) (b := Ir.l_best_tower_2) (fun (j : Nat) => .int (j : Int)) (List.range hs.length) (fun c : Nat => [A0, .dat R, A2, A3, A4, .dat (.int (c : Int)), .dat T, .un, .un, .un]) (fun j a => True) (fun c i => c + (rowJ hs rs i).length) 0 (by simp [ll, rng0 hs.length (by omega)]) trivial (fun m i c hj hP => by
    obtain ⟨h5, h6⟩ := List.getElem?_eq_some_iff.mp hj
    have hb : i = m := by simp at h6; exact h6.symm
    subst hb
    simp at h5
    refine ⟨?_, trivial⟩
    simp [forB, Ir.l_best_tower_2, cr i h5])
  rw [fold_len (rowJ hs rs), Nat.zero_add] at w
  exact w
theorem bst_cmp (h m f : Nat) : cmpD .gt (.int (f : Int)) (.int (m : Int)) = some (decide (m < f)) := by
  show some (decide ((m : Int) < (f : Int))) = _
  by_cases c : m < f
  · rw [decide_eq_true c, decide_eq_true (by omega)]
  · rw [decide_eq_false c, decide_eq_false (by omega)]
theorem best_ok (h : HlsOk hs) (kr : RgsOk rs) {t : Nat} (ht : t ≤ 2000) : call Ir.tbl (n + 5) 15 [.dat (hillsD hs), .dat (ridgesD rs), .dat (.int (t : Int))] = .ok (.dat (bD ((List.range hs.length).foldl (bstS (cntJ hs rs t)) none))) [.dat (hillsD hs), .dat (ridgesD rs), .dat (.int (t : Int))] := by
  have e1 := land_ok (n := n) h kr
  have h9 := h.hi
  have ll := len_hills (hs := hs)
  have n1 := fun nm => need_integer_ok (n := n + 2) (t : Int) nm 0 2000 (by omega) (by omega)
  have rk := fun (b : Nat) (hb : b < hs.length) => raised_ok (n := n + 3) h9 hb (t : Int)
  refine run (fn := Ir.f_best_tower) rfl rfl fun d => ?_
  have ck := fun (b : Nat) (hb : b < hs.length) A0 A2 A3 A4 => cnt_all (n := n + 1) (land_R h kr hb (t := t) (by omega) (by omega)) (A0 := A0) (A2 := A2) (A3 := A3) (A4 := A4) d
  have hone := h.lo
  generalize hHD : hillsD hs = T at *
  generalize hRD : ridgesD rs = R at *
  obtain ⟨w, _⟩ := for_run (C := call Ir.tbl (n + 4)) (n := d + 29) (tg := [4]) (one := true) (it := .rng1 (.prim .len [.ref 0])) (b := Ir.l_best_tower_3) (fun (j : Nat) => .int (j : Int)) (List.range hs.length) (fun o : Option (Nat × Nat) => [.dat T, .dat R, .dat (.int (t : Int)), .dat (bD o), .un, .un, .un, .un, .un, .un]) (fun j a => True) (bstS (cntJ hs rs t)) none (by simp [ll, rng0 hs.length (by omega)]) trivial (fun m b o hj hP => by
    obtain ⟨h5, h6⟩ := List.getElem?_eq_some_iff.mp hj
    have hb : b = m := by simp at h6; exact h6.symm
    subst hb
    simp at h5
    refine ⟨?_, trivial⟩
    have c1 := ck b h5
    have r1 := rk b h5
    rw [show (pairsJ (raiH hs b (t : Int)) rs).length = cntJ hs rs t b from rfl] at c1
    cases o with
    | none => simp [forB, Ir.l_best_tower_3, r1, c1, bD, bstS]
    | some hm =>
      obtain ⟨hh, mm⟩ := hm
      have c2 := bst_cmp hh mm (cntJ hs rs t b)
      have c3 : idxD (.tuple [.int (hh : Int), .int (mm : Int)]) (.int 1) = some (.int (mm : Int)) := rfl
      by_cases z : mm < cntJ hs rs t b
      · rw [decide_eq_true z] at c2
        simp [forB, Ir.l_best_tower_3, r1, c1, bD, bstS, c2, c3, z]
      · rw [decide_eq_false z] at c2
        simp [forB, Ir.l_best_tower_3, r1, c1, bD, bstS, c2, c3, z])
  have w : ex (call Ir.tbl (n + 4)) (d + 30) (.for [4] true (.rng1 (.prim .len [.ref 0])) Ir.l_best_tower_3) [.dat T, .dat R, .dat (.int (t : Int)), .dat .none, .un, .un, .un, .un, .un, .un] = .nx [.dat T, .dat R, .dat (.int (t : Int)), .dat (bD ((List.range hs.length).foldl (bstS (cntJ hs rs t)) none)), .un, .un, .un, .un, .un, .un] := w
  simp [Ir.f_best_tower, e1, ll, n1, w]
end
end Fs
set_option autoImplicit false
set_option linter.all false
set_option maxRecDepth 100000
namespace Fs
open PySem
variable {n : Nat}
theorem Dice.mono {B B' : Nat} {d : D} (k : Dice B d) (h : B ≤ B') : Dice B' d := by
  obtain ⟨a, b, c, e, h1, h2, h3, h4, h5⟩ := k.ex
  exact ⟨a, b, c, e, h1, h2, h3, h4, by omega⟩
theorem unmap {α : Type} {P : α → Prop} {f : α → D} : ∀ {ds : List D}, (∀ v ∈ ds, ∃ b, P b ∧ v = f b) → ∃ bs : List α, ds = bs.map f ∧ ∀ b ∈ bs, P b
  | [], _ => ⟨[], rfl, by simp⟩
  | d :: ds, h => by
    obtain ⟨bs, h1, h2⟩ := unmap fun v hv => h v (List.mem_cons_of_mem _ hv)
    obtain ⟨b, hb, e⟩ := h d List.mem_cons_self
    exact ⟨b :: bs, by rw [h1, e]; rfl, fun c hc => by
      rcases List.mem_cons.mp hc with rfl | hc
      · exact hb
      · exact h2 c hc⟩
/-! ### _law_hills -/
def hkD (p : Hl) : D := .tuple [.int p.x, .int p.y]
def hkL (m : List Hl) : List (D × D) := m.map fun p => (hkD p, .int p.z)
def hmD (m : List Hl) : D := mkD true (hkL m)
def sameB (a p : Hl) : Bool := decide (p.x = a.x) && decide (p.y = a.y)
theorem hk_eqv (p a : Hl) : PyData.eqv (hkD p) (hkD a) = sameB a p := by
  unfold hkD sameB
  have h1 : PyData.eqv (.tuple [.int p.x, .int p.y]) (.tuple [.int a.x, .int a.y]) = (PyData.eqv (.int p.x) (.int a.x) && (PyData.eqv (.int p.y) (.int a.y) && true)) := by
    simp only [PyData.eqv, PyData.eqvAll]
  rw [h1, eqv_int, eqv_int, Bool.and_true]
theorem hk_inj {p a : Hl} : hkD p = hkD a ↔ p.x = a.x ∧ p.y = a.y := by
  unfold hkD; simp
def putH (m : List Hl) (a : Hl) : List Hl := if m.any (sameB a) = true then m.map fun p => if sameB a p = true then a else p else m ++ [a]
structure HmOk (m : List Hl) (N : Nat) : Prop where
  ok : ∀ p ∈ m, -2 ≤ p.x ∧ p.x ≤ 2 ∧ -2 ≤ p.y ∧ p.y ≤ 2 ∧ 0 ≤ p.z ∧ p.z ≤ 6
  nd : (m.map hkD).Nodup
  len : m.length ≤ N
theorem put_keys (m : List Hl) (a : Hl) : (m.map fun p => if sameB a p = true then a else p).map hkD = m.map hkD := by
  rw [List.map_map]
  refine List.map_congr_left fun p _ => ?_
  show hkD (if sameB a p = true then a else p) = hkD p
  by_cases c : sameB a p = true
  · rw [if_pos c]
    unfold sameB at c
    simp only [Bool.and_eq_true, decide_eq_true_eq] at c
    exact hk_inj.mpr ⟨c.1.symm, c.2.symm⟩
  · rw [if_neg c]
theorem HmOk.put {m : List Hl} {N : Nat} {a : Hl} (k : HmOk m N) (ha : -2 ≤ a.x ∧ a.x ≤ 2 ∧ -2 ≤ a.y ∧ a.y ≤ 2 ∧ 0 ≤ a.z ∧ a.z ≤ 6) : HmOk (putH m a) (N + 1) := by
  unfold putH
  by_cases c : m.any (sameB a) = true
  · rw [if_pos c]
    refine ⟨fun p hp => ?_, ?_, ?_⟩
    · obtain ⟨q, hq, e⟩ := List.mem_map.mp hp
      by_cases z : sameB a q = true
      · rw [if_pos z] at e; subst e; exact ha
      · rw [if_neg z] at e; subst e; exact k.ok q hq
    · rw [put_keys]; exact k.nd
    · rw [List.length_map]; have := k.len; omega
  · rw [if_neg c]
    refine ⟨fun p hp => ?_, ?_, ?_⟩
    · rcases List.mem_append.mp hp with hp | hp
      · exact k.ok p hp
      · rw [List.mem_singleton.mp hp]; exact ha
    · rw [List.map_append, List.nodup_append]
      refine ⟨k.nd, by simp, fun x hx y hy e => ?_⟩
      obtain ⟨q, hq, rfl⟩ := List.mem_map.mp hx
      simp only [List.map_cons, List.map_nil, List.mem_singleton] at hy
      rw [hy] at e
      refine c (List.any_eq_true.mpr ⟨q, hq, ?_⟩)
      rw [← hk_eqv, e, hk_eqv]
      unfold sameB; simp
    · rw [List.length_append]; have := k.len; simp; omega
theorem dput_hm (m : List Hl) (a : Hl) (hl : m.length < lim) : dput (hmD m) (hkD a) (.int a.z) = some (hmD (putH m a)) := by
  show (if keyOf true (hkD a) = true ∧ (hkL m).length < lim then some (mkD true (store (hkL m) (hkD a) (.int a.z))) else none) = _
  rw [if_pos ⟨rfl, by unfold hkL; rw [List.length_map]; exact hl⟩]
  have hh : has (hkL m) (hkD a) = m.any (sameB a) := by
    unfold has hkL
    rw [List.any_map]
    congr 1
    funext p
    exact hk_eqv p a
  unfold store
  rw [hh]
  unfold hmD putH
  by_cases c : m.any (sameB a) = true
  · rw [if_pos c, if_pos c]
    unfold hkL
    rw [List.map_map, List.map_map]
    congr 2
    refine List.map_congr_left fun p _ => ?_
    show (if PyData.eqv (hkD p) (hkD a) = true then (hkD p, PyData.int a.z) else (hkD p, PyData.int p.z)) = (hkD (if sameB a p = true then a else p), PyData.int (if sameB a p = true then a else p).z)
    rw [hk_eqv]
    by_cases z : sameB a p = true
    · rw [if_pos z, if_pos z]
      unfold sameB at z
      simp only [Bool.and_eq_true, decide_eq_true_eq] at z
      rw [hk_inj.mpr z]
    · rw [if_neg z, if_neg z]
  · rw [if_neg c, if_neg c]
    unfold hkL
    rw [List.map_append]; rfl
theorem look_hm : ∀ (m : List Hl) (p : Hl), (m.map hkD).Nodup → p ∈ m → look (hkL m) (hkD p) = some (.int p.z)
  | q :: m, p, hn, hp => by
    rw [List.map_cons] at hn
    obtain ⟨n1, n2⟩ := List.nodup_cons.mp hn
    unfold look hkL
    rw [List.map_cons, List.find?_cons]
    rcases List.mem_cons.mp hp with e | hp
    · subst e
      have : PyData.eqv (hkD p) (hkD p) = true := by rw [hk_eqv]; unfold sameB; simp
      simp only [this]; rfl
    · have : PyData.eqv (hkD q) (hkD p) = false := by
        rw [hk_eqv, Bool.eq_false_iff]
        intro z
        unfold sameB at z
        simp only [Bool.and_eq_true, decide_eq_true_eq] at z
        exact n1 (by rw [hk_inj.mpr z]; exact List.mem_map_of_mem hp)
      simp only [this]
      exact look_hm m p n2 hp
theorem dat_hm {m : List Hl} {p : Hl} (hn : (m.map hkD).Nodup) (hp : p ∈ m) : dat? (hmD m) (hkD p) = some (.int p.z) := by
  show (if keyOf true (hkD p) = true then look (hkL m) (hkD p) else none) = _
  rw [if_pos (show keyOf true (hkD p) = true from rfl), look_hm m p hn hp]
theorem dsort_hm {m : List Hl} (hl : m.length ≤ lim) : dsort (hmD m) = some (sortD (m.map hkD)) := by
  have e : (hkL m).map (·.1) = m.map hkD := by unfold hkL; rw [List.map_map]; rfl
  have h1 : (alikes ((hkL m).map (·.1)) && ((hkL m).map (·.1)).all isTupNE && decide ((hkL m).length ≤ lim)) = true := by
    rw [e]
    have l : (hkL m).length ≤ lim := by unfold hkL; rw [List.length_map]; exact hl
    rw [decide_eq_true l, Bool.and_true, Bool.and_eq_true]
    constructor
    · unfold alikes
      simp only [Bool.and_eq_true, List.all_eq_true, List.mem_map]
      refine ⟨⟨?_, ?_⟩, ?_⟩
      · rintro x ⟨p, _, rfl⟩; rfl
      · rintro x ⟨p, _, rfl⟩; rfl
      · rintro x ⟨p, _, rfl⟩ y ⟨q, _, rfl⟩; rfl
    · rw [List.all_eq_true]
      intro x hx
      obtain ⟨p, _, rfl⟩ := List.mem_map.mp hx
      rfl
  show (if (alikes ((hkL m).map (·.1)) && ((hkL m).map (·.1)).all isTupNE && decide ((hkL m).length ≤ lim)) = true then some (sortD ((hkL m).map (·.1))) else none) = _
  rw [if_pos h1, e]
theorem sort_hm (m : List Hl) (hn : (m.map hkD).Nodup) : ∃ hs : List Hl, sortD (m.map hkD) = hs.map hkD ∧ (∀ p ∈ hs, p ∈ m) ∧ (hs.map hkD).Nodup ∧ hs.length = m.length := by
  have hp : (sortD (m.map hkD)).Perm (m.map hkD) := List.mergeSort_perm _ _
  obtain ⟨hs, h1, h2⟩ := unmap (P := fun p => p ∈ m) (f := hkD) (ds := sortD (m.map hkD)) fun v hv => by
    obtain ⟨p, hp1, hp2⟩ := List.mem_map.mp (hp.mem_iff.mp hv)
    exact ⟨p, hp1, hp2.symm⟩
  refine ⟨hs, h1, h2, ?_, ?_⟩
  · rw [← h1]; exact hp.nodup_iff.mpr hn
  · have := hp.length_eq
    rw [h1, List.length_map, List.length_map] at this
    exact this
theorem hills_roll {B : Nat} {Dc : D} (kd : Dice B Dc) (hB : B ≤ 800) : ∃ (hs : List Hl) (Dc' : D), HlsOk hs ∧ hs.length ≤ 5 ∧ Dice (B + 20) Dc' ∧ call Ir.tbl (n + 2) 19 [.mu true Dc] = .ok (.dat (hillsD hs)) [.mu true Dc'] := by
  obtain ⟨q, hq⟩ := call_at (tbl := Ir.tbl) (i := 19) (fn := Ir.f__law_hills) rfl (n + 1) [.mu true Dc] rfl
  obtain ⟨v, D1, p1, q1, k1, e1⟩ := roll_ok (n := n) kd (by omega) (m := 5) (by omega) (by omega)
  obtain ⟨mm, hmm⟩ : ∃ m : Nat, (1 : Int) + v = m := ⟨(1 + v).toNat, by omega⟩
  obtain ⟨s', w, m, D2, rfl, hm, k2⟩ := forL_rel (f := fun x s => if [2].all (free s) then (match bind [2] true x s with
        | some s => exs (ex (call Ir.tbl (n + 1)) (q + 29)) Ir.l__law_hills_1 s
        | none => .stuck) else .stuck) (fun (j : Nat) => (.int (j : Int) : D)) (fun i s => ∃ (m : List Hl) (D' : D), s = [.mu true D', .mu false (hmD m), .un, .un] ∧ (HmOk m i ∧ (0 < i → 0 < m.length)) ∧ Dice (B + 1 + 3 * i) D') (List.range mm) 0 [.mu true D1, .mu false (hmD []), .un, .un] ⟨[], D1, rfl, ⟨⟨by simp, .nil, by simp⟩, by simp⟩, k1⟩ (by
    rintro j b s hj ⟨m, D3, rfl, k3, k4⟩
    obtain ⟨h5, h6⟩ := List.getElem?_eq_some_iff.mp hj
    have hb : b = j := by simp at h6; exact h6.symm
    have hjl : j < mm := by simpa using h5
    subst hb
    rw [Nat.zero_add] at k3 k4
    obtain ⟨v1, E1, a1, b1, c1, d1⟩ := roll_ok (n := n) k4 (by omega) (m := 7) (by omega) (by omega)
    obtain ⟨v2, E2, a2, b2, c2, d2⟩ := roll_ok (n := n) c1 (by omega) (m := 5) (by omega) (by omega)
    obtain ⟨v3, E3, a3, b3, c3, d3⟩ := roll_ok (n := n) c2 (by omega) (m := 5) (by omega) (by omega)
    have hml : m.length < lim := by have := k3.1.len; unfold lim; omega
    have hd := dput_hm m ⟨v2 - 2, v3 - 2, v1⟩ hml
    unfold hkD at hd
    refine ⟨_, ?_, putH m ⟨v2 - 2, v3 - 2, v1⟩, E3, rfl, ⟨?_, ?_⟩, ?_⟩
    · have un : ∀ m, unD (hmD m) = some (true, hkL m) := fun _ => rfl
      generalize hmD (putH m ⟨v2 - 2, v3 - 2, v1⟩) = T2 at *
      have un2 := un m
      clear un
      generalize hmD m = T1 at *
      simp [Ir.l__law_hills_1, bind, isMuD, un2, d1, d2, d3, binop, hd]
    · rw [show 0 + b + 1 = b + 1 by omega]
      exact k3.1.put ⟨by simp; omega, by simp; omega, by simp; omega, by simp; omega, by simp; omega, by simp; omega⟩
    · intro _
      unfold putH
      split
      · rename_i c
        obtain ⟨p, hp, _⟩ := List.any_eq_true.mp c
        rw [List.length_map]; exact List.length_pos_of_mem hp
      · simp
    · rw [show B + 1 + 3 * (0 + b + 1) = B + 1 + 3 * b + 1 + 1 + 1 by omega]; exact c3)
  rw [List.length_range, Nat.zero_add] at hm k2
  have w := ex_for_run (C := call Ir.tbl (n + 1)) (n := q + 29) (tg := [2]) (one := true) (b := Ir.l__law_hills_1) (o := .nx [.mu true D2, .mu false (hmD m), .un, .un]) (it := .rng1 (.bin .add (.lit (.int 1)) (.call 17 [.ref 0, .lit (.int 5)] 0))) (s := [.mu true Dc, .mu false (hmD []), .un, .un]) (xs := (List.range mm).map fun (j : Nat) => .int (j : Int)) (s' := [.mu true D1, .mu false (hmD []), .un, .un]) (by simp [e1, binop, hmm, rng0 mm (by omega)]) w
  obtain ⟨hs, g1, g2, g3, g4⟩ := sort_hm m hm.1.nd
  have hlen := hm.1.len
  have hpos := hm.2 (by omega)
  have ds := dsort_hm (m := m) (by unfold lim; omega)
  rw [g1] at ds
  have hok : HlsOk hs := by
    refine ⟨by omega, by omega, fun p hp => ?_, ?_⟩
    · obtain ⟨x1, x2, x3, x4, x5, x6⟩ := hm.1.ok p (g2 p hp)
      exact ⟨⟨by omega, by omega⟩, ⟨by omega, by omega⟩, ⟨by omega, by omega⟩⟩
    · have : hs.map hkD = (hs.map fun p => [p.x, p.y]).map q0T := by rw [List.map_map]; rfl
      rw [this] at g3
      unfold List.Nodup at g3 ⊢
      rw [List.pairwise_map] at g3
      exact g3.imp fun h e => h (by rw [e])
  refine ⟨hs, D2, hok, by omega, k2.mono (by omega), ?_⟩
  have c1 : ∀ N, ev (call Ir.tbl (n + 1)) (N + 16) (.comp [3] true (.sortd (.ref 1)) none (.bin .add (.var 3) (.tup [.didx (.ref 1) (.var 3)])) [3]) [.mu true D2, .mu false (hmD m), .un, .un] = .ok (.fr (.list (hs.map hilD))) [.mu true D2, .mu false (hmD m), .un, .un] := fun N => by
    have dm := fun p (hp : p ∈ hs) => dat_hm hm.1.nd (g2 p hp)
    generalize hmD m = T at *
    have l3 : 2 + 1 ≤ lim := by unfold lim; omega
    have hll : hs.length ≤ lim := by unfold lim; omega
    simp [ds, hll]
    rw [compP_all (fun p : Hl => hilD p) (fun p hp => by
      have := dm p hp
      have l3 : 3 ≤ lim := by unfold lim; omega
      have eb : ∀ z : Int, binop .add (hkD p) (.tuple [.int z]) = some (.dat (.tuple [.int p.x, .int p.y, .int z])) := fun z => by
        show (if 2 + 1 ≤ lim then some (Vl.dat (.tuple ([.int p.x, .int p.y] ++ [.int z]))) else none) = _
        rw [if_pos l3]; rfl
      simp [this, eb])]
    simp
  have pt : ∀ xs : List D, prim .tuple [.list xs] = some (.dat (.tuple xs)) := fun _ => rfl
  rw [show hmD [] = mkD true [] from rfl] at w
  rw [hq]
  simp [Ir.f__law_hills, w, -ev_comp_via, c1, pt]
end Fs
set_option autoImplicit false
set_option linter.all false
set_option maxRecDepth 100000
namespace Fs
open PySem
variable {n : Nat}
/-! ### _law_ridges -/
theorem ab_dec (r : Rg) : cmpD .ne (.tuple [.int r.a, .int r.b]) (.tuple [.int r.c, .int r.d]) = some (decide (r.a ≠ r.c ∨ r.b ≠ r.d)) := by
  show some (!PyData.eqv (.tuple [.int r.a, .int r.b]) (.tuple [.int r.c, .int r.d])) = _
  simp only [PyData.eqv, PyData.eqvAll, eqv_int]
  by_cases h1 : r.a = r.c <;> by_cases h2 : r.b = r.d <;> simp [h1, h2]
theorem ridges_roll {B : Nat} {Dc : D} (kd : Dice B Dc) (hB : B ≤ 800) : ∃ (rs : List Rg) (Dc' : D), RgsOk rs ∧ rs.length ≤ 3 ∧ Dice (B + 20) Dc' ∧ call Ir.tbl (n + 2) 20 [.mu true Dc] = .ok (.dat (ridgesD rs)) [.mu true Dc'] := by
  obtain ⟨q, hq⟩ := call_at (tbl := Ir.tbl) (i := 20) (fn := Ir.f__law_ridges) rfl (n + 1) [.mu true Dc] rfl
  obtain ⟨v, D1, p1, q1, k1, e1⟩ := roll_ok (n := n) kd (by omega) (m := 4) (by omega) (by omega)
  obtain ⟨mm, hmm⟩ : ∃ m : Nat, v = m := ⟨v.toNat, by omega⟩
  subst hmm
  obtain ⟨s', w, m, D2, rfl, hm, k2⟩ := forL_rel (f := fun x s => if [2].all (free s) then (match bind [2] true x s with
        | some s => exs (ex (call Ir.tbl (n + 1)) (q + 29)) Ir.l__law_ridges_1 s
        | none => .stuck) else .stuck) (fun (j : Nat) => (.int (j : Int) : D)) (fun i s => ∃ (m : List Rg) (D' : D), s = [.mu true D', .mu false (.list (m.map rgD)), .un, .un] ∧ ((∀ r ∈ m, RgOk r) ∧ m.length ≤ i) ∧ Dice (B + 1 + 5 * i) D') (List.range mm) 0 [.mu true D1, .mu false (.list []), .un, .un] ⟨[], D1, rfl, ⟨by simp, by simp⟩, k1⟩ (by
    rintro j b s hj ⟨m, D3, rfl, k3, k4⟩
    obtain ⟨h5, h6⟩ := List.getElem?_eq_some_iff.mp hj
    have hb : b = j := by simp at h6; exact h6.symm
    have hjl : j < mm := by simpa using h5
    subst hb
    rw [Nat.zero_add] at k3 k4
    obtain ⟨v1, E1, a1, b1, c1, d1⟩ := roll_ok (n := n) k4 (by omega) (m := 7) (by omega) (by omega)
    obtain ⟨v2, E2, a2, b2, c2, d2⟩ := roll_ok (n := n) c1 (by omega) (m := 7) (by omega) (by omega)
    obtain ⟨v3, E3, a3, b3, c3, d3⟩ := roll_ok (n := n) c2 (by omega) (m := 7) (by omega) (by omega)
    obtain ⟨v4, E4, a4, b4, c4, d4⟩ := roll_ok (n := n) c3 (by omega) (m := 7) (by omega) (by omega)
    obtain ⟨v5, E5, a5, b5, c5, d5⟩ := roll_ok (n := n) c4 (by omega) (m := 8) (by omega) (by omega)
    have hml : m.length < lim := by unfold lim; omega
    have ek := ab_dec ⟨v1 - 3, v2 - 3, v3 - 3, v4 - 3, v5⟩
    have s1 := sl_ab ⟨v1 - 3, v2 - 3, v3 - 3, v4 - 3, v5⟩
    have s2 := sl_cd ⟨v1 - 3, v2 - 3, v3 - 3, v4 - 3, v5⟩
    have s1 : slcD (.tuple [.int (v1 - 3), .int (v2 - 3), .int (v3 - 3), .int (v4 - 3), .int v5]) none (some 2) = some (.dat (.tuple [.int (v1 - 3), .int (v2 - 3)])) := s1
    have s2 : slcD (.tuple [.int (v1 - 3), .int (v2 - 3), .int (v3 - 3), .int (v4 - 3), .int v5]) (some 2) (some 4) = some (.dat (.tuple [.int (v3 - 3), .int (v4 - 3)])) := s2
    by_cases z : (v1 - 3 ≠ v3 - 3 ∨ v2 - 3 ≠ v4 - 3)
    · rw [decide_eq_true z] at ek
      refine ⟨_, ?_, m ++ [⟨v1 - 3, v2 - 3, v3 - 3, v4 - 3, v5⟩], E5, rfl, ⟨?_, ?_⟩, ?_⟩
      · simp [Ir.l__law_ridges_1, bind, isMuL, d1, d2, d3, d4, d5, binop, s1, s2, ek, hml]
      · intro r hr
        rcases List.mem_append.mp hr with hr | hr
        · exact k3.1 r hr
        · rw [List.mem_singleton.mp hr]
          exact ⟨⟨by dsimp only; omega, by dsimp only; omega⟩, ⟨by dsimp only; omega, by dsimp only; omega⟩, ⟨by dsimp only; omega, by dsimp only; omega⟩, ⟨by dsimp only; omega, by dsimp only; omega⟩, ⟨by dsimp only; omega, by dsimp only; omega⟩, z⟩
      · rw [List.length_append]; simp; omega
      · rw [show B + 1 + 5 * (0 + b + 1) = B + 1 + 5 * b + 1 + 1 + 1 + 1 + 1 by omega]; exact c5
    · rw [decide_eq_false z] at ek
      refine ⟨_, ?_, m, E5, rfl, ⟨k3.1, by omega⟩, ?_⟩
      · simp [Ir.l__law_ridges_1, bind, isMuL, d1, d2, d3, d4, d5, binop, s1, s2, ek]
      · rw [show B + 1 + 5 * (0 + b + 1) = B + 1 + 5 * b + 1 + 1 + 1 + 1 + 1 by omega]; exact c5)
  rw [List.length_range, Nat.zero_add] at hm k2
  have w := ex_for_run (C := call Ir.tbl (n + 1)) (n := q + 29) (tg := [2]) (one := true) (b := Ir.l__law_ridges_1) (o := .nx [.mu true D2, .mu false (.list (m.map rgD)), .un, .un]) (it := .rng1 (.call 17 [.ref 0, .lit (.int 4)] 0)) (s := [.mu true Dc, .mu false (.list []), .un, .un]) (xs := (List.range mm).map fun (j : Nat) => .int (j : Int)) (s' := [.mu true D1, .mu false (.list []), .un, .un]) (by simp [e1, rng0 mm (by omega)]) w
  refine ⟨m, D2, ⟨by have := hm.2; omega, hm.1⟩, by have := hm.2; omega, k2.mono (by omega), ?_⟩
  have pt : ∀ xs : List D, prim .tuple [.list xs] = some (.dat (.tuple xs)) := fun _ => rfl
  rw [hq]
  simp [Ir.f__law_ridges, w, pt]
end Fs
set_option autoImplicit false
set_option linter.all false
set_option maxRecDepth 100000
namespace Fs
open PySem
variable {n : Nat}
/-! ### pairs as both tell them; the refusals -/
section
variable {hs : List Hl} {rs : List Rg}
theorem mem_row {i : Nat} {p : Int × Int} : p ∈ rowJ hs rs i ↔ ∃ j : Nat, i < j ∧ j < hs.length ∧ hidJ hs rs i j = false ∧ p = ((i : Int), (j : Int)) := by
  unfold rowJ
  rw [List.mem_map]
  constructor
  · rintro ⟨j, hj, e⟩
    obtain ⟨h1, h2⟩ := List.mem_filter.mp hj
    obtain ⟨k, hk, e2⟩ := List.mem_map.mp h1
    have := List.mem_range.mp hk
    exact ⟨j, by omega, by omega, by simpa using h2, e.symm⟩
  · rintro ⟨j, h1, h2, h3, e⟩
    refine ⟨j, List.mem_filter.mpr ⟨List.mem_map.mpr ⟨j - (i + 1), List.mem_range.mpr (by omega), by omega⟩, by rw [h3]; rfl⟩, e.symm⟩
theorem mem_pairs {a b : Nat} : ((a : Int), (b : Int)) ∈ pairsJ hs rs ↔ a < b ∧ b < hs.length ∧ hidJ hs rs a b = false := by
  unfold pairsJ
  rw [List.mem_flatMap]
  constructor
  · rintro ⟨i, hi, hp⟩
    obtain ⟨j, h1, h2, h3, e⟩ := mem_row.mp hp
    rw [Prod.mk.injEq] at e
    have e1 : a = i := by omega
    have e2 : b = j := by omega
    subst e1 e2
    exact ⟨h1, h2, h3⟩
  · rintro ⟨h1, h2, h3⟩
    exact ⟨a, List.mem_range.mpr (by omega), mem_row.mpr ⟨b, h1, h2, h3, rfl⟩⟩
theorem hid_sym (k : LandS hs rs) {i j : Nat} (hi : i < hs.length) (hj : j < hs.length) (hij : i ≠ j) : hidJ hs rs i j = hidJ hs rs j i := by
  unfold hidJ
  rw [Bool.eq_iff_iff, List.any_eq_true, List.any_eq_true]
  have f1 := far_apart k hi hj hij
  have f2 := far_apart k hj hi (Ne.symm hij)
  constructor
  · rintro ⟨r, hr, h⟩
    exact ⟨r, hr, by rw [hid_eq f2 (k.ne r hr), lh_sym, ← hid_eq f1 (k.ne r hr)]; exact h⟩
  · rintro ⟨r, hr, h⟩
    exact ⟨r, hr, by rw [hid_eq f1 (k.ne r hr), lh_sym, ← hid_eq f2 (k.ne r hr)]; exact h⟩
theorem min_max (i j : Nat) : min (i : Int) (j : Int) = ((min i j : Nat) : Int) ∧ max (i : Int) (j : Int) = ((max i j : Nat) : Int) := by omega
theorem in_pairs (k : LandS hs rs) {i j : Nat} (hi : i < hs.length) (hj : j < hs.length) (hij : i ≠ j) : (((min i j : Nat) : Int), ((max i j : Nat) : Int)) ∈ pairsJ hs rs ↔ hidJ hs rs i j = false := by
  rw [mem_pairs]
  by_cases c : i < j
  · rw [Nat.min_eq_left (by omega), Nat.max_eq_right (by omega)]
    exact ⟨fun h => h.2.2, fun h => ⟨c, hj, h⟩⟩
  · rw [Nat.min_eq_right (by omega), Nat.max_eq_left (by omega), hid_sym k hi hj hij]
    exact ⟨fun h => h.2.2, fun h => ⟨by omega, hi, h⟩⟩
theorem eqv_pr (p q : Int × Int) : PyData.eqv (prD p) (prD q) = decide (p = q) := by
  obtain ⟨a, b⟩ := p
  obtain ⟨c, e⟩ := q
  simp only [PyData.eqv, PyData.eqvAll, eqv_int]
  by_cases h1 : a = c <;> by_cases h2 : b = e <;> simp [h1, h2]
theorem okD_pr (p : Int × Int) : okD dp (prD p) = true := by simp [okD, dp]
theorem inD_prs (p : Int × Int) (hd : List (Int × Int)) : inD (prD p) (hd.map prD) = some (decide (p ∈ hd)) := by
  unfold inD
  have h1 : (hd.map prD).all (okD dp) = true := by
    rw [List.all_eq_true]
    intro x hx
    obtain ⟨q, _, rfl⟩ := List.mem_map.mp hx
    exact okD_pr q
  rw [h1, okD_pr]
  simp only [Bool.and_self, if_true, List.any_map, Option.some.injEq]
  rw [Bool.eq_iff_iff, List.any_eq_true, decide_eq_true_eq]
  constructor
  · rintro ⟨q, hq, e⟩
    simp only [Function.comp, eqv_pr, decide_eq_true_eq] at e
    rw [← e]; exact hq
  · intro h
    exact ⟨p, h, by simp [eqv_pr]⟩
theorem eqv_b (a b : Bool) : cmpD .ne (.bool a) (.bool b) = some (!decide (a = b)) := by cases a <;> cases b <;> rfl
/-! ### refusals -/
abbrev badH : List D := [.none, .tuple [], .tuple [.tuple [.int 0, .int 0]], .tuple [.tuple [.int 0, .int 0, .int (-1)]], .tuple [.tuple [.int 0, .int 0, .int 1], .tuple [.int 0, .int 0, .int 2]], .list [.tuple [.int 0, .int 0, .int 0]], .tuple [.tuple [.int 1001, .int 0, .int 0]], .tuple [.tuple [.int 0, .bool true, .int 0]]]
abbrev oddR : List D := [.none, .tuple [.tuple [.int 0, .int 0, .int 0, .int 0, .int 5]], .tuple [.tuple [.int 0, .int 0, .int 1, .int 1]], .list [.tuple [.int 0, .int 0, .int 1, .int 1, .int 5]], .tuple [.tuple [.int 0, .int 0, .int 1, .int 1, .int (-1)]], .tuple [.tuple [.int 0, .int 0, .int 1, .int 1001, .int 1]]]
theorem bad_hills {v : D} (hv : v ∈ badH) : call Ir.tbl (n + 3) 3 [.dat v] = .ok (.dat (.bool false)) [.dat v] := by
  simp only [badH, List.mem_cons, List.not_mem_nil, or_false] at hv
  rcases hv with rfl | rfl | rfl | rfl | rfl | rfl | rfl | rfl <;> rfl
theorem odd_ridges {v : D} (hv : v ∈ oddR) : call Ir.tbl (n + 3) 5 [.dat v] = .ok (.dat (.bool false)) [.dat v] := by
  simp only [oddR, List.mem_cons, List.not_mem_nil, or_false] at hv
  rcases hv with rfl | rfl | rfl | rfl | rfl | rfl <;> rfl
theorem land_bad {v : D} (hv : v ∈ badH) (R : D) : call Ir.tbl (n + 4) 6 [.dat v, .dat R] = .exc (.str "hills") [.dat v, .dat R] := by
  have e1 := bad_hills (n := n) hv
  have hn : Str.length "hills" ≤ 1000 := by decide
  exact run (fn := Ir.f_need_land) rfl rfl fun d => by simp [Ir.f_need_land, e1, hn]
theorem land_odd (h : HlsOk hs) {v : D} (hv : v ∈ oddR) : call Ir.tbl (n + 4) 6 [.dat (hillsD hs), .dat v] = .exc (.str "ridges") [.dat (hillsD hs), .dat v] := by
  have e1 := are_hills_ok (n := n) h
  have e2 := odd_ridges (n := n) hv
  have hn : Str.length "ridges" ≤ 1000 := by decide
  exact run (fn := Ir.f_need_land) rfl rfl fun d => by simp [Ir.f_need_land, e1, e2, hn]
end
end Fs
set_option autoImplicit false
set_option linter.all false
set_option maxRecDepth 100000
namespace Fs
open PySem
variable {n : Nat}
/-! ### _law_right, statement by statement -/
theorem r1 {B : Nat} {Dc : D} (kd : Dice B Dc) (hB : B ≤ 500) (d : Nat) : ∃ (hs : List Hl) (rs : List Rg) (Dc' : D), HlsOk hs ∧ hs.length ≤ 5 ∧ RgsOk rs ∧ rs.length ≤ 3 ∧ Dice (B + 40) Dc' ∧ ex (call Ir.tbl (n + 5)) (d + 30) Ir.t__law_right_1 [.mu false Dc, .un, .un, .un, .un, .un, .un, .un, .un, .un, .un, .un, .un, .un, .un, .un, .un, .un] = .nx [.mu false Dc', .dat (hillsD hs), .dat (ridgesD rs), .un, .un, .un, .un, .un, .un, .un, .un, .un, .un, .un, .un, .un, .un, .un] := by
  obtain ⟨hs, D1, k1, k2, kd1, e1⟩ := hills_roll (n := n + 3) kd (by omega)
  obtain ⟨rs, D2, k3, k4, kd2, e2⟩ := ridges_roll (n := n + 3) kd1 (by omega)
  refine ⟨hs, rs, D2, k1, k2, k3, k4, kd2.mono (by omega), ?_⟩
  unfold Ir.t__law_right_1
  simp [e1, e2, setAll, toO]
section
variable {hs : List Hl} {rs : List Rg} {i j t : Nat}
theorem r2 {B : Nat} {Dc : D} (kd : Dice B Dc) (hB : B ≤ 1000) (h : HlsOk hs) (d : Nat) : ∃ (i j t : Nat) (Dc' : D), i < hs.length ∧ j < hs.length ∧ t ≤ 8 ∧ Dice (B + 3) Dc' ∧ ex (call Ir.tbl (n + 5)) (d + 30) Ir.t__law_right_2 [.mu false Dc, .dat (hillsD hs), .dat (ridgesD rs), .un, .un, .un, .un, .un, .un, .un, .un, .un, .un, .un, .un, .un, .un, .un] = .nx [.mu false Dc', .dat (hillsD hs), .dat (ridgesD rs), .dat (.int (i : Int)), .dat (.int (j : Int)), .dat (.int (t : Int)), .un, .un, .un, .un, .un, .un, .un, .un, .un, .un, .un, .un] := by
  have h1 := h.lo
  have h9 := h.hi
  have ll := len_hills (hs := hs)
  obtain ⟨v, D1, v0, v1, kd1, e1⟩ := roll_ok (n := n + 4) kd (by omega) (m := hs.length) (by omega) (by omega)
  obtain ⟨w, D2, w0, w1, kd2, e2⟩ := roll_ok (n := n + 4) kd1 (by omega) (m := hs.length) (by omega) (by omega)
  obtain ⟨z, D3, z0, z1, kd3, e3⟩ := roll_ok (n := n + 4) kd2 (by omega) (m := 9) (by omega) (by omega)
  obtain ⟨i, hi⟩ : ∃ i : Nat, v = i := ⟨v.toNat, by omega⟩
  obtain ⟨j, hj⟩ : ∃ j : Nat, w = j := ⟨w.toNat, by omega⟩
  obtain ⟨t, ht⟩ : ∃ t : Nat, z = t := ⟨z.toNat, by omega⟩
  subst hi hj ht
  refine ⟨i, j, t, D3, by omega, by omega, by omega, kd3, ?_⟩
  unfold Ir.t__law_right_2
  generalize hillsD hs = T at *
  simp [ll, e1, e2, e3, setAll, toO]
theorem ne_nat (i j : Nat) : cmpD .ne (.int (i : Int)) (.int (j : Int)) = some (decide (i ≠ j)) := by
  show some (!PyData.eqv (.int (i : Int)) (.int (j : Int))) = _
  rw [eqv_int]
  by_cases z : i = j
  · simp [z]
  · have : ¬ (i : Int) = j := by omega
    simp [z, this]
theorem r3 (h : HlsOk hs) (kr : RgsOk rs) (hi : i < hs.length) (hj : j < hs.length) (D0 : Sl) (d : Nat) : ex (call Ir.tbl (n + 5)) (d + 30) Ir.t__law_right_3 [D0, .dat (hillsD hs), .dat (ridgesD rs), .dat (.int (i : Int)), .dat (.int (j : Int)), .dat (.int (t : Int)), .un, .un, .un, .un, .un, .un, .un, .un, .un, .un, .un, .un] = .nx [D0, .dat (hillsD hs), .dat (ridgesD rs), .dat (.int (i : Int)), .dat (.int (j : Int)), .dat (.int (t : Int)), .dat (.list ((hidT hs rs i j).map fun (a : Nat) => .int (a : Int))), .un, .un, .un, .un, .un, .un, .un, .un, .un, .un, .un] := by
  have k := land_S h kr
  have hr20 := kr.hi
  have lr := len_ridges (rs := rs)
  obtain ⟨a1, a2⟩ := hil_at hi
  obtain ⟨b1, b2⟩ := hil_at hj
  have rat := fun (a : Nat) (ha : a < rs.length) => rg_at (rs := rs) ha
  have hlim : rs.length ≤ lim := by unfold lim; omega
  have ck := ne_nat i j
  unfold Ir.t__law_right_3
  generalize hHD : hillsD hs = T at *
  generalize hRD : ridgesD rs = R at *
  have c1 : ∀ N, ev (call Ir.tbl (n + 5)) (N + 16) (.comp [17] true (.rng1 (.prim .len [.var 2])) (some (.and (.cmp .ne (.var 3) (.var 4)) (.call 23 [.idx (.var 1) (.var 3), .idx (.var 1) (.var 4), .idx (.var 2) (.var 17)] 0))) (.var 17) [17]) [D0, .dat T, .dat R, .dat (.int (i : Int)), .dat (.int (j : Int)), .dat (.int (t : Int)), .un, .un, .un, .un, .un, .un, .un, .un, .un, .un, .un, .un] = .ok (.fr (.list ((hidT hs rs i j).map fun (a : Nat) => .int (a : Int)))) [D0, .dat T, .dat R, .dat (.int (i : Int)), .dat (.int (j : Int)), .dat (.int (t : Int)), .un, .un, .un, .un, .un, .un, .un, .un, .un, .un, .un, .un] := fun N => by
    simp [lr, rng0 rs.length (by omega), hlim]
    rw [compP_run (fun a : Nat => decide (i ≠ j) && hidB (gh hs i) (gh hs j) (gr rs a)) (fun (a : Nat) => .int (a : Int)) (fun a ha => by
      obtain ⟨c1, c2⟩ := rat a (List.mem_range.mp ha)
      have e := hides_ok (n := n + 3) (k.h _ a2) (k.h _ b2) (k.r _ c2)
      by_cases z : i = j
      · rw [decide_eq_false (by simpa using z)] at ck ⊢
        simp [ck]
      · rw [decide_eq_true z] at ck ⊢
        rw [← hid_eq (far_apart k hi hj z) (k.ne _ c2)] at e
        cases q : hidB (gh hs i) (gh hs j) (gr rs a) <;> rw [q] at e <;> simp [ck, a1, b1, c1, e])]
    simp [hidT]
  simp [-ev_comp_via, c1]
theorem okD_nats (l : List Nat) : okD dp (.tuple (l.map fun (a : Nat) => .int (a : Int))) = true := by
  show (l.map fun (a : Nat) => (.int (a : Int) : D)).all (okD 11) = true
  rw [List.all_eq_true]
  intro x hx
  obtain ⟨p, _, rfl⟩ := List.mem_map.mp hx
  rfl
theorem r4 (h : HlsOk hs) (kr : RgsOk rs) (hi : i < hs.length) (hj : j < hs.length) (D0 : Sl) (d : Nat) : ex (call Ir.tbl (n + 5)) (d + 30) Ir.t__law_right_4 [D0, .dat (hillsD hs), .dat (ridgesD rs), .dat (.int (i : Int)), .dat (.int (j : Int)), .dat (.int (t : Int)), .dat (.list ((hidT hs rs i j).map fun (a : Nat) => .int (a : Int))), .un, .un, .un, .un, .un, .un, .un, .un, .un, .un, .un] = .nx [D0, .dat (hillsD hs), .dat (ridgesD rs), .dat (.int (i : Int)), .dat (.int (j : Int)), .dat (.int (t : Int)), .dat (.list ((hidT hs rs i j).map fun (a : Nat) => .int (a : Int))), .un, .un, .un, .un, .un, .un, .un, .un, .un, .un, .un] := by
  have e1 := hiding_ok (n := n) h kr hi hj
  have e2 := cmp_ne_self (okD_nats (hidT hs rs i j))
  have pt : ∀ xs : List D, prim .tuple [.list xs] = some (.dat (.tuple xs)) := fun _ => rfl
  unfold Ir.t__law_right_4
  generalize hHD : hillsD hs = T at *
  generalize hRD : ridgesD rs = R at *
  simp [e1, pt, e2]
theorem okD_net (m : Int) (l : List (Int × Int)) : okD dp (.tuple [.int m, .tuple (l.map prD)]) = true := by
  have : (l.map prD).all (okD 10) = true := by
    rw [List.all_eq_true]
    intro x hx
    obtain ⟨p, _, rfl⟩ := List.mem_map.mp hx
    rfl
  show ([.int m, .tuple (l.map prD)] : List D).all (okD 11) = true
  show (true && ((l.map prD).all (okD 10) && true)) = true
  rw [this]; rfl
theorem r5 (h : HlsOk hs) (kr : RgsOk rs) (D0 : Sl) (d : Nat) : ex (call Ir.tbl (n + 5)) (d + 30) Ir.t__law_right_5 [D0, .dat (hillsD hs), .dat (ridgesD rs), .dat (.int (i : Int)), .dat (.int (j : Int)), .dat (.int (t : Int)), .dat (.list ((hidT hs rs i j).map fun (a : Nat) => .int (a : Int))), .un, .un, .un, .un, .un, .un, .un, .un, .un, .un, .un] = .nx [D0, .dat (hillsD hs), .dat (ridgesD rs), .dat (.int (i : Int)), .dat (.int (j : Int)), .dat (.int (t : Int)), .dat (.list ((hidT hs rs i j).map fun (a : Nat) => .int (a : Int))), .un, .un, .un, .un, .un, .un, .un, .un, .un, .un, .un] := by
  have k := land_S h kr
  have e1 := net_ok (n := n) h kr k
  have e3 := lpairs_ok (n := n + 2) k
  have ll := len_hills (hs := hs)
  have e2 := cmp_ne_self (okD_net (hs.length : Nat) (pairsJ hs rs))
  have pt : ∀ xs : List D, prim .tuple [.list xs] = some (.dat (.tuple xs)) := fun _ => rfl
  unfold Ir.t__law_right_5
  generalize hHD : hillsD hs = T at *
  generalize hRD : ridgesD rs = R at *
  simp [e1, ll, e3, pt, e2]
theorem tw_one (h : HlsOk hs) (kr : RgsOk rs) (hi : i < hs.length) (hj : j < hs.length) (hij : i ≠ j) {w : Nat} (hw : w ≤ 2000) (X : D) (D0 : Sl) (d : Nat) : forB (call Ir.tbl (n + 5)) (d + 28) [8, 9] false Ir.l__law_right_1 (.tuple [.int (w : Int), .bool (!hT hs rs i j w)]) [D0, .dat (hillsD hs), .dat (ridgesD rs), .dat (.int (i : Int)), .dat (.int (j : Int)), .dat (.int (t : Int)), .dat (.list ((hidT hs rs i j).map fun (a : Nat) => .int (a : Int))), .dat X, .un, .un, .un, .un, .un, .un, .un, .un, .un, .un] = .nx [D0, .dat (hillsD hs), .dat (ridgesD rs), .dat (.int (i : Int)), .dat (.int (j : Int)), .dat (.int (t : Int)), .dat (.list ((hidT hs rs i j).map fun (a : Nat) => .int (a : Int))), .dat X, .un, .un, .un, .un, .un, .un, .un, .un, .un, .un] := by
  have k := land_R h kr hi (t := (w : Int)) (by omega) (by omega)
  have e1 := lraised_ok (n := n + 4) h.hi hi (w : Int)
  have e2 := lpairs_ok (n := n + 2) k
  have hi2 : i < (raiH hs i w).length := by rw [rai_len]; exact hi
  have hj2 : j < (raiH hs i w).length := by rw [rai_len]; exact hj
  have e3 := in_pairs k hi2 hj2 hij
  obtain ⟨m1, m2⟩ := min_max i j
  have q1 := prim_min2 (i : Int) (j : Int)
  have q2 := prim_max2 (i : Int) (j : Int)
  rw [m1] at q1
  rw [m2] at q2
  generalize ((min i j : Nat) : Int) = a at *
  generalize ((max i j : Nat) : Int) = b at *
  have e4 : cmpD .inn (.tuple [.int a, .int b]) (.list ((pairsJ (raiH hs i w) rs).map prD)) = some (decide ((a, b) ∈ pairsJ (raiH hs i w) rs)) := inD_prs (a, b) _
  have e5 : decide ((a, b) ∈ pairsJ (raiH hs i w) rs) = !hT hs rs i j w := by
    unfold hT
    cases q : hidJ (raiH hs i w) rs i j with
    | true => exact decide_eq_false (fun z => by have := e3.mp z; rw [q] at this; cases this)
    | false => exact decide_eq_true (e3.mpr q)
  rw [e5] at e4
  have e6 := eqv_b (!hT hs rs i j w) (!hT hs rs i j w)
  rw [decide_eq_true rfl] at e6
  have g1 : cmpD .ge (.int (w : Int)) (.int 0) = some true := by
    show some (decide ((0 : Int) ≤ (w : Int))) = _
    rw [decide_eq_true (by omega)]
  generalize (!hT hs rs i j w) = bb at *
  generalize hHD : hillsD hs = T at *
  generalize hillsD (raiH hs i w) = T2 at *
  generalize hRD : ridgesD rs = R at *
  generalize (pairsJ (raiH hs i w) rs).map prD = PP at *
  simp [forB, Ir.l__law_right_1, isNone, g1, e1, e2, q1, q2, e4, e6]
theorem r6 (h : HlsOk hs) (kr : RgsOk rs) (hi : i < hs.length) (hj : j < hs.length) (D0 : Sl) (d : Nat) : ex (call Ir.tbl (n + 5)) (d + 30) Ir.t__law_right_6 [D0, .dat (hillsD hs), .dat (ridgesD rs), .dat (.int (i : Int)), .dat (.int (j : Int)), .dat (.int (t : Int)), .dat (.list ((hidT hs rs i j).map fun (a : Nat) => .int (a : Int))), .un, .un, .un, .un, .un, .un, .un, .un, .un, .un, .un] = .nx [D0, .dat (hillsD hs), .dat (ridgesD rs), .dat (.int (i : Int)), .dat (.int (j : Int)), .dat (.int (t : Int)), .dat (.list ((hidT hs rs i j).map fun (a : Nat) => .int (a : Int))), .un, .un, .un, .un, .un, .un, .un, .un, .un, .un, .un] := by
  have ck := ne_nat i j
  by_cases hij : i = j
  · rw [decide_eq_false (by simpa using hij)] at ck
    unfold Ir.t__law_right_6
    simp [ck]
  · rw [decide_eq_true hij] at ck
    obtain ⟨v, hv, lo, up, e1⟩ := least_ok (n := n) h kr hi hj hij
    have one := fun (w : Nat) (hw : w ≤ 2000) => tw_one (n := n) (t := t) h kr hi hj hij hw (towD v) D0 d
    obtain ⟨o2, ho2, hst⟩ : ∃ o2 : D, (∀ N, ev (call Ir.tbl (n + 5)) (N + 12) (.ife (.notN (.var 7)) (.bin .sub (.var 7) (.lit (.int 1))) (.lit (.int 2000))) [D0, .dat (hillsD hs), .dat (ridgesD rs), .dat (.int (i : Int)), .dat (.int (j : Int)), .dat (.int (t : Int)), .dat (.list ((hidT hs rs i j).map fun (a : Nat) => .int (a : Int))), .dat (towD v), .un, .un, .un, .un, .un, .un, .un, .un, .un, .un] = .ok (.dat o2) [D0, .dat (hillsD hs), .dat (ridgesD rs), .dat (.int (i : Int)), .dat (.int (j : Int)), .dat (.int (t : Int)), .dat (.list ((hidT hs rs i j).map fun (a : Nat) => .int (a : Int))), .dat (towD v), .un, .un, .un, .un, .un, .un, .un, .un, .un, .un]) ∧ (forB (call Ir.tbl (n + 5)) (d + 28) [8, 9] false Ir.l__law_right_1 (.tuple [o2, .bool false]) [D0, .dat (hillsD hs), .dat (ridgesD rs), .dat (.int (i : Int)), .dat (.int (j : Int)), .dat (.int (t : Int)), .dat (.list ((hidT hs rs i j).map fun (a : Nat) => .int (a : Int))), .dat (towD v), .un, .un, .un, .un, .un, .un, .un, .un, .un, .un] = .nx [D0, .dat (hillsD hs), .dat (ridgesD rs), .dat (.int (i : Int)), .dat (.int (j : Int)), .dat (.int (t : Int)), .dat (.list ((hidT hs rs i j).map fun (a : Nat) => .int (a : Int))), .dat (towD v), .un, .un, .un, .un, .un, .un, .un, .un, .un, .un]) := by
      by_cases c : v ≤ 2000
      · have tv : towD v = .int (v : Int) := by unfold towD; rw [if_pos c]
        refine ⟨.int ((v : Int) - 1), fun N => by rw [tv]; simp [isNone, binop], ?_⟩
        rcases lo with lo | lo
        · subst lo
          have g1 : cmpD .ge (.int (((0 : Nat) : Int) - 1)) (.int 0) = some false := rfl
          generalize (((0 : Nat) : Int) - 1) = z at g1 ⊢
          simp [forB, Ir.l__law_right_1, isNone, g1]
        · by_cases c0 : v = 0
          · subst c0
            have g1 : cmpD .ge (.int (((0 : Nat) : Int) - 1)) (.int 0) = some false := rfl
            generalize (((0 : Nat) : Int) - 1) = z at g1 ⊢
            simp [forB, Ir.l__law_right_1, isNone, g1]
          · have := one (v - 1) (by omega)
            rw [lo, show ((v - 1 : Nat) : Int) = (v : Int) - 1 by omega] at this
            exact this
      · have tv : towD v = .none := by unfold towD; rw [if_neg c]
        refine ⟨.int 2000, fun N => by rw [tv]; simp [isNone], ?_⟩
        have hv2 : v = 2001 := by omega
        subst hv2
        rcases lo with lo | lo
        · cases lo
        · have := one 2000 (by omega)
          rw [show 2001 - 1 = 2000 from rfl] at lo
          rw [lo] at this
          exact this
    have h1 : forB (call Ir.tbl (n + 5)) (d + 28) [8, 9] false Ir.l__law_right_1 (.tuple [towD v, .bool true]) [D0, .dat (hillsD hs), .dat (ridgesD rs), .dat (.int (i : Int)), .dat (.int (j : Int)), .dat (.int (t : Int)), .dat (.list ((hidT hs rs i j).map fun (a : Nat) => .int (a : Int))), .dat (towD v), .un, .un, .un, .un, .un, .un, .un, .un, .un, .un] = .nx [D0, .dat (hillsD hs), .dat (ridgesD rs), .dat (.int (i : Int)), .dat (.int (j : Int)), .dat (.int (t : Int)), .dat (.list ((hidT hs rs i j).map fun (a : Nat) => .int (a : Int))), .dat (towD v), .un, .un, .un, .un, .un, .un, .un, .un, .un, .un] := by
      by_cases c : v ≤ 2000
      · have tv : towD v = .int (v : Int) := by unfold towD; rw [if_pos c]
        have := one v c
        rcases up with up | up
        · omega
        · rw [up, ← tv] at this
          exact this
      · have tv : towD v = .none := by unfold towD; rw [if_neg c]
        rw [tv]
        simp [forB, Ir.l__law_right_1, isNone]
    generalize towD v = X at *
    have hit : iters (ev (call Ir.tbl (n + 5)) (d + 28)) (.tup [.tup [.var 7, .lit (.bool true)], .tup [.ife (.notN (.var 7)) (.bin .sub (.var 7) (.lit (.int 1))) (.lit (.int 2000)), .lit (.bool false)]]) [D0, .dat (hillsD hs), .dat (ridgesD rs), .dat (.int (i : Int)), .dat (.int (j : Int)), .dat (.int (t : Int)), .dat (.list ((hidT hs rs i j).map fun (a : Nat) => .int (a : Int))), .dat X, .un, .un, .un, .un, .un, .un, .un, .un, .un, .un] = .ok ([.tuple [X, .bool true], .tuple [o2, .bool false]], none) [D0, .dat (hillsD hs), .dat (ridgesD rs), .dat (.int (i : Int)), .dat (.int (j : Int)), .dat (.int (t : Int)), .dat (.list ((hidT hs rs i j).map fun (a : Nat) => .int (a : Int))), .dat X, .un, .un, .un, .un, .un, .un, .un, .un, .un, .un] := by
      have hv7 : ∀ N, ev (call Ir.tbl (n + 5)) (N + 12) (.ife (.notN (.var 7)) (.bin .sub (.var 7) (.lit (.int 1))) (.lit (.int 2000))) [D0, .dat (hillsD hs), .dat (ridgesD rs), .dat (.int (i : Int)), .dat (.int (j : Int)), .dat (.int (t : Int)), .dat (.list ((hidT hs rs i j).map fun (a : Nat) => .int (a : Int))), .dat X, .un, .un, .un, .un, .un, .un, .un, .un, .un, .un] = .ok (.dat o2) [D0, .dat (hillsD hs), .dat (ridgesD rs), .dat (.int (i : Int)), .dat (.int (j : Int)), .dat (.int (t : Int)), .dat (.list ((hidT hs rs i j).map fun (a : Nat) => .int (a : Int))), .dat X, .un, .un, .un, .un, .un, .un, .un, .un, .un, .un] := fun N => ho2 N
      generalize (E.ife (.notN (.var 7)) (.bin .sub (.var 7) (.lit (.int 1))) (.lit (.int 2000))) = EE at *
      simp [hv7]
    have w : ex (call Ir.tbl (n + 5)) (d + 29) (.for [8, 9] false (.tup [.tup [.var 7, .lit (.bool true)], .tup [.ife (.notN (.var 7)) (.bin .sub (.var 7) (.lit (.int 1))) (.lit (.int 2000)), .lit (.bool false)]]) Ir.l__law_right_1) [D0, .dat (hillsD hs), .dat (ridgesD rs), .dat (.int (i : Int)), .dat (.int (j : Int)), .dat (.int (t : Int)), .dat (.list ((hidT hs rs i j).map fun (a : Nat) => .int (a : Int))), .dat X, .un, .un, .un, .un, .un, .un, .un, .un, .un, .un] = .nx [D0, .dat (hillsD hs), .dat (ridgesD rs), .dat (.int (i : Int)), .dat (.int (j : Int)), .dat (.int (t : Int)), .dat (.list ((hidT hs rs i j).map fun (a : Nat) => .int (a : Int))), .dat X, .un, .un, .un, .un, .un, .un, .un, .un, .un, .un] := by
      rw [ex_for, hit]
      show forL (forB (call Ir.tbl (n + 5)) (d + 28) [8, 9] false Ir.l__law_right_1) _ _ = _
      unfold forL
      rw [h1]
      dsimp only
      unfold forL
      rw [hst]
      rfl
    unfold Ir.t__law_right_6
    generalize hHD : hillsD hs = T at *
    generalize hRD : ridgesD rs = R at *
    simp [ck, e1, w]
end
end Fs
set_option autoImplicit false
set_option linter.all false
set_option maxRecDepth 100000
namespace Fs
open PySem
variable {n : Nat}
section
variable {hs : List Hl} {rs : List Rg} {i j t : Nat} {u v : D}
theorem r7 (D0 : Sl) (d : Nat) : ex (call Ir.tbl (n + 5)) (d + 30) Ir.t__law_right_7 [D0, .dat (hillsD hs), .dat (ridgesD rs), .dat (.int (i : Int)), .dat (.int (j : Int)), .dat (.int (t : Int)), .dat (.list ((hidT hs rs i j).map fun (a : Nat) => .int (a : Int))), .un, .un, .un, .un, .un, .un, .un, .un, .un, .un, .un] = .nx [D0, .dat (hillsD hs), .dat (ridgesD rs), .dat (.int (i : Int)), .dat (.int (j : Int)), .dat (.int (t : Int)), .dat (.list ((hidT hs rs i j).map fun (a : Nat) => .int (a : Int))), .un, .un, .un, .un, .dat .none, .un, .un, .un, .un, .un, .un] := by
  unfold Ir.t__law_right_7
  simp
theorem r8 (h : HlsOk hs) (kr : RgsOk rs) (ht : t ≤ 8) (D0 : Sl) (d : Nat) : ex (call Ir.tbl (n + 5)) (d + 30) Ir.t__law_right_8 [D0, .dat (hillsD hs), .dat (ridgesD rs), .dat (.int (i : Int)), .dat (.int (j : Int)), .dat (.int (t : Int)), .dat (.list ((hidT hs rs i j).map fun (a : Nat) => .int (a : Int))), .un, .un, .un, .un, .dat .none, .un, .un, .un, .un, .un, .un] = .nx [D0, .dat (hillsD hs), .dat (ridgesD rs), .dat (.int (i : Int)), .dat (.int (j : Int)), .dat (.int (t : Int)), .dat (.list ((hidT hs rs i j).map fun (a : Nat) => .int (a : Int))), .un, .un, .un, .un, .dat (bD ((List.range hs.length).foldl (bstS (cntJ hs rs t)) none)), .un, .un, .un, .un, .un, .un] := by
  have h9 := h.hi
  have ll := len_hills (hs := hs)
  have rk := fun (b : Nat) (hb : b < hs.length) => lraised_ok (n := n + 4) h9 hb (t : Int)
  have pk := fun (b : Nat) (hb : b < hs.length) => lpairs_ok (n := n + 2) (land_R h kr hb (t := t) (by omega) (by omega))
  have lk := fun (b : Nat) => (show prim .len [.list ((pairsJ (raiH hs b (t : Int)) rs).map prD)] = some (.dat (.int (cntJ hs rs t b : Nat))) by
    show some (Vl.dat (.int ((pairsJ (raiH hs b (t : Int)) rs).map prD).length)) = _
    rw [List.length_map]; rfl)
  generalize hHD : hillsD hs = T at *
  generalize hRD : ridgesD rs = R at *
  obtain ⟨w, _⟩ := for_run (C := call Ir.tbl (n + 5)) (n := d + 29) (tg := [12]) (one := true) (it := .rng1 (.prim .len [.var 1])) (b := Ir.l__law_right_2) (fun (j : Nat) => .int (j : Int)) (List.range hs.length) (fun o : Option (Nat × Nat) => [D0, .dat T, .dat R, .dat (.int (i : Int)), .dat (.int (j : Int)), .dat (.int (t : Int)), .dat (.list ((hidT hs rs i j).map fun (a : Nat) => .int (a : Int))), .un, .un, .un, .un, .dat (bD o), .un, .un, .un, .un, .un, .un]) (fun j a => True) (bstS (cntJ hs rs t)) none (by simp [ll, rng0 hs.length (by omega)]) trivial (fun m b o hj hP => by
    obtain ⟨h5, h6⟩ := List.getElem?_eq_some_iff.mp hj
    have hb : b = m := by simp at h6; exact h6.symm
    subst hb
    simp at h5
    refine ⟨?_, trivial⟩
    have c1 := pk b h5
    have r1 := rk b h5
    have l1 := lk b
    generalize (pairsJ (raiH hs b (t : Int)) rs).map prD = PP at *
    cases o with
    | none => simp [forB, Ir.l__law_right_2, r1, c1, l1, bD, bstS, isNone]
    | some hm =>
      obtain ⟨hh, mm⟩ := hm
      have c2 := bst_cmp hh mm (cntJ hs rs t b)
      have c3 : idxD (.tuple [.int (hh : Int), .int (mm : Int)]) (.int 1) = some (.int (mm : Int)) := rfl
      by_cases z : mm < cntJ hs rs t b
      · rw [decide_eq_true z] at c2
        simp [forB, Ir.l__law_right_2, r1, c1, l1, bD, bstS, c2, c3, z, isNone]
      · rw [decide_eq_false z] at c2
        simp [forB, Ir.l__law_right_2, r1, c1, l1, bD, bstS, c2, c3, z, isNone])
  exact w
theorem okD_bD (o : Option (Nat × Nat)) : okD dp (bD o) = true := by
  cases o with
  | none => rfl
  | some p => rfl
theorem r9 (h : HlsOk hs) (kr : RgsOk rs) (ht : t ≤ 8) (D0 : Sl) (d : Nat) : ex (call Ir.tbl (n + 5)) (d + 30) Ir.t__law_right_9 [D0, .dat (hillsD hs), .dat (ridgesD rs), .dat (.int (i : Int)), .dat (.int (j : Int)), .dat (.int (t : Int)), .dat (.list ((hidT hs rs i j).map fun (a : Nat) => .int (a : Int))), .un, .un, .un, .un, .dat (bD ((List.range hs.length).foldl (bstS (cntJ hs rs t)) none)), .un, .un, .un, .un, .un, .un] = .nx [D0, .dat (hillsD hs), .dat (ridgesD rs), .dat (.int (i : Int)), .dat (.int (j : Int)), .dat (.int (t : Int)), .dat (.list ((hidT hs rs i j).map fun (a : Nat) => .int (a : Int))), .un, .un, .un, .un, .dat (bD ((List.range hs.length).foldl (bstS (cntJ hs rs t)) none)), .un, .un, .un, .un, .un, .un] := by
  have e1 := best_ok (n := n) h kr (t := t) (by omega)
  have e2 := are_hills_ok (n := n + 2) h
  have e3 := are_ridges_ok (n := n + 2) kr
  have e4 := cmp_ne_self (okD_bD ((List.range hs.length).foldl (bstS (cntJ hs rs t)) none))
  unfold Ir.t__law_right_9
  generalize ((List.range hs.length).foldl (bstS (cntJ hs rs t)) none) = BB at *
  generalize hHD : hillsD hs = T at *
  generalize hRD : ridgesD rs = R at *
  simp [e1, e2, e3, e4]
theorem r10 {B : Nat} {Dc : D} (kd : Dice B Dc) (hB : B ≤ 1000) (d : Nat) : ∃ (v Dc' : D), v ∈ badH ∧ Dice (B + 1) Dc' ∧ ex (call Ir.tbl (n + 5)) (d + 30) Ir.t__law_right_10 [.mu false Dc, .dat (hillsD hs), .dat (ridgesD rs), .dat (.int (i : Int)), .dat (.int (j : Int)), .dat (.int (t : Int)), .dat (.list ((hidT hs rs i j).map fun (a : Nat) => .int (a : Int))), .un, .un, .un, .un, .dat (bD ((List.range hs.length).foldl (bstS (cntJ hs rs t)) none)), .un, .un, .un, .un, .un, .un] = .nx [.mu false Dc', .dat (hillsD hs), .dat (ridgesD rs), .dat (.int (i : Int)), .dat (.int (j : Int)), .dat (.int (t : Int)), .dat (.list ((hidT hs rs i j).map fun (a : Nat) => .int (a : Int))), .un, .un, .un, .un, .dat (bD ((List.range hs.length).foldl (bstS (cntJ hs rs t)) none)), .un, .un, .dat v, .un, .un, .un] := by
  obtain ⟨v, D1, h1, h2, e⟩ := pick_ok (n := n + 3) kd (by omega) (xs := badH) (by simp) (by simp)
  refine ⟨v, D1, h1, h2, ?_⟩
  unfold Ir.t__law_right_10
  generalize hHD : hillsD hs = T at *
  generalize hRD : ridgesD rs = R at *
  simp [e]
theorem r11 {B : Nat} {Dc : D} (kd : Dice B Dc) (hB : B ≤ 1000) (d : Nat) : ∃ (u Dc' : D), u ∈ oddR ∧ Dice (B + 1) Dc' ∧ ex (call Ir.tbl (n + 5)) (d + 30) Ir.t__law_right_11 [.mu false Dc, .dat (hillsD hs), .dat (ridgesD rs), .dat (.int (i : Int)), .dat (.int (j : Int)), .dat (.int (t : Int)), .dat (.list ((hidT hs rs i j).map fun (a : Nat) => .int (a : Int))), .un, .un, .un, .un, .dat (bD ((List.range hs.length).foldl (bstS (cntJ hs rs t)) none)), .un, .un, .dat v, .un, .un, .un] = .nx [.mu false Dc', .dat (hillsD hs), .dat (ridgesD rs), .dat (.int (i : Int)), .dat (.int (j : Int)), .dat (.int (t : Int)), .dat (.list ((hidT hs rs i j).map fun (a : Nat) => .int (a : Int))), .un, .un, .un, .un, .dat (bD ((List.range hs.length).foldl (bstS (cntJ hs rs t)) none)), .un, .un, .dat v, .dat u, .un, .un] := by
  obtain ⟨u, D1, h1, h2, e⟩ := pick_ok (n := n + 3) kd (by omega) (xs := oddR) (by simp) (by simp)
  refine ⟨u, D1, h1, h2, ?_⟩
  unfold Ir.t__law_right_11
  generalize hHD : hillsD hs = T at *
  generalize hRD : ridgesD rs = R at *
  simp [e]
abbrev dueD : D := .list [.str "hills", .str "ridges", .str "one", .str "ridges", .str "other", .str "one", .str "height", .str "hills"]
theorem ref1 (hv : v ∈ badH) : call Ir.tbl (n + 5) 11 [.dat v, .dat .none, .dat .none, .dat .none] = .exc (.str "hills") [.dat v, .dat .none, .dat .none, .dat .none] := by
  have e1 := land_bad (n := n) hv .none
  exact run (fn := Ir.f_hiding) rfl rfl fun d => by simp [Ir.f_hiding, e1]
theorem ref2 (h : HlsOk hs) (hu : u ∈ oddR) : call Ir.tbl (n + 5) 11 [.dat (hillsD hs), .dat u, .dat .none, .dat .none] = .exc (.str "ridges") [.dat (hillsD hs), .dat u, .dat .none, .dat .none] := by
  have e1 := land_odd (n := n) h hu
  exact run (fn := Ir.f_hiding) rfl rfl fun d => by simp [Ir.f_hiding, e1]
theorem ref3 (h : HlsOk hs) (kr : RgsOk rs) : call Ir.tbl (n + 5) 11 [.dat (hillsD hs), .dat (ridgesD rs), .dat (.int (hs.length : Nat)), .dat .none] = .exc (.str "one") [.dat (hillsD hs), .dat (ridgesD rs), .dat (.int (hs.length : Nat)), .dat .none] := by
  have e1 := land_ok (n := n) h kr
  have e2 := need_integer_bad (n := n + 2) (hs.length : Nat) "one" 0 ((hs.length : Int) - 1) (.inr (by omega)) (by decide)
  have ll := len_hills (hs := hs)
  generalize hHD : hillsD hs = T at *
  generalize hRD : ridgesD rs = R at *
  exact run (fn := Ir.f_hiding) rfl rfl fun d => by simp [Ir.f_hiding, e1, ll, binop, e2]
theorem ref4 (h : HlsOk hs) (hu : u ∈ oddR) : call Ir.tbl (n + 5) 12 [.dat (hillsD hs), .dat u] = .exc (.str "ridges") [.dat (hillsD hs), .dat u] := by
  have e1 := land_odd (n := n) h hu
  exact run (fn := Ir.f_net_of) rfl rfl fun d => by simp [Ir.f_net_of, e1]
theorem ref5 (h : HlsOk hs) (kr : RgsOk rs) : call Ir.tbl (n + 5) 14 [.dat (hillsD hs), .dat (ridgesD rs), .dat (.int 0), .dat (.int 0)] = .exc (.str "other") [.dat (hillsD hs), .dat (ridgesD rs), .dat (.int 0), .dat (.int 0)] := by
  have e1 := land_ok (n := n) h kr
  have h1 := h.lo
  have e2 := fun nm => need_integer_ok (n := n + 2) 0 nm 0 ((hs.length : Int) - 1) (by omega) (by omega)
  have ll := len_hills (hs := hs)
  have hn : Str.length "other" ≤ 1000 := by decide
  have ck : cmpD .eq (.int 0) (.int 0) = some true := by
    show some (PyData.eqv (.int 0) (.int 0)) = _
    rw [eqv_int]; rfl
  generalize hHD : hillsD hs = T at *
  generalize hRD : ridgesD rs = R at *
  exact run (fn := Ir.f_least_tower) rfl rfl fun d => by simp [Ir.f_least_tower, e1, ll, binop, e2, ck, hn]
theorem ref6 (h : HlsOk hs) (kr : RgsOk rs) : call Ir.tbl (n + 5) 14 [.dat (hillsD hs), .dat (ridgesD rs), .dat (.int (-1)), .dat (.int 0)] = .exc (.str "one") [.dat (hillsD hs), .dat (ridgesD rs), .dat (.int (-1)), .dat (.int 0)] := by
  have e1 := land_ok (n := n) h kr
  have e2 := need_integer_bad (n := n + 2) (-1) "one" 0 ((hs.length : Int) - 1) (.inl (by decide)) (by decide)
  have ll := len_hills (hs := hs)
  generalize hHD : hillsD hs = T at *
  generalize hRD : ridgesD rs = R at *
  exact run (fn := Ir.f_least_tower) rfl rfl fun d => by simp [Ir.f_least_tower, e1, ll, binop, e2]
theorem ref7 (h : HlsOk hs) (kr : RgsOk rs) : call Ir.tbl (n + 5) 15 [.dat (hillsD hs), .dat (ridgesD rs), .dat (.int 2001)] = .exc (.str "height") [.dat (hillsD hs), .dat (ridgesD rs), .dat (.int 2001)] := by
  have e1 := land_ok (n := n) h kr
  have e2 := need_integer_bad (n := n + 2) 2001 "height" 0 2000 (.inr (by decide)) (by decide)
  exact run (fn := Ir.f_best_tower) rfl rfl fun d => by simp [Ir.f_best_tower, e1, e2]
theorem ref8 (hv : v ∈ badH) (R : D) : call Ir.tbl (n + 5) 15 [.dat v, .dat R, .dat (.int 0)] = .exc (.str "hills") [.dat v, .dat R, .dat (.int 0)] := by
  have e1 := land_bad (n := n) hv R
  exact run (fn := Ir.f_best_tower) rfl rfl fun d => by simp [Ir.f_best_tower, e1]
theorem r12 (h : HlsOk hs) (kr : RgsOk rs) (hv : v ∈ badH) (hu : u ∈ oddR) (D0 : Sl) (d : Nat) : ex (call Ir.tbl (n + 5)) (d + 30) Ir.t__law_right_12 [D0, .dat (hillsD hs), .dat (ridgesD rs), .dat (.int (i : Int)), .dat (.int (j : Int)), .dat (.int (t : Int)), .dat (.list ((hidT hs rs i j).map fun (a : Nat) => .int (a : Int))), .un, .un, .un, .un, .dat (bD ((List.range hs.length).foldl (bstS (cntJ hs rs t)) none)), .un, .un, .dat v, .dat u, .un, .un] = .nx [D0, .dat (hillsD hs), .dat (ridgesD rs), .dat (.int (i : Int)), .dat (.int (j : Int)), .dat (.int (t : Int)), .dat (.list ((hidT hs rs i j).map fun (a : Nat) => .int (a : Int))), .un, .un, .un, .un, .dat (bD ((List.range hs.length).foldl (bstS (cntJ hs rs t)) none)), .un, .un, .dat v, .dat u, .dat dueD, .un] := by
  have c1 := ref1 (n := n) hv
  have c2 := ref2 (n := n) h hu
  have c3 := ref3 (n := n) h kr
  have c4 := ref4 (n := n) h hu
  have c5 := ref5 (n := n) h kr
  have c6 := ref6 (n := n) h kr
  have c7 := ref7 (n := n) h kr
  have c8 := ref8 (n := n) hv (ridgesD rs)
  have ll := len_hills (hs := hs)
  unfold Ir.t__law_right_12
  generalize ((List.range hs.length).foldl (bstS (cntJ hs rs t)) none) = BB at *
  generalize hHD : hillsD hs = T at *
  generalize hRD : ridgesD rs = R at *
  simp [ll, c1, c2, c3, c4, c5, c6, c7, c8]
theorem r13 (D0 : Sl) (d : Nat) : ex (call Ir.tbl (n + 5)) (d + 30) Ir.t__law_right_13 [D0, .dat (hillsD hs), .dat (ridgesD rs), .dat (.int (i : Int)), .dat (.int (j : Int)), .dat (.int (t : Int)), .dat (.list ((hidT hs rs i j).map fun (a : Nat) => .int (a : Int))), .un, .un, .un, .un, .dat (bD ((List.range hs.length).foldl (bstS (cntJ hs rs t)) none)), .un, .un, .dat v, .dat u, .dat dueD, .un] = .nx [D0, .dat (hillsD hs), .dat (ridgesD rs), .dat (.int (i : Int)), .dat (.int (j : Int)), .dat (.int (t : Int)), .dat dueD, .un, .un, .un, .un, .dat (bD ((List.range hs.length).foldl (bstS (cntJ hs rs t)) none)), .un, .un, .dat v, .dat u, .dat dueD, .un] := by
  unfold Ir.t__law_right_13
  generalize ((List.range hs.length).foldl (bstS (cntJ hs rs t)) none) = BB at *
  generalize hHD : hillsD hs = T at *
  generalize hRD : ridgesD rs = R at *
  simp
theorem r14 (hv : v ∈ badH) (hu : u ∈ oddR) (D0 : Sl) (d : Nat) : ex (call Ir.tbl (n + 5)) (d + 30) Ir.t__law_right_14 [D0, .dat (hillsD hs), .dat (ridgesD rs), .dat (.int (i : Int)), .dat (.int (j : Int)), .dat (.int (t : Int)), .dat dueD, .un, .un, .un, .un, .dat (bD ((List.range hs.length).foldl (bstS (cntJ hs rs t)) none)), .un, .un, .dat v, .dat u, .dat dueD, .un] = .rt (.dat (.bool true)) [D0, .dat (hillsD hs), .dat (ridgesD rs), .dat (.int (i : Int)), .dat (.int (j : Int)), .dat (.int (t : Int)), .dat dueD, .un, .un, .un, .un, .dat (bD ((List.range hs.length).foldl (bstS (cntJ hs rs t)) none)), .un, .un, .dat v, .dat u, .dat dueD, .un] := by
  have e : cmpD .eq dueD dueD = some true := cmp_eq_self (by decide)
  have e2 := bad_hills (n := n + 2) hv
  have e3 := odd_ridges (n := n + 2) hu
  unfold Ir.t__law_right_14
  generalize dueD = DD at *
  generalize ((List.range hs.length).foldl (bstS (cntJ hs rs t)) none) = BB at *
  generalize hHD : hillsD hs = T at *
  generalize hRD : ridgesD rs = R at *
  simp [e, e2, e3]
end
theorem right_ok {Dc : D} (kd : Dice 0 Dc) : ∃ b : Sl, call Ir.tbl (n + 6) 26 [.mu false Dc] = .ok (.dat (.bool true)) [b] := by
  obtain ⟨q, hq⟩ := call_at (tbl := Ir.tbl) (i := 26) (fn := Ir.f__law_right) rfl (n + 5) [.mu false Dc] rfl
  obtain ⟨hs, rs, D1, h, h5, kr, k3, kd1, s1⟩ := r1 (n := n) kd (by omega) q
  obtain ⟨i, j, t, D2, hi, hj, ht, kd2, s2⟩ := r2 (n := n) (rs := rs) kd1 (by omega) h q
  obtain ⟨v, D3, hv, kd3, s10⟩ := r10 (n := n) (hs := hs) (rs := rs) (i := i) (j := j) (t := t) kd2 (by omega) q
  obtain ⟨u, D4, hu, kd4, s11⟩ := r11 (n := n) (hs := hs) (rs := rs) (i := i) (j := j) (t := t) (v := v) kd3 (by omega) q
  have e : ∃ (b : Sl) (s : S), exs (ex (call Ir.tbl (n + 5)) (q + 30)) Ir.f__law_right.body ([.mu false Dc] ++ List.replicate (Ir.f__law_right.ns - Ir.f__law_right.np) .un) = .rt (.dat (.bool true)) (b :: s) := by
    refine ⟨.mu false D4, [.dat (hillsD hs), .dat (ridgesD rs), .dat (.int (i : Int)), .dat (.int (j : Int)), .dat (.int (t : Int)), .dat dueD, .un, .un, .un, .un, .dat (bD ((List.range hs.length).foldl (bstS (cntJ hs rs t)) none)), .un, .un, .dat v, .dat u, .dat dueD, .un], ?_⟩
    show exs _ [Ir.t__law_right_1, Ir.t__law_right_2, Ir.t__law_right_3, Ir.t__law_right_4, Ir.t__law_right_5, Ir.t__law_right_6, Ir.t__law_right_7, Ir.t__law_right_8, Ir.t__law_right_9, Ir.t__law_right_10, Ir.t__law_right_11, Ir.t__law_right_12, Ir.t__law_right_13, Ir.t__law_right_14] [.mu false Dc, .un, .un, .un, .un, .un, .un, .un, .un, .un, .un, .un, .un, .un, .un, .un, .un, .un] = _
    rw [exs_nx s1, exs_nx s2, exs_nx (r3 h kr hi hj _ q), exs_nx (r4 h kr hi hj _ q), exs_nx (r5 h kr _ q), exs_nx (r6 h kr hi hj _ q), exs_nx (r7 _ q), exs_nx (r8 h kr ht _ q), exs_nx (r9 h kr ht _ q), exs_nx s10, exs_nx s11, exs_nx (r12 h kr hv hu _ q), exs_nx (r13 _ q)]
    rw [exs_cons, r14 hv hu]
  obtain ⟨b, s, e⟩ := e
  rw [hq, e]
  exact ⟨b, rfl⟩
theorem cut6 {α : Type} (xs : List α) : cut xs none (some 6) = xs.take 6 := by
  unfold cut sIx
  simp
theorem cut_map {α β : Type} (f : α → β) (xs : List α) (lo hi : Option Int) : cut (xs.map f) lo hi = (cut xs lo hi).map f := by
  unfold cut
  rw [List.length_map, List.map_take, List.map_drop]
theorem dice_ok (ns : List Int) (hl : ns.length ≤ 63) (spot : Nat) (hs : spot < 1000) : ∃ Dc : D, Dice 0 Dc ∧ call Ir.tbl (n + 1) 16 [.scr ns, .dat (.int spot)] = .ok (.fr Dc) [.scr ns, .dat (.int spot)] := by
  obtain ⟨q, hq⟩ := call_at (tbl := Ir.tbl) (i := 16) (fn := Ir.f__law_dice) rfl n [.scr ns, .dat (.int spot)] rfl
  obtain ⟨own, ho⟩ : ∃ own : Int, ∀ q, ev (call Ir.tbl n) (q + 20) (.ife (.cmp .lt (.ref 1) (.prim .len [.ref 0])) (.idx (.ref 0) (.ref 1)) (.bin .add (.bin .mul (.lit (.int 733)) (.ref 1)) (.lit (.int 29)))) [.scr ns, .dat (.int spot), .un, .un, .un] = .ok (.dat (.int own)) [.scr ns, .dat (.int spot), .un, .un, .un] := by
    by_cases hc : spot < ns.length
    · exact ⟨ns[spot], fun q => by simp [prim, cmpD, ltD, hc, idxD, at?]⟩
    · exact ⟨733 * spot + 29, fun q => by
        have : small 733 = true := by decide
        simp [prim, cmpD, ltD, hc, binop, this]⟩
  have e1 : small 7907 = true := by decide
  have e2 : small 48271 = true := by decide
  have hcl : (cut ns none (some 6)).length ≤ 63 := by
    unfold cut
    rw [List.length_take, List.length_drop]
    omega
  have hlim : (cut ns none (some 6)).length + 1 ≤ lim := by unfold lim; omega
  obtain ⟨w1, w2, w3⟩ := for_run (C := call Ir.tbl n) (n := q + 29) (tg := [4]) (one := true) (it := .bin .add (.slc (.ref 0) none (some (.lit (.int 6)))) (.lst [.var 2])) (b := [
    .set 3 (.bin .mod (.prim .int [.bin .add (.bin .mul (.var 3) (.lit (.int 48271))) (.bin .mod (.prim .int [.var 4]) (.lit (.int 2147480009)))]) (.lit (.int 2147480009))),
    .kill [4]]) PyData.int (cut ns none (some 6) ++ [own]) (fun m : Int => [.scr ns, .dat (.int spot), .dat (.int own), .dat (.int m), .un]) (fun j m => 0 ≤ m ∧ (0 < j → m < 2147480009)) (fun m x => (m * 48271 + x.fmod 2147480009).fmod 2147480009) (940007 + 7907 * spot) (by simp [slcD, cut_map, binop, hlim]) ⟨by omega, by omega⟩ (fun j a m hj hP => by
      have := fmod_nonneg (m * 48271 + a.fmod 2147480009) (m := 2147480009) (by omega)
      refine ⟨?_, this.1, fun _ => this.2⟩
      simp [forB, binop, e2, prim])
  obtain ⟨m, hm⟩ : ∃ m, m = (cut ns none (some 6) ++ [own]).foldl (fun m x => (m * 48271 + x.fmod 2147480009).fmod 2147480009) (940007 + 7907 * (spot : Int)) := ⟨_, rfl⟩
  rw [← hm] at w1 w2 w3
  have w3 := w3 (by simp)
  have hp : small 10 = true := by decide
  refine ⟨.list [.int (if own < 0 ∨ 10000000000000000 ≤ own then own.natAbs else 0), .int m, .int 0], ⟨_, _, _, rfl, by split <;> omega, w2, w3, by omega, by omega⟩, ?_⟩
  rw [hq]
  have w1 : ex (call Ir.tbl n) (q + 30) (.for [4] true (.bin .add (.slc (.ref 0) none (some (.lit (.int 6)))) (.lst [.var 2])) [
    .set 3 (.bin .mod (.prim .int [.bin .add (.bin .mul (.var 3) (.lit (.int 48271))) (.bin .mod (.prim .int [.var 4]) (.lit (.int 2147480009)))]) (.lit (.int 2147480009))),
    .kill [4]]) [.scr ns, .dat (.int spot), .dat (.int own), .dat (.int (940007 + 7907 * spot)), .un] = .nx [.scr ns, .dat (.int spot), .dat (.int own), .dat (.int m), .un] := w1
  by_cases c1 : own < 0
  · simp [Ir.f__law_dice, ho, binop, e1, w1, cmpD, ltD, c1, prim]
  · by_cases c2 : 10000000000000000 ≤ own
    · simp [Ir.f__law_dice, ho, binop, e1, w1, cmpD, ltD, c1, prim, hp, c2]
    · simp [Ir.f__law_dice, ho, binop, e1, w1, cmpD, ltD, c1, prim, hp, c2]
theorem law_ok (ns : List Int) (hl : ns.length ≤ 63) : ∃ bs, call Ir.tbl (n + 7) 27 [.scr ns] = .ok (.dat (.bool true)) bs := by
  obtain ⟨q, hq⟩ := call_at (tbl := Ir.tbl) (i := 27) (fn := Ir.f_law) rfl (n + 6) [.scr ns] rfl
  obtain ⟨m, hm, hm4⟩ : ∃ m : Nat, (if (1 : Int) < (if (ns.length : Int) < 4 then (ns.length : Int) else 4) then (if (ns.length : Int) < 4 then (ns.length : Int) else 4) else 1) = m ∧ m ≤ 4 := by
    refine ⟨(if (1 : Int) < (if (ns.length : Int) < 4 then (ns.length : Int) else 4) then (if (ns.length : Int) < 4 then (ns.length : Int) else 4) else 1).toNat, ?_, ?_⟩
    · split <;> split <;> omega
    · split <;> split <;> omega
  have w := for_find (C := call Ir.tbl (n + 6)) (n := q + 29) (tg := [1]) (one := true) (it := .rng1 (.prim .max2 [.lit (.int 1), .prim .min2 [.lit (.int 4), .prim .len [.ref 0]]])) (b := Ir.l_law_1) (fun (j : Nat) => (.int (j : Int) : D)) (List.range m) [.scr ns, .un] 1 (fun _ => none) (by simp [prim, hm, rng0 m (by omega)]) (fun j hj => by
    have hj := List.mem_range.mp hj
    obtain ⟨Dc, kd, e1⟩ := dice_ok (n := n + 5) ns hl j (by omega)
    obtain ⟨b, e2⟩ := right_ok (n := n) kd
    simp [forB, Ir.l_law_1, e1, e2])
  have hf : ((List.range m).findSome? fun _ => (none : Option D)) = none := by simp
  rw [hf] at w
  have w : ex (call Ir.tbl (n + 6)) (q + 30) (.for [1] true (.rng1 (.prim .max2 [.lit (.int 1), .prim .min2 [.lit (.int 4), .prim .len [.ref 0]]])) Ir.l_law_1) [.scr ns, .un] = .nx [.scr ns, .un] := w
  rw [hq]
  simp [Ir.f_law, w]
end Fs
set_option Elab.async false
set_option linter.all false
set_option maxRecDepth 100000
set_option maxHeartbeats 0
namespace Lw
open PySem PySem.Spec PyProof.Rows L2 Fs
abbrev LW : PySem.W.OpenLaw := PySem.Challenge.rw_firesseen_k09_whole_terrain
def top (i : Nat) : Stmt := PySem.Challenge.pw_firesseen_k09_whole_terrain.main.body.getD i (.Pass ⟨0, 0, 0, 0⟩)
def initSt : Stmt := (C8.clsBody (top 1)).getD 0 (.Pass ⟨0, 0, 0, 0⟩)
theorem len0 {α : Type} {l : List α} (h : l.length = 0) : l = [] := List.length_eq_zero_iff.mp h
theorem len1 {α : Type} {l : List α} (h : l.length = 1) : ∃ a0 : α, l = [a0] := by
  match l, h with
  | [a0], _ => exact ⟨a0, rfl⟩
theorem len2 {α : Type} {l : List α} (h : l.length = 2) : ∃ a0 a1 : α, l = [a0, a1] := by
  match l, h with
  | [a0, a1], _ => exact ⟨a0, a1, rfl⟩
theorem len3 {α : Type} {l : List α} (h : l.length = 3) : ∃ a0 a1 a2 : α, l = [a0, a1, a2] := by
  match l, h with
  | [a0, a1, a2], _ => exact ⟨a0, a1, a2, rfl⟩
theorem len4 {α : Type} {l : List α} (h : l.length = 4) : ∃ a0 a1 a2 a3 : α, l = [a0, a1, a2, a3] := by
  match l, h with
  | [a0, a1, a2, a3], _ => exact ⟨a0, a1, a2, a3, rfl⟩
theorem len5 {α : Type} {l : List α} (h : l.length = 5) : ∃ a0 a1 a2 a3 a4 : α, l = [a0, a1, a2, a3, a4] := by
  match l, h with
  | [a0, a1, a2, a3, a4], _ => exact ⟨a0, a1, a2, a3, a4, rfl⟩
def g_is_integer : FI := ⟨"is_integer", C8.fnArgs (top 4), C8.fnBody (top 4), C8.fnScope (top 4), ["value"], ["value"], [1], Ir.f_is_integer, false, false⟩
def g_need_integer : FI := ⟨"need_integer", C8.fnArgs (top 5), C8.fnBody (top 5), C8.fnScope (top 5), ["value", "name", "least", "most"], ["value", "name", "least", "most"], [4], Ir.f_need_integer, false, false⟩
def g_is_hill : FI := ⟨"is_hill", C8.fnArgs (top 10), C8.fnBody (top 10), C8.fnScope (top 10), ["value"], ["value", "one"], [1], Ir.f_is_hill, true, false⟩
def g_are_hills : FI := ⟨"are_hills", C8.fnArgs (top 11), C8.fnBody (top 11), C8.fnScope (top 11), ["value"], ["value", "one"], [1], Ir.f_are_hills, true, false⟩
def g_is_ridge : FI := ⟨"is_ridge", C8.fnArgs (top 12), C8.fnBody (top 12), C8.fnScope (top 12), ["value"], ["value", "one"], [1], Ir.f_is_ridge, true, false⟩
def g_are_ridges : FI := ⟨"are_ridges", C8.fnArgs (top 13), C8.fnBody (top 13), C8.fnScope (top 13), ["value"], ["value", "one"], [1], Ir.f_are_ridges, true, false⟩
def g_need_land : FI := ⟨"need_land", C8.fnArgs (top 14), C8.fnBody (top 14), C8.fnScope (top 14), ["hills", "ridges"], ["hills", "ridges"], [2], Ir.f_need_land, false, false⟩
def g_turn : FI := ⟨"turn", C8.fnArgs (top 15), C8.fnBody (top 15), C8.fnScope (top 15), ["one", "other", "third"], ["one", "other", "third"], [3], Ir.f_turn, false, false⟩
def g_shares : FI := ⟨"shares", C8.fnArgs (top 16), C8.fnBody (top 16), C8.fnScope (top 16), ["one", "other", "ridge"], ["one", "other", "ridge", "first", "second", "left", "right", "part"], [3], Ir.f_shares, false, false⟩
def g_along : FI := ⟨"along", C8.fnArgs (top 17), C8.fnBody (top 17), C8.fnScope (top 17), ["one", "other", "ridge"], ["one", "other", "ridge", "axis", "whole", "ends", "begin", "end"], [3], Ir.f_along, false, false⟩
def g_is_hidden : FI := ⟨"is_hidden", C8.fnArgs (top 18), C8.fnBody (top 18), C8.fnScope (top 18), ["one", "other", "ridge"], ["one", "other", "ridge", "above", "below"], [3], Ir.f_is_hidden, false, false⟩
def g_hiding : FI := ⟨"hiding", C8.fnArgs (top 19), C8.fnBody (top 19), C8.fnScope (top 19), ["hills", "ridges", "one", "other"], ["hills", "ridges", "one", "other", "at"], [3, 4], Ir.f_hiding, false, false⟩
def g_net_of : FI := ⟨"net_of", C8.fnArgs (top 20), C8.fnBody (top 20), C8.fnScope (top 20), ["hills", "ridges"], ["hills", "ridges", "lines", "one", "other", "ridge"], [1, 2], Ir.f_net_of, false, false⟩
def g_raised : FI := ⟨"raised", C8.fnArgs (top 21), C8.fnBody (top 21), C8.fnScope (top 21), ["hills", "hill", "tower"], ["hills", "hill", "tower", "x", "y", "height"], [3], Ir.f_raised, false, false⟩
def g_least_tower : FI := ⟨"least_tower", C8.fnArgs (top 22), C8.fnBody (top 22), C8.fnScope (top 22), ["hills", "ridges", "one", "other"], ["hills", "ridges", "one", "other", "low", "high", "middle", "rows", "ridge"], [3, 4], Ir.f_least_tower, false, false⟩
def g_best_tower : FI := ⟨"best_tower", C8.fnArgs (top 23), C8.fnBody (top 23), C8.fnScope (top 23), ["hills", "ridges", "height"], ["hills", "ridges", "height", "best", "hill", "many", "rows", "one", "other", "ridge"], [2, 3], Ir.f_best_tower, false, false⟩
def g__law_dice : FI := ⟨"_law_dice", C8.fnArgs (top 25), C8.fnBody (top 25), C8.fnScope (top 25), ["script", "spot"], ["script", "spot", "own", "mixed", "cell"], [2], Ir.f__law_dice, false, false⟩
def g__law_roll : FI := ⟨"_law_roll", C8.fnArgs (top 26), C8.fnBody (top 26), C8.fnScope (top 26), ["dice", "many"], ["dice", "many", "found"], [2], Ir.f__law_roll, false, false⟩
def g__law_pick : FI := ⟨"_law_pick", C8.fnArgs (top 27), C8.fnBody (top 27), C8.fnScope (top 27), ["dice", "things"], ["dice", "things"], [2], Ir.f__law_pick, false, false⟩
def g__law_hills : FI := ⟨"_law_hills", C8.fnArgs (top 29), C8.fnBody (top 29), C8.fnScope (top 29), ["dice"], ["dice", "found", "turn_v", "place"], [1], Ir.f__law_hills, false, false⟩
def g__law_ridges : FI := ⟨"_law_ridges", C8.fnArgs (top 30), C8.fnBody (top 30), C8.fnScope (top 30), ["dice"], ["dice", "found", "turn_v", "row"], [1], Ir.f__law_ridges, false, false⟩
def g__law_cross : FI := ⟨"_law_cross", C8.fnArgs (top 31), C8.fnBody (top 31), C8.fnScope (top 31), ["a", "b"], ["a", "b"], [2], Ir.f__law_cross, false, false⟩
def g__law_low : FI := ⟨"_law_low", C8.fnArgs (top 32), C8.fnBody (top 32), C8.fnScope (top 32), ["one", "other", "above", "below", "height"], ["one", "other", "above", "below", "height"], [5], Ir.f__law_low, false, false⟩
def g__law_hides : FI := ⟨"_law_hides", C8.fnArgs (top 33), C8.fnBody (top 33), C8.fnScope (top 33), ["one", "other", "ridge"], ["one", "other", "ridge", "way", "wall", "gap", "scale", "sign", "along_v", "over", "square", "tall", "point", "part", "place"], [3], Ir.f__law_hides, false, false⟩
def g__law_pairs : FI := ⟨"_law_pairs", C8.fnArgs (top 34), C8.fnBody (top 34), C8.fnScope (top 34), ["hills", "ridges"], ["hills", "ridges", "found", "one", "other", "ridge"], [2], Ir.f__law_pairs, false, false⟩
def g__law_raised : FI := ⟨"_law_raised", C8.fnArgs (top 35), C8.fnBody (top 35), C8.fnScope (top 35), ["hills", "hill", "tower"], ["hills", "hill", "tower"], [3], Ir.f__law_raised, false, false⟩
def g__law_right : FI := ⟨"_law_right", C8.fnArgs (top 36), C8.fnBody (top 36), C8.fnScope (top 36), ["dice"], ["dice", "hills", "ridges", "one", "other", "height", "due", "tower", "own", "wanted", "pairs", "best", "hill", "many", "bad", "odd", "told", "at"], [1], Ir.f__law_right, false, true⟩
def g_law : FI := ⟨"law", C8.fnArgs (top 37), C8.fnBody (top 37), C8.fnScope (top 37), ["script"], ["script", "spot"], [1], Ir.f_law, false, false⟩
def md : Md := { gis := [("MOST_HILLS", 9), ("MOST_PLACE", 1000), ("MOST_RIDGES", 20), ("MOST_TOWER", 2000)], bts := ["abs", "all", "any", "bool", "int", "isinstance", "len", "max", "min", "range", "set", "sorted", "tuple"], ref := "_law_refused", fis := ([g_is_integer, g_need_integer, g_is_hill, g_are_hills, g_is_ridge, g_are_ridges, g_need_land, g_turn, g_shares, g_along, g_is_hidden, g_hiding, g_net_of, g_raised, g_least_tower, g_best_tower, g__law_dice, g__law_roll, g__law_pick, g__law_hills, g__law_ridges, g__law_cross, g__law_low, g__law_hides, g__law_pairs, g__law_raised, g__law_right, g_law]) }
def rd : He.DefD := ⟨("_law_refused", none), "_law_refused", "_law_refused", C8.fnArgs (top 28), C8.fnBody (top 28), C8.fnScope (top 28), [], []⟩
def iv : InV := some ("__init__", ("BadArgument.__init__" : PySem.Str), C8.fnArgs initSt, FuncBody.stmts (C8.fnBody initSt), C8.fnScope initSt, mainGlobals, builtinsNs)
theorem ck : md.fis.all md.ckFn = true := by decide +kernel
theorem wf : md.wf = true := by decide +kernel
theorem refT : RefT rd := ⟨rfl, rfl, rfl, rfl, ⟨_, _, _, _, _, _, _, _, _, _, _, _, rfl⟩, by decide +kernel, by decide +kernel, by decide +kernel, by decide +kernel, fun fd us h1 h2 h3 => by
  obtain ⟨a, rfl⟩ := List.length_eq_one_iff.mp h3
  obtain ⟨n1, n2, n3, n4, n5, n6, n7, n8, n9, n10, n11, n12, n13, n14, n15⟩ := fd
  dsimp only at h1 h2
  subst h1 h2
  rfl⟩
theorem initT : InitT (C8.fnArgs initSt) (C8.fnBody initSt) (C8.fnScope initSt) := ⟨⟨_, _, _, _, _, _, _, _, _, _, _, _, _, _, plainOf (.Call (.Name "super" ⟨0, 0, 0, 0⟩) [] [] ⟨0, 0, 0, 0⟩), rfl, fun env => rfl, by decide +kernel⟩, ⟨_, rfl, rfl⟩, fun fd us h1 h2 h3 => by
  obtain ⟨a, b, rfl⟩ := len2 h3
  obtain ⟨n1, n2, n3, n4, n5, n6, n7, n8, n9, n10, n11, n12, n13, n14, n15⟩ := fd
  dsimp only at h1 h2
  subst h1 h2
  rfl, by decide +kernel, by decide +kernel, by decide +kernel, by decide +kernel, rfl, rfl, rfl, by decide +kernel⟩
theorem bd_is_integer_1 : BdT g_is_integer 1 := fun fd us ws h1 h2 h3 h4 => by
  have h4 : us.length + ws.length = 1 := h4
  have h5 : ws.length = 0 := by omega
  obtain ⟨x0, rfl⟩ := len1 h3
  have e_ws := len0 h5
  subst e_ws
  obtain ⟨n1, n2, n3, n4, n5, n6, n7, n8, n9, n10, n11, n12, n13, n14, n15⟩ := fd
  dsimp only at h1 h2
  subst h1 h2
  rfl
theorem bd_need_integer_4 : BdT g_need_integer 4 := fun fd us ws h1 h2 h3 h4 => by
  have h4 : us.length + ws.length = 4 := h4
  have h5 : ws.length = 0 := by omega
  obtain ⟨x0, x1, x2, x3, rfl⟩ := len4 h3
  have e_ws := len0 h5
  subst e_ws
  obtain ⟨n1, n2, n3, n4, n5, n6, n7, n8, n9, n10, n11, n12, n13, n14, n15⟩ := fd
  dsimp only at h1 h2
  subst h1 h2
  rfl
theorem bd_is_hill_1 : BdT g_is_hill 1 := fun fd us ws h1 h2 h3 h4 => by
  have h4 : us.length + ws.length = 1 := h4
  have h5 : ws.length = 0 := by omega
  obtain ⟨x0, rfl⟩ := len1 h3
  have e_ws := len0 h5
  subst e_ws
  obtain ⟨n1, n2, n3, n4, n5, n6, n7, n8, n9, n10, n11, n12, n13, n14, n15⟩ := fd
  dsimp only at h1 h2
  subst h1 h2
  rfl
theorem bd_are_hills_1 : BdT g_are_hills 1 := fun fd us ws h1 h2 h3 h4 => by
  have h4 : us.length + ws.length = 1 := h4
  have h5 : ws.length = 0 := by omega
  obtain ⟨x0, rfl⟩ := len1 h3
  have e_ws := len0 h5
  subst e_ws
  obtain ⟨n1, n2, n3, n4, n5, n6, n7, n8, n9, n10, n11, n12, n13, n14, n15⟩ := fd
  dsimp only at h1 h2
  subst h1 h2
  rfl
theorem bd_is_ridge_1 : BdT g_is_ridge 1 := fun fd us ws h1 h2 h3 h4 => by
  have h4 : us.length + ws.length = 1 := h4
  have h5 : ws.length = 0 := by omega
  obtain ⟨x0, rfl⟩ := len1 h3
  have e_ws := len0 h5
  subst e_ws
  obtain ⟨n1, n2, n3, n4, n5, n6, n7, n8, n9, n10, n11, n12, n13, n14, n15⟩ := fd
  dsimp only at h1 h2
  subst h1 h2
  rfl
theorem bd_are_ridges_1 : BdT g_are_ridges 1 := fun fd us ws h1 h2 h3 h4 => by
  have h4 : us.length + ws.length = 1 := h4
  have h5 : ws.length = 0 := by omega
  obtain ⟨x0, rfl⟩ := len1 h3
  have e_ws := len0 h5
  subst e_ws
  obtain ⟨n1, n2, n3, n4, n5, n6, n7, n8, n9, n10, n11, n12, n13, n14, n15⟩ := fd
  dsimp only at h1 h2
  subst h1 h2
  rfl
theorem bd_need_land_2 : BdT g_need_land 2 := fun fd us ws h1 h2 h3 h4 => by
  have h4 : us.length + ws.length = 2 := h4
  have h5 : ws.length = 0 := by omega
  obtain ⟨x0, x1, rfl⟩ := len2 h3
  have e_ws := len0 h5
  subst e_ws
  obtain ⟨n1, n2, n3, n4, n5, n6, n7, n8, n9, n10, n11, n12, n13, n14, n15⟩ := fd
  dsimp only at h1 h2
  subst h1 h2
  rfl
theorem bd_turn_3 : BdT g_turn 3 := fun fd us ws h1 h2 h3 h4 => by
  have h4 : us.length + ws.length = 3 := h4
  have h5 : ws.length = 0 := by omega
  obtain ⟨x0, x1, x2, rfl⟩ := len3 h3
  have e_ws := len0 h5
  subst e_ws
  obtain ⟨n1, n2, n3, n4, n5, n6, n7, n8, n9, n10, n11, n12, n13, n14, n15⟩ := fd
  dsimp only at h1 h2
  subst h1 h2
  rfl
theorem bd_shares_3 : BdT g_shares 3 := fun fd us ws h1 h2 h3 h4 => by
  have h4 : us.length + ws.length = 3 := h4
  have h5 : ws.length = 0 := by omega
  obtain ⟨x0, x1, x2, rfl⟩ := len3 h3
  have e_ws := len0 h5
  subst e_ws
  obtain ⟨n1, n2, n3, n4, n5, n6, n7, n8, n9, n10, n11, n12, n13, n14, n15⟩ := fd
  dsimp only at h1 h2
  subst h1 h2
  rfl
theorem bd_along_3 : BdT g_along 3 := fun fd us ws h1 h2 h3 h4 => by
  have h4 : us.length + ws.length = 3 := h4
  have h5 : ws.length = 0 := by omega
  obtain ⟨x0, x1, x2, rfl⟩ := len3 h3
  have e_ws := len0 h5
  subst e_ws
  obtain ⟨n1, n2, n3, n4, n5, n6, n7, n8, n9, n10, n11, n12, n13, n14, n15⟩ := fd
  dsimp only at h1 h2
  subst h1 h2
  rfl
theorem bd_is_hidden_3 : BdT g_is_hidden 3 := fun fd us ws h1 h2 h3 h4 => by
  have h4 : us.length + ws.length = 3 := h4
  have h5 : ws.length = 0 := by omega
  obtain ⟨x0, x1, x2, rfl⟩ := len3 h3
  have e_ws := len0 h5
  subst e_ws
  obtain ⟨n1, n2, n3, n4, n5, n6, n7, n8, n9, n10, n11, n12, n13, n14, n15⟩ := fd
  dsimp only at h1 h2
  subst h1 h2
  rfl
theorem bd_hiding_3 : BdT g_hiding 3 := fun fd us ws h1 h2 h3 h4 => by
  have h4 : us.length + ws.length = 4 := h4
  have h5 : ws.length = 1 := by omega
  obtain ⟨x0, x1, x2, rfl⟩ := len3 h3
  obtain ⟨y0, rfl⟩ := len1 h5
  obtain ⟨n1, n2, n3, n4, n5, n6, n7, n8, n9, n10, n11, n12, n13, n14, n15⟩ := fd
  dsimp only at h1 h2
  subst h1 h2
  rfl
theorem bd_hiding_4 : BdT g_hiding 4 := fun fd us ws h1 h2 h3 h4 => by
  have h4 : us.length + ws.length = 4 := h4
  have h5 : ws.length = 0 := by omega
  obtain ⟨x0, x1, x2, x3, rfl⟩ := len4 h3
  have e_ws := len0 h5
  subst e_ws
  obtain ⟨n1, n2, n3, n4, n5, n6, n7, n8, n9, n10, n11, n12, n13, n14, n15⟩ := fd
  dsimp only at h1 h2
  subst h1 h2
  rfl
theorem bd_net_of_1 : BdT g_net_of 1 := fun fd us ws h1 h2 h3 h4 => by
  have h4 : us.length + ws.length = 2 := h4
  have h5 : ws.length = 1 := by omega
  obtain ⟨x0, rfl⟩ := len1 h3
  obtain ⟨y0, rfl⟩ := len1 h5
  obtain ⟨n1, n2, n3, n4, n5, n6, n7, n8, n9, n10, n11, n12, n13, n14, n15⟩ := fd
  dsimp only at h1 h2
  subst h1 h2
  rfl
theorem bd_net_of_2 : BdT g_net_of 2 := fun fd us ws h1 h2 h3 h4 => by
  have h4 : us.length + ws.length = 2 := h4
  have h5 : ws.length = 0 := by omega
  obtain ⟨x0, x1, rfl⟩ := len2 h3
  have e_ws := len0 h5
  subst e_ws
  obtain ⟨n1, n2, n3, n4, n5, n6, n7, n8, n9, n10, n11, n12, n13, n14, n15⟩ := fd
  dsimp only at h1 h2
  subst h1 h2
  rfl
theorem bd_raised_3 : BdT g_raised 3 := fun fd us ws h1 h2 h3 h4 => by
  have h4 : us.length + ws.length = 3 := h4
  have h5 : ws.length = 0 := by omega
  obtain ⟨x0, x1, x2, rfl⟩ := len3 h3
  have e_ws := len0 h5
  subst e_ws
  obtain ⟨n1, n2, n3, n4, n5, n6, n7, n8, n9, n10, n11, n12, n13, n14, n15⟩ := fd
  dsimp only at h1 h2
  subst h1 h2
  rfl
theorem bd_least_tower_3 : BdT g_least_tower 3 := fun fd us ws h1 h2 h3 h4 => by
  have h4 : us.length + ws.length = 4 := h4
  have h5 : ws.length = 1 := by omega
  obtain ⟨x0, x1, x2, rfl⟩ := len3 h3
  obtain ⟨y0, rfl⟩ := len1 h5
  obtain ⟨n1, n2, n3, n4, n5, n6, n7, n8, n9, n10, n11, n12, n13, n14, n15⟩ := fd
  dsimp only at h1 h2
  subst h1 h2
  rfl
theorem bd_least_tower_4 : BdT g_least_tower 4 := fun fd us ws h1 h2 h3 h4 => by
  have h4 : us.length + ws.length = 4 := h4
  have h5 : ws.length = 0 := by omega
  obtain ⟨x0, x1, x2, x3, rfl⟩ := len4 h3
  have e_ws := len0 h5
  subst e_ws
  obtain ⟨n1, n2, n3, n4, n5, n6, n7, n8, n9, n10, n11, n12, n13, n14, n15⟩ := fd
  dsimp only at h1 h2
  subst h1 h2
  rfl
theorem bd_best_tower_2 : BdT g_best_tower 2 := fun fd us ws h1 h2 h3 h4 => by
  have h4 : us.length + ws.length = 3 := h4
  have h5 : ws.length = 1 := by omega
  obtain ⟨x0, x1, rfl⟩ := len2 h3
  obtain ⟨y0, rfl⟩ := len1 h5
  obtain ⟨n1, n2, n3, n4, n5, n6, n7, n8, n9, n10, n11, n12, n13, n14, n15⟩ := fd
  dsimp only at h1 h2
  subst h1 h2
  rfl
theorem bd_best_tower_3 : BdT g_best_tower 3 := fun fd us ws h1 h2 h3 h4 => by
  have h4 : us.length + ws.length = 3 := h4
  have h5 : ws.length = 0 := by omega
  obtain ⟨x0, x1, x2, rfl⟩ := len3 h3
  have e_ws := len0 h5
  subst e_ws
  obtain ⟨n1, n2, n3, n4, n5, n6, n7, n8, n9, n10, n11, n12, n13, n14, n15⟩ := fd
  dsimp only at h1 h2
  subst h1 h2
  rfl
theorem bd__law_dice_2 : BdT g__law_dice 2 := fun fd us ws h1 h2 h3 h4 => by
  have h4 : us.length + ws.length = 2 := h4
  have h5 : ws.length = 0 := by omega
  obtain ⟨x0, x1, rfl⟩ := len2 h3
  have e_ws := len0 h5
  subst e_ws
  obtain ⟨n1, n2, n3, n4, n5, n6, n7, n8, n9, n10, n11, n12, n13, n14, n15⟩ := fd
  dsimp only at h1 h2
  subst h1 h2
  rfl
theorem bd__law_roll_2 : BdT g__law_roll 2 := fun fd us ws h1 h2 h3 h4 => by
  have h4 : us.length + ws.length = 2 := h4
  have h5 : ws.length = 0 := by omega
  obtain ⟨x0, x1, rfl⟩ := len2 h3
  have e_ws := len0 h5
  subst e_ws
  obtain ⟨n1, n2, n3, n4, n5, n6, n7, n8, n9, n10, n11, n12, n13, n14, n15⟩ := fd
  dsimp only at h1 h2
  subst h1 h2
  rfl
theorem bd__law_pick_2 : BdT g__law_pick 2 := fun fd us ws h1 h2 h3 h4 => by
  have h4 : us.length + ws.length = 2 := h4
  have h5 : ws.length = 0 := by omega
  obtain ⟨x0, x1, rfl⟩ := len2 h3
  have e_ws := len0 h5
  subst e_ws
  obtain ⟨n1, n2, n3, n4, n5, n6, n7, n8, n9, n10, n11, n12, n13, n14, n15⟩ := fd
  dsimp only at h1 h2
  subst h1 h2
  rfl
theorem bd__law_hills_1 : BdT g__law_hills 1 := fun fd us ws h1 h2 h3 h4 => by
  have h4 : us.length + ws.length = 1 := h4
  have h5 : ws.length = 0 := by omega
  obtain ⟨x0, rfl⟩ := len1 h3
  have e_ws := len0 h5
  subst e_ws
  obtain ⟨n1, n2, n3, n4, n5, n6, n7, n8, n9, n10, n11, n12, n13, n14, n15⟩ := fd
  dsimp only at h1 h2
  subst h1 h2
  rfl
theorem bd__law_ridges_1 : BdT g__law_ridges 1 := fun fd us ws h1 h2 h3 h4 => by
  have h4 : us.length + ws.length = 1 := h4
  have h5 : ws.length = 0 := by omega
  obtain ⟨x0, rfl⟩ := len1 h3
  have e_ws := len0 h5
  subst e_ws
  obtain ⟨n1, n2, n3, n4, n5, n6, n7, n8, n9, n10, n11, n12, n13, n14, n15⟩ := fd
  dsimp only at h1 h2
  subst h1 h2
  rfl
theorem bd__law_cross_2 : BdT g__law_cross 2 := fun fd us ws h1 h2 h3 h4 => by
  have h4 : us.length + ws.length = 2 := h4
  have h5 : ws.length = 0 := by omega
  obtain ⟨x0, x1, rfl⟩ := len2 h3
  have e_ws := len0 h5
  subst e_ws
  obtain ⟨n1, n2, n3, n4, n5, n6, n7, n8, n9, n10, n11, n12, n13, n14, n15⟩ := fd
  dsimp only at h1 h2
  subst h1 h2
  rfl
theorem bd__law_low_5 : BdT g__law_low 5 := fun fd us ws h1 h2 h3 h4 => by
  have h4 : us.length + ws.length = 5 := h4
  have h5 : ws.length = 0 := by omega
  obtain ⟨x0, x1, x2, x3, x4, rfl⟩ := len5 h3
  have e_ws := len0 h5
  subst e_ws
  obtain ⟨n1, n2, n3, n4, n5, n6, n7, n8, n9, n10, n11, n12, n13, n14, n15⟩ := fd
  dsimp only at h1 h2
  subst h1 h2
  rfl
theorem bd__law_hides_3 : BdT g__law_hides 3 := fun fd us ws h1 h2 h3 h4 => by
  have h4 : us.length + ws.length = 3 := h4
  have h5 : ws.length = 0 := by omega
  obtain ⟨x0, x1, x2, rfl⟩ := len3 h3
  have e_ws := len0 h5
  subst e_ws
  obtain ⟨n1, n2, n3, n4, n5, n6, n7, n8, n9, n10, n11, n12, n13, n14, n15⟩ := fd
  dsimp only at h1 h2
  subst h1 h2
  rfl
theorem bd__law_pairs_2 : BdT g__law_pairs 2 := fun fd us ws h1 h2 h3 h4 => by
  have h4 : us.length + ws.length = 2 := h4
  have h5 : ws.length = 0 := by omega
  obtain ⟨x0, x1, rfl⟩ := len2 h3
  have e_ws := len0 h5
  subst e_ws
  obtain ⟨n1, n2, n3, n4, n5, n6, n7, n8, n9, n10, n11, n12, n13, n14, n15⟩ := fd
  dsimp only at h1 h2
  subst h1 h2
  rfl
theorem bd__law_raised_3 : BdT g__law_raised 3 := fun fd us ws h1 h2 h3 h4 => by
  have h4 : us.length + ws.length = 3 := h4
  have h5 : ws.length = 0 := by omega
  obtain ⟨x0, x1, x2, rfl⟩ := len3 h3
  have e_ws := len0 h5
  subst e_ws
  obtain ⟨n1, n2, n3, n4, n5, n6, n7, n8, n9, n10, n11, n12, n13, n14, n15⟩ := fd
  dsimp only at h1 h2
  subst h1 h2
  rfl
theorem bd__law_right_1 : BdT g__law_right 1 := fun fd us ws h1 h2 h3 h4 => by
  have h4 : us.length + ws.length = 1 := h4
  have h5 : ws.length = 0 := by omega
  obtain ⟨x0, rfl⟩ := len1 h3
  have e_ws := len0 h5
  subst e_ws
  obtain ⟨n1, n2, n3, n4, n5, n6, n7, n8, n9, n10, n11, n12, n13, n14, n15⟩ := fd
  dsimp only at h1 h2
  subst h1 h2
  rfl
theorem bd_law_1 : BdT g_law 1 := fun fd us ws h1 h2 h3 h4 => by
  have h4 : us.length + ws.length = 1 := h4
  have h5 : ws.length = 0 := by omega
  obtain ⟨x0, rfl⟩ := len1 h3
  have e_ws := len0 h5
  subst e_ws
  obtain ⟨n1, n2, n3, n4, n5, n6, n7, n8, n9, n10, n11, n12, n13, n14, n15⟩ := fd
  dsimp only at h1 h2
  subst h1 h2
  rfl
theorem bds : ∀ fi ∈ md.fis, ∀ k ∈ fi.ms, BdT fi k := by
  intro fi hfi k hk
  simp only [md, List.cons_append, List.nil_append, List.mem_cons, List.not_mem_nil, or_false] at hfi
  rcases hfi with rfl | rfl | rfl | rfl | rfl | rfl | rfl | rfl | rfl | rfl | rfl | rfl | rfl | rfl | rfl | rfl | rfl | rfl | rfl | rfl | rfl | rfl | rfl | rfl | rfl | rfl | rfl | rfl
  · simp only [g_is_integer, List.mem_cons, List.not_mem_nil, or_false] at hk
    rcases hk with rfl
    · exact bd_is_integer_1
  · simp only [g_need_integer, List.mem_cons, List.not_mem_nil, or_false] at hk
    rcases hk with rfl
    · exact bd_need_integer_4
  · simp only [g_is_hill, List.mem_cons, List.not_mem_nil, or_false] at hk
    rcases hk with rfl
    · exact bd_is_hill_1
  · simp only [g_are_hills, List.mem_cons, List.not_mem_nil, or_false] at hk
    rcases hk with rfl
    · exact bd_are_hills_1
  · simp only [g_is_ridge, List.mem_cons, List.not_mem_nil, or_false] at hk
    rcases hk with rfl
    · exact bd_is_ridge_1
  · simp only [g_are_ridges, List.mem_cons, List.not_mem_nil, or_false] at hk
    rcases hk with rfl
    · exact bd_are_ridges_1
  · simp only [g_need_land, List.mem_cons, List.not_mem_nil, or_false] at hk
    rcases hk with rfl
    · exact bd_need_land_2
  · simp only [g_turn, List.mem_cons, List.not_mem_nil, or_false] at hk
    rcases hk with rfl
    · exact bd_turn_3
  · simp only [g_shares, List.mem_cons, List.not_mem_nil, or_false] at hk
    rcases hk with rfl
    · exact bd_shares_3
  · simp only [g_along, List.mem_cons, List.not_mem_nil, or_false] at hk
    rcases hk with rfl
    · exact bd_along_3
  · simp only [g_is_hidden, List.mem_cons, List.not_mem_nil, or_false] at hk
    rcases hk with rfl
    · exact bd_is_hidden_3
  · simp only [g_hiding, List.mem_cons, List.not_mem_nil, or_false] at hk
    rcases hk with rfl | rfl
    · exact bd_hiding_3
    · exact bd_hiding_4
  · simp only [g_net_of, List.mem_cons, List.not_mem_nil, or_false] at hk
    rcases hk with rfl | rfl
    · exact bd_net_of_1
    · exact bd_net_of_2
  · simp only [g_raised, List.mem_cons, List.not_mem_nil, or_false] at hk
    rcases hk with rfl
    · exact bd_raised_3
  · simp only [g_least_tower, List.mem_cons, List.not_mem_nil, or_false] at hk
    rcases hk with rfl | rfl
    · exact bd_least_tower_3
    · exact bd_least_tower_4
  · simp only [g_best_tower, List.mem_cons, List.not_mem_nil, or_false] at hk
    rcases hk with rfl | rfl
    · exact bd_best_tower_2
    · exact bd_best_tower_3
  · simp only [g__law_dice, List.mem_cons, List.not_mem_nil, or_false] at hk
    rcases hk with rfl
    · exact bd__law_dice_2
  · simp only [g__law_roll, List.mem_cons, List.not_mem_nil, or_false] at hk
    rcases hk with rfl
    · exact bd__law_roll_2
  · simp only [g__law_pick, List.mem_cons, List.not_mem_nil, or_false] at hk
    rcases hk with rfl
    · exact bd__law_pick_2
  · simp only [g__law_hills, List.mem_cons, List.not_mem_nil, or_false] at hk
    rcases hk with rfl
    · exact bd__law_hills_1
  · simp only [g__law_ridges, List.mem_cons, List.not_mem_nil, or_false] at hk
    rcases hk with rfl
    · exact bd__law_ridges_1
  · simp only [g__law_cross, List.mem_cons, List.not_mem_nil, or_false] at hk
    rcases hk with rfl
    · exact bd__law_cross_2
  · simp only [g__law_low, List.mem_cons, List.not_mem_nil, or_false] at hk
    rcases hk with rfl
    · exact bd__law_low_5
  · simp only [g__law_hides, List.mem_cons, List.not_mem_nil, or_false] at hk
    rcases hk with rfl
    · exact bd__law_hides_3
  · simp only [g__law_pairs, List.mem_cons, List.not_mem_nil, or_false] at hk
    rcases hk with rfl
    · exact bd__law_pairs_2
  · simp only [g__law_raised, List.mem_cons, List.not_mem_nil, or_false] at hk
    rcases hk with rfl
    · exact bd__law_raised_3
  · simp only [g__law_right, List.mem_cons, List.not_mem_nil, or_false] at hk
    rcases hk with rfl
    · exact bd__law_right_1
  · simp only [g_law, List.mem_cons, List.not_mem_nil, or_false] at hk
    rcases hk with rfl
    · exact bd_law_1
def loose : List PySem.Str := (["is_integer", "need_integer", "is_hill", "are_hills", "is_ridge", "are_ridges", "need_land", "turn", "shares", "along", "is_hidden", "hiding", "net_of", "raised", "least_tower", "best_tower", "_law_dice", "_law_roll", "_law_pick", "_law_refused", "_law_hills", "_law_ridges", "_law_cross", "_law_low", "_law_hides", "_law_pairs", "_law_raised", "_law_right", "BadArgument", "MOST_HILLS"] : List PySem.Str) ++ (["MOST_PLACE", "MOST_RIDGES", "MOST_TOWER"] : List PySem.Str)
abbrev R : PySem.W.OpenRow := PySem.W.OpenLaw.row LW
def fa : List He.Fa := md.fa rd.name
def fn : List He.DefD := md.fis.map FI.dd ++ [rd]
abbrev hk : PySem.W.Hook := hookF fa fn md.tf LW.prog.main.file iv
def ob (s : PySem.W.SharedT) : AlF := obsF fa fn md.tf LW.prog.main.file (HandSHeadRun.getT s)
theorem ob_eq (s : PySem.W.SharedT) : ob s = hk.obs s.abs := obsF_eq (HandSHeadRun.getT_eq s)
theorem run (w : World) : HandSHeadRun.RunEq R (PySem.W.view R.prog [37]) hk ob 3000 loose w := by
  intro os
  kernel_rfl
theorem room : Room (4 * (24 + 1)) callerA := ⟨rfl, by decide, by decide⟩
theorem noX (w : World) (H : Hp) (s : Shared) (e : Value) (s' : Shared) : L2.CX LW.prog w [] H s (fun _ _ _ => False) e s' → False := fun ⟨_, _, _, _, _, _, _, _, _, _, _, _, z⟩ => z
end Lw
open PySem PySem.W PySem.Calls PyProof.Rows
theorem tblE : Lw.md.tbl = Ir.tbl := by kernel_rfl
theorem lawPlain (ns : List Int) (hl : ns.length ≤ 63) : ∃ bs, Fs.call Lw.md.tbl (24 + 1) 27 [.scr ns] = .ok (.dat (.bool true)) bs := by
  rw [tblE]
  exact Fs.law_ok (n := 18) ns hl
theorem PySem.Challenge.cw_firesseen_k09_whole_terrain_holds : PySem.Challenge.rw_firesseen_k09_whole_terrain.Holds := by
  w_on; o_law
  refine HandSHeadRun.head_any (r := OpenLaw.row Lw.LW) (q := view (OpenLaw.row Lw.LW).prog [37]) (H := Lw.hk) (ob := Lw.ob) (M := 3000) (loose := Lw.loose) (d := HandSHeadRun.topDef (OpenLaw.row Lw.LW).prog 37) (kwd := []) Lw.ob_eq
    (by kernel_rfl) (fun s => by kernel_rfl) Lw.run (by kernel_rfl) (by kernel_rfl) (by kernel_rfl) (by rfl) (by first | assumption | decide +kernel) (by decide +kernel) ⟨rfl, rfl, rfl, rfl, rfl, by decide +kernel⟩ ?hw ?hc
  case hw => w_witness2
  case hc =>
    refine LamX.walk_ofTsE (l := Lw.LW) (n := 63) (k := 4 * (24 + 1)) (x := "script") (CX := fun w => L2.CX Lw.LW.prog w) rfl (by decide +kernel) rfl Lw.room (fun w mg fa h hs hns hfa => ?_) Lw.noX
    obtain ⟨K, hK, c⟩ := hs
    exact ⟨K, hK, Fs.law_at (fil := Lw.g_law) c hK hns Lw.refT rfl Lw.initT (by decide +kernel) Lw.wf Lw.bds Lw.ck rfl rfl (by decide) hfa rfl fun ns hl _ => lawPlain ns hl⟩


