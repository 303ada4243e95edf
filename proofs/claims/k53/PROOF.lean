import PyProof.Rows.All
import Lean
import HandS.TupAny
import HandS.SetFor
import HandS.Deep
import HandS.IsInst
import HandS.SortInts
import HandS.Conv
import KE.DataFind
import HandS.ForMost
import HandS.Walk
import PyProof.ReprReads
import PyProof.Lay0
import PyProof.P3Statements
import PyProof.ReprRoads
import KE.DataEq
import KE.GoesEnum
import KE.GoesMore
import HandS.Zip
import HandS.HeadEnd
import HandS.Style
import HandS.HeadHook4
import KE.KStateDown
import HandS.More
import HandS.Words
import HandS.WordsExc
import HandS.Head0
import HandS.Head1
import HandS.Head2
import HandS.HeadHook1
import HandS.HeadHook2
import HandS.Star
import HandS.Zip0
import HandS.DictComp
import HandS.Iter
import HandS.Strs
import PySem.Challenge.RW_savelines_k53_vectors_of_states
set_option Elab.async false
set_option linter.all false
set_option maxRecDepth 100000
/-! ## Mi -/
section
/-! Mi: a small language of expressions and statements (the terms that a program prints from T.py), its values, its heap, its meaning as a function. -/
namespace Mi
open PySem

/-! data can be compared -/
mutual
def decD : (a b : PyData) → Decidable (a = b)
  | .none, b => by cases b <;> first | exact Decidable.isTrue rfl | exact Decidable.isFalse (fun h => nomatch h)
  | .bool x, b => match b with
    | .bool y => if h : x = y then Decidable.isTrue (by rw [h]) else Decidable.isFalse (fun e => h (PyData.bool.inj e))
    | .none | .int _ | .str _ | .list _ | .tuple _ | .dict _ => Decidable.isFalse (fun h => nomatch h)
  | .int x, b => match b with
    | .int y => if h : x = y then Decidable.isTrue (by rw [h]) else Decidable.isFalse (fun e => h (PyData.int.inj e))
    | .none | .bool _ | .str _ | .list _ | .tuple _ | .dict _ => Decidable.isFalse (fun h => nomatch h)
  | .str x, b => match b with
    | .str y => if h : x = y then Decidable.isTrue (by rw [h]) else Decidable.isFalse (fun e => h (PyData.str.inj e))
    | .none | .bool _ | .int _ | .list _ | .tuple _ | .dict _ => Decidable.isFalse (fun h => nomatch h)
  | .list x, b => match b with
    | .list y => match decDs x y with | Decidable.isTrue h => Decidable.isTrue (by rw [h]) | Decidable.isFalse h => Decidable.isFalse (fun e => h (PyData.list.inj e))
    | .none | .bool _ | .int _ | .str _ | .tuple _ | .dict _ => Decidable.isFalse (fun h => nomatch h)
  | .tuple x, b => match b with
    | .tuple y => match decDs x y with | Decidable.isTrue h => Decidable.isTrue (by rw [h]) | Decidable.isFalse h => Decidable.isFalse (fun e => h (PyData.tuple.inj e))
    | .none | .bool _ | .int _ | .str _ | .list _ | .dict _ => Decidable.isFalse (fun h => nomatch h)
  | .dict x, b => match b with
    | .dict y => match decKs x y with | Decidable.isTrue h => Decidable.isTrue (by rw [h]) | Decidable.isFalse h => Decidable.isFalse (fun e => h (PyData.dict.inj e))
    | .none | .bool _ | .int _ | .str _ | .list _ | .tuple _ => Decidable.isFalse (fun h => nomatch h)
def decDs : (a b : List PyData) → Decidable (a = b)
  | [], b => by cases b <;> first | exact Decidable.isTrue rfl | exact Decidable.isFalse (fun h => nomatch h)
  | x :: xs, b => match b with
    | [] => Decidable.isFalse (fun h => nomatch h)
    | y :: ys => match decD x y, decDs xs ys with
      | Decidable.isTrue h, Decidable.isTrue h' => Decidable.isTrue (by rw [h, h'])
      | Decidable.isFalse h, _ => Decidable.isFalse (fun e => h (List.cons.inj e).1)
      | _, Decidable.isFalse h => Decidable.isFalse (fun e => h (List.cons.inj e).2)
def decKs : (a b : List (PyData × PyData)) → Decidable (a = b)
  | [], b => by cases b <;> first | exact Decidable.isTrue rfl | exact Decidable.isFalse (fun h => nomatch h)
  | (k, x) :: xs, b => match b with
    | [] => Decidable.isFalse (fun h => nomatch h)
    | (j, y) :: ys => match decD k j, decD x y, decKs xs ys with
      | Decidable.isTrue h0, Decidable.isTrue h, Decidable.isTrue h' => Decidable.isTrue (by rw [h0, h, h'])
      | Decidable.isFalse h, _, _ => Decidable.isFalse (fun e => h (Prod.mk.inj (List.cons.inj e).1).1)
      | _, Decidable.isFalse h, _ => Decidable.isFalse (fun e => h (Prod.mk.inj (List.cons.inj e).1).2)
      | _, _, Decidable.isFalse h => Decidable.isFalse (fun e => h (List.cons.inj e).2)
end
instance : DecidableEq PyData := decD

inductive Val where
  | dat (d : PyData)
  | ref (n : Nat)
  | scr (ns : List Int)
deriving DecidableEq
inductive Ob where
  | lst (vs : List Val)
  | dct (kvs : List (PyData × Val))
  | dead
deriving DecidableEq
abbrev Hm := List Ob
abbrev Fr := List (Option Val)

abbrev vi (i : Int) : Val := .dat (.int i)
abbrev vb (b : Bool) : Val := .dat (.bool b)
abbrev vt (xs : List PyData) : Val := .dat (.tuple xs)
abbrev vl (xs : List PyData) : Val := .dat (.list xs)
abbrev vn : Val := .dat .none

inductive Op2 where | add | sub | mul | fdiv | mod | pow
inductive Cp where | eq | ne | lt | le | gt | ge | isin | notin
inductive Bi where | len | abs | tuple | min | max | sum | any | all | repr | int | isInt | isBool | isTuple | isStr | isList
inductive Mt where | append | pop | popAt | count | remove | get | get2 | index | extend

inductive Tg where
  | name (i : Nat)
  | tup (ts : List Tg)

mutual
inductive E where
  | int (i : Int) | str (x : Str) | bl (b : Bool) | non
  | var (i : Nat)
  | glo (x : Nat)
  | op (o : Op2) (a b : E)
  | neg (a : E)
  | cmp (c : Cp) (a b : E)
  | isN (a : E) | notN (a : E)
  | chain (c d : Cp) (a b e : E)
  | and (a b : E) | or (a b : E) | not (a : E)
  | ite (c a b : E)
  | tup (es : List E)
  | tupS (ks : List Bool) (es : List E)
  | sub (a i : E)
  | slc (a : E) (lo hi : Option E)
  | call (f : Nat) (es : List E)
  | bi (b : Bi) (es : List E)
  | met (m : Mt) (o : E) (es : List E)
  | fz (n : N)
  | nw (n : N)
  | dsub (d k : E)
  | dget (d k : E)
  | dget2 (d k x : E)
  | din (k d : E)
  | dnin (k d : E)
  | isT (b neg : Bool) (a : E)
  | idx (a b : E)
/-- what makes a new list or dict -/
inductive N where
  | lst (es : List E)
  | comp (elt : E) (t : Tg) (it : I) (cond : Option E) (own : List Nat)
  | list (e : E)
  | listR (a b : E)
  | sorted (e : E)
  | add (a b : E)
  | rep (a k : E)
  | slc (a : E) (lo hi : Option E)
  | dict0
  | comp2 (elt : E) (t : Tg) (it : I) (cond : Option E) (t1 : Tg) (it1 : I) (cond1 : Option E) (own own1 : List Nat)
  | dcomp (k v : E) (t : Tg) (it : I) (cond : Option E) (own : List Nat)
  | sortedD (e : E)
  | listD (e : E)
  | listR1 (a : E)
/-- what is walked -/
inductive I where
  | e (e : E)
  | range1 (a : E) | range2 (a b : E)
  | enum (e : E)
  | zip (a b : E)
  | items (e : E)
  | keys (e : E)
  | vals (e : E)
end
inductive S where
  | asg (t : Tg) (e : E)
  | pars (is : List Nat) (es : List E)
  | sset (o i e : E)
  | aug (i : Nat) (o : Op2) (e : E)
  | saug (o i : E) (p : Op2) (e : E)
  | dput (o k e : E)
  | expr (e : E)
  | ret (e : E)
  | ifs (c : E) (a b : List S)
  | whl (rg : Bool) (c : E) (b : List S)
  | loop (rg : Bool) (t : Tg) (it : I) (b : List S)
  | pass | brk | cont | never

/-! ### values -/
def Val.isNon : Val → Bool
  | .dat .none => true
  | _ => false
def mapO {α β : Type} (f : α → Option β) : List α → Option (List β)
  | [] => some []
  | x :: xs => (f x).bind fun y => (mapO f xs).map (y :: ·)

/-- the datum that a value shows, to a depth -/
def snap : Nat → Hm → Val → Option PyData
  | _, _, .dat d => some d
  | _, _, .scr _ => none
  | 0, _, .ref _ => none
  | k + 1, h, .ref a => match h[a]? with
    | some (.lst vs) => (mapO (snap k h) vs).map .list
    | _ => none
/-- one step: what stands at a reference, as items -/
def items : Hm → Val → Option (List Val)
  | _, .dat (.list ds) => some (ds.map .dat)
  | _, .dat (.tuple ds) => some (ds.map .dat)
  | h, .ref a => match h[a]? with
    | some (.lst vs) => some vs
    | _ => none
  | _, .scr ns => some (ns.map vi)
  | _, _ => none

def okD : Nat → PyData → Bool
  | 0, _ => false
  | _ + 1, .none => true
  | _ + 1, .bool _ => true
  | _ + 1, .int _ => true
  | _ + 1, .str x => PyData.canLay0 (.str x)
  | k + 1, .list xs => xs.all (okD k)
  | k + 1, .tuple xs => xs.all (okD k)
  | _ + 1, .dict _ => false

/-- a bound of the length of repr -/
def rsz : Nat → PyData → Nat
  | 0, _ => 2 ^ 25
  | _ + 1, .none => 4
  | _ + 1, .bool _ => 5
  | _ + 1, .int i => if i.natAbs < 10 ^ 60 then 62 else 2 ^ 25
  | _ + 1, .str x => (reprText x).length
  | k + 1, .list xs => (xs.map fun x => rsz k x + 2).sum + 3
  | k + 1, .tuple xs => (xs.map fun x => rsz k x + 2).sum + 3
  | _ + 1, .dict _ => 2 ^ 25

def op2 : Op2 → Val → Val → Option Val
  | .add, .dat (.int i), .dat (.int j) => some (vi (i + j))
  | .add, .dat (.tuple xs), .dat (.tuple ys) => if xs.length + ys.length ≤ sizeLine then some (vt (xs ++ ys)) else none
  | .add, .dat (.str x), .dat (.str y) => if x.length + y.length ≤ sizeLine then some (.dat (.str (x ++ y))) else none
  | .sub, .dat (.int i), .dat (.int j) => some (vi (i - j))
  | .mul, .dat (.int i), .dat (.int j) => if (-(2 ^ 64) < i ∧ i < 2 ^ 64) ∨ (-(2 ^ 64) < j ∧ j < 2 ^ 64) then some (vi (i * j)) else none
  | .fdiv, .dat (.int i), .dat (.int j) => if 0 < j ∧ j < 1073741824 then some (vi (i / j)) else none
  | .mod, .dat (.int i), .dat (.int j) => if 0 < j then some (vi (i % j)) else none
  | .pow, .dat (.int i), .dat (.int j) => if 0 ≤ j ∧ j ≤ 1000000 ∧ i.natAbs < 2 ^ 64 then some (vi (i ^ j.toNat)) else none
  | _, _, _ => none

def ixN (n : Nat) (i : Int) : Option Nat := if 0 ≤ i then (if i < n then some i.toNat else none) else if -(n : Int) ≤ i then some (i + n).toNat else none
def atI {α : Type} (xs : List α) (i : Int) : Option α := (ixN xs.length i).bind fun j => xs[j]?

def strsV : Val → Val → Option Bool
  | .dat (.str x), .dat (.str y) => some (x == y)
  | _, _ => none
def eqD0 (h : Hm) (a b : Val) : Option Bool := (snap 4 h a).bind fun x => (snap 4 h b).bind fun y => if okD 12 x && okD 12 y then some (PyData.eqv x y) else none
def eqD (h : Hm) (a b : Val) : Option Bool := match strsV a b with
  | some r => some r
  | none => eqD0 h a b
def ltI (f : Int → Int → Bool) : Val → Val → Option Bool
  | .dat (.int i), .dat (.int j) => some (f i j)
  | _, _ => none
def flat : PyData → Bool
  | .none => true | .bool _ => true | .int _ => true | .str _ => true | _ => false
/-- x in xs: xs a list of data, or a tuple of flat ones -/
def inD (h : Hm) (a b : Val) : Option Bool := match b with
  | .dat (.tuple ds) => (snap 4 h a).bind fun x => if flat x && ds.all flat then some (ds.any fun y => PyData.eqv y x) else none
  | b => (snap 4 h a).bind fun x => (snap 4 h b).bind fun y => match y with
    | .list ds => if okD 12 x && ds.all (okD 11) then some (ds.any fun y => PyData.eqv y x) else none
    | _ => none
def cmpV : Cp → Hm → Val → Val → Option Bool
  | .eq, h, a, b => eqD h a b
  | .ne, h, a, b => (eqD h a b).map (!·)
  | .lt, _, a, b => ltI (fun i j => decide (i < j)) a b
  | .le, _, a, b => ltI (fun i j => decide (i ≤ j)) a b
  | .gt, _, a, b => ltI (fun i j => decide (j < i)) a b
  | .ge, _, a, b => ltI (fun i j => decide (j ≤ i)) a b
  | .isin, h, a, b => inD h a b
  | .notin, h, a, b => (inD h a b).map (!·)

def subV (h : Hm) : Val → Val → Option Val
  | v, .dat (.int i) => (items h v).bind fun xs => atI xs i
  | _, _ => none
def sIx (n d : Nat) : Option Int → Nat
  | none => d
  | some v => if v < 0 then (v + n).toNat else min v.toNat n
def cutL {α : Type} (xs : List α) (lo hi : Option Int) : List α := (xs.drop (sIx xs.length 0 lo)).take (sIx xs.length xs.length hi - sIx xs.length 0 lo)

def intsV : List Val → Option (List Int) := mapO fun v => match v with | .dat (.int i) => some i | _ => none
def boolsV : List Val → Option (List Bool) := mapO fun v => match v with | .dat (.bool i) => some i | _ => none
def dats : List Val → Option (List PyData) := mapO fun v => match v with | .dat d => some d | _ => none
def isLst : Hm → Val → Bool
  | _, .dat (.list _) => true
  | h, .ref a => match h[a]? with | some (.lst _) => true | _ => false
  | _, .scr _ => true
  | _, _ => false

/-- a list's items (a list that may be joined to another) -/
def lsOf : Hm → Val → Option (List Val)
  | _, .dat (.list ds) => some (ds.map .dat)
  | h, .ref a => match h[a]? with
    | some (.lst vs) => some vs
    | _ => none
  | _, _ => none
def minL : List Int → Option Int
  | [] => none
  | x :: xs => some (xs.foldl min x)
def maxL : List Int → Option Int
  | [] => none
  | x :: xs => some (xs.foldl max x)

def dInt? : PyData → Bool
  | .int _ => true | .bool _ => true | _ => false
def dBool? : PyData → Bool
  | .bool _ => true | _ => false
def dTup? : PyData → Bool
  | .tuple _ => true | _ => false
def dStr? : PyData → Bool
  | .str _ => true | _ => false
def dLst? : PyData → Bool
  | .list _ => true | _ => false
def biV : Bi → Hm → List Val → Option Val
  | .len, h, [v] => (items h v).map fun xs => vi xs.length
  | .abs, _, [.dat (.int i)] => some (vi (if i < 0 then -i else i))
  | .tuple, h, [v] => (items h v).bind fun xs => (dats xs).map vt
  | .min, h, [v] => if isLst h v then (items h v).bind fun xs => (intsV xs).bind fun ns => (minL ns).map vi else none
  | .max, h, [v] => if isLst h v then (items h v).bind fun xs => (intsV xs).bind fun ns => (maxL ns).map vi else none
  | .min, _, [.dat (.int i), .dat (.int j)] => some (vi (if j < i then j else i))
  | .max, _, [.dat (.int i), .dat (.int j)] => some (vi (if j > i then j else i))
  | .sum, h, [v] => if isLst h v then (items h v).bind fun xs => (intsV xs).map fun ns => vi ns.sum else none
  | .any, h, [v] => if isLst h v then (items h v).bind fun xs => (boolsV xs).map fun ns => vb (ns.any id) else none
  | .all, h, [v] => if isLst h v then (items h v).bind fun xs => (boolsV xs).map fun ns => vb (ns.all id) else none
  | .repr, h, [v] => (snap 4 h v).bind fun d => if rsz 12 d ≤ 2 ^ 24 then some (.dat (.str d.shown)) else none
  | .int, _, [.dat (.int i)] => some (vi i)
  | .int, _, [.dat (.bool b)] => some (vi (if b then 1 else 0))
  | .isInt, _, [.dat d] => some (vb (dInt? d))
  | .isBool, _, [.dat d] => some (vb (dBool? d))
  | .isTuple, _, [.dat d] => some (vb (dTup? d))
  | .isStr, _, [.dat d] => some (vb (dStr? d))
  | .isList, _, [.dat d] => some (vb (dLst? d))
  | _, _, _ => none

/-- the place of the first item that is equal -/
def findD (x : PyData) (ds : List PyData) : Option Nat := ds.findIdx? fun y => PyData.eqv y x
def metV : Mt → Hm → Val → List Val → Option (Val × Hm)
  | .append, h, .ref a, [v] => match h[a]? with
    | some (.lst vs) => if vs.length < sizeLine then some (vn, h.set a (.lst (vs ++ [v]))) else none
    | _ => none
  | .pop, h, .ref a, [] => match h[a]? with
    | some (.lst vs) => (vs[vs.length - 1]?).map fun v => (v, h.set a (.lst vs.dropLast))
    | _ => none
  | .popAt, h, .ref a, [.dat (.int i)] => match h[a]? with
    | some (.lst vs) => (ixN vs.length i).bind fun k => (vs[k]?).map fun v => (v, h.set a (.lst (vs.eraseIdx k)))
    | _ => none
  | .count, h, v, [.dat (.int i)] => (items h v).bind fun xs => (intsV xs).map fun ns => (vi (ns.count i), h)
  | .remove, h, .ref a, [.dat d] => match h[a]? with
    | some (.lst vs) => (dats vs).bind fun ds => if okD 12 d && ds.all (okD 12) then (findD d ds).map fun k => (vn, h.set a (.lst (vs.eraseIdx k))) else none
    | _ => none
  | _, _, _, _ => none

/-- the receiver has the method -/
def mtOk : Mt → Hm → Val → Bool
  | .count, h, v => (items h v).isSome && (isLst h v || (match v with | .dat (.tuple _) => true | _ => false))
  | .get, _, v => match v with | .dat (.dict _) => true | _ => false
  | .get2, _, v => match v with | .dat (.dict _) => true | _ => false
  | _, h, v => (items h v).isSome && isLst h v

/-! ### frames -/
def tgSet : Tg → Val → Fr → Option Fr
  | .name i, v, σ => some (σ.set i (some v))
  | .tup ts, .dat (.tuple ds), σ => tgs ts ds σ
  | _, _, _ => none
where tgs : List Tg → List PyData → Fr → Option Fr
  | [], [], σ => some σ
  | t :: ts, d :: ds, σ => (tgSet t (.dat d) σ).bind fun σ' => tgs ts ds σ'
  | _, _, _ => none
/-- what a walk gives: a value, or a new pair that is taken apart at once -/
inductive Itm where
  | one (v : Val)
  | many (ds : List PyData)
/-- the list that is walked stands as it stood -/
abbrev Gd := Option (Nat × List Val)
def Gd.ok : Gd → Hm → Bool
  | none, _ => true
  | some (a, vs), h => decide (h[a]? = some (.lst vs))
def tgItm : Tg → Itm → Fr → Option Fr
  | t, .one v, σ => tgSet t v σ
  | .tup ts, .many ds, σ => tgSet.tgs ts ds σ
  | .name _, .many _, _ => none
def setAll : List Nat → List Val → Fr → Option Fr
  | [], [], σ => some σ
  | i :: is, v :: vs, σ => setAll is vs (σ.set i (some v))
  | _, _, _ => none
def wipeF (σ : Fr) : List Nat → Fr
  | [] => σ
  | v :: vs => (wipeF σ vs).set v none

def Val.below (n : Nat) : Val → Bool
  | .ref a => decide (a < n)
  | _ => true
def Ob.below (n : Nat) : Ob → Bool
  | .lst vs => vs.all (Val.below n)
  | .dct kvs => kvs.all fun kv => kv.2.below n
  | .dead => true
/-- the frame without what stands at n or above -/
def dropF (n : Nat) (σ : Fr) : Fr := σ.map fun o => o.bind fun v => if v.below n then some v else none
/-- the heap's first n objects, closed -/
def cutH (n : Nat) (h : Hm) : Option Hm := if (h.take n).all (Ob.below n) then some (h.take n) else none

inductive Fl where
  | next | brk | cont | ret (v : Val)

abbrev Res := Option ((Fl × Fr) × Hm)
/-- behind a turn: what it made is forgotten -/
def endTurn (rg : Bool) (n : Nat) (σ : Fr) (h : Hm) : Option (Fr × Hm) := if rg then (cutH n h).map fun h' => (dropF n σ, h') else some (σ, h)

def forD (g : Gd) (rg : Bool) (n : Nat) (f : Itm → Fr → Hm → Res) : List Itm → Fr → Hm → Res
  | [], σ, h => if g.ok h then some ((.next, σ), h) else none
  | x :: xs, σ, h => if g.ok h then (f x σ h).bind fun r => match r.1.1 with
    | .next => (endTurn rg n r.1.2 r.2).bind fun q => forD g rg n f xs q.1 q.2
    | .cont => (endTurn rg n r.1.2 r.2).bind fun q => forD g rg n f xs q.1 q.2
    | .brk => some ((.next, r.1.2), r.2)
    | .ret v => some ((.ret v, r.1.2), r.2) else none
def wfuel : Nat := 1000000
def whileD (rg : Bool) (n : Nat) (c : Fr → Hm → Option (Val × Hm)) (f : Fr → Hm → Res) : Nat → Fr → Hm → Res
  | 0, _, _ => none
  | k + 1, σ, h => (c σ h).bind fun p => match p.1 with
    | .dat (.bool true) => (f σ p.2).bind fun r => match r.1.1 with
      | .next => (endTurn rg n r.1.2 r.2).bind fun q => whileD rg n c f k q.1 q.2
      | .cont => (endTurn rg n r.1.2 r.2).bind fun q => whileD rg n c f k q.1 q.2
      | .brk => some ((.next, r.1.2), r.2)
      | .ret v => some ((.ret v, r.1.2), r.2)
    | .dat (.bool false) => some ((.next, σ), p.2)
    | _ => none
/-- a comprehension: f is one turn (none: the test failed) -/
def compD (g : Gd) (f : Itm → Hm → Option (Option Val × Hm)) : List Itm → List Val → Hm → Option (List Val × Hm)
  | [], acc, h => if g.ok h then some (acc, h) else none
  | x :: xs, acc, h => if g.ok h then (f x h).bind fun r => match r.1 with
    | some v => compD g f xs (acc ++ [v]) r.2
    | none => compD g f xs acc r.2 else none

def pairI (i : Nat) : List PyData → List Itm
  | [] => []
  | d :: ds => .many [.int i, d] :: pairI (i + 1) ds

/-- two walks, one within the other: f is one turn of the outer one -/
def comp2D (g : Gd) (f : Itm → List Val → Hm → Option (List Val × Hm)) : List Itm → List Val → Hm → Option (List Val × Hm)
  | [], acc, h => if g.ok h then some (acc, h) else none
  | x :: xs, acc, h => if g.ok h then (f x acc h).bind fun r => comp2D g f xs r.1 r.2 else none
/-! dicts: keys are ints or texts -/
def keyD : Val → Option PyData
  | .dat (.int i) => some (.int i)
  | .dat (.str x) => some (.str x)
  | _ => none
def dLook (kvs : List (PyData × Val)) (k : PyData) : Option Val := (kvs.find? fun kv => decide (kv.1 = k)).map (·.2)
def dPut (kvs : List (PyData × Val)) (k : PyData) (v : Val) : List (PyData × Val) :=
  if (kvs.any fun kv => decide (kv.1 = k)) = true then kvs.map (fun kv => if kv.1 = k then (kv.1, v) else kv) else kvs ++ [(k, v)]
/-- a dict's entries -/
def dItems : Hm → Val → Option (List (PyData × Val))
  | _, .dat (.dict kvs) => some (kvs.map fun kv => (kv.1, .dat kv.2))
  | h, .ref a => match h[a]? with
    | some (.dct kvs) => some kvs
    | _ => none
  | _, _ => none
def dSubV (h : Hm) (v w : Val) : Option Val := (dItems h v).bind fun kvs => (keyD w).bind fun k => dLook kvs k
def dGetV (h : Hm) (v w d : Val) : Option Val := (dItems h v).bind fun kvs => (keyD w).map fun k => (dLook kvs k).getD d
def dInV (h : Hm) (w v : Val) : Option Bool := (dItems h v).bind fun kvs => (keyD w).map fun k => (dLook kvs k).isSome
def isDct (h : Hm) (v : Val) : Bool := (dItems h v).isSome
def dcompD (g : Gd) (f : Itm → Hm → Option (Option (PyData × Val) × Hm)) : List Itm → List (PyData × Val) → Hm → Option (List (PyData × Val) × Hm)
  | [], acc, h => if g.ok h then some (acc, h) else none
  | x :: xs, acc, h => if g.ok h then (f x h).bind fun r => match r.1 with
    | some p => dcompD g f xs (dPut acc p.1 p.2) r.2
    | none => dcompD g f xs acc r.2 else none
def datsK : List (PyData × Val) → Option (List (PyData × PyData)) := mapO fun p => match p.2 with | .dat d => some (p.1, d) | _ => none
def keyInts : List (PyData × Val) → Option (List Int) := mapO fun p => match p.1 with | .int i => some i | _ => none

/-- t.index(i), t a tuple of ints -/
def idxV : Val → Val → Option Val
  | .dat (.tuple ds), .dat (.int i) => (intsV (ds.map .dat)).bind fun ns => (ns.findIdx? fun n => n == i).map fun k => vi (k : Nat)
  | _, _ => none
def isTup : Val → Bool
  | .dat (.tuple _) => true
  | _ => false

/-- what is called: a number (its place in the table), the arguments -/
abbrev Env := Nat → List Val → Hm → Option (Val × Hm)
abbrev Glo := Nat → Option PyData

section
variable (Γ : Env) (gl : Glo)
mutual
def denE : E → Fr → Hm → Option (Val × Hm)
  | .int i, _, h => some (vi i, h)
  | .str x, _, h => some (.dat (.str x), h)
  | .bl b, _, h => some (vb b, h)
  | .non, _, h => some (vn, h)
  | .var i, σ, h => (σ[i]?.bind id).map fun v => (v, h)
  | .glo x, _, h => (gl x).map fun d => (.dat d, h)
  | .op o a b, σ, h => (denE a σ h).bind fun p => (denE b σ p.2).bind fun q => (op2 o p.1 q.1).map fun v => (v, q.2)
  | .neg a, σ, h => (denE a σ h).bind fun p => match p.1 with | .dat (.int i) => some (vi (-i), p.2) | _ => none
  | .cmp c a b, σ, h => (denE a σ h).bind fun p => (denE b σ p.2).bind fun q => (cmpV c q.2 p.1 q.1).map fun v => (vb v, q.2)
  | .isN a, σ, h => (denE a σ h).map fun p => (vb p.1.isNon, p.2)
  | .notN a, σ, h => (denE a σ h).map fun p => (vb (!p.1.isNon), p.2)
  | .chain c d a b e, σ, h => (denE a σ h).bind fun p => (denE b σ p.2).bind fun q => (cmpV c q.2 p.1 q.1).bind fun k =>
      if k then (denE e σ q.2).bind fun r => (cmpV d r.2 q.1 r.1).map fun v => (vb v, r.2) else some (vb false, q.2)
  | .and a b, σ, h => (denE a σ h).bind fun p => match p.1 with | .dat (.bool true) => denE b σ p.2 | .dat (.bool false) => some (vb false, p.2) | _ => none
  | .or a b, σ, h => (denE a σ h).bind fun p => match p.1 with | .dat (.bool false) => denE b σ p.2 | .dat (.bool true) => some (vb true, p.2) | _ => none
  | .not a, σ, h => (denE a σ h).bind fun p => match p.1 with | .dat (.bool b) => some (vb (!b), p.2) | _ => none
  | .ite c a b, σ, h => (denE c σ h).bind fun p => match p.1 with | .dat (.bool true) => denE a σ p.2 | .dat (.bool false) => denE b σ p.2 | _ => none
  | .tup es, σ, h => (denEs es σ h).bind fun p => (dats p.1).bind fun ds => if ds.length ≤ sizeLine then some (vt ds, p.2) else none
  | .tupS ks es, σ, h => (denEsS ks es σ h).bind fun p => (dats p.1).bind fun ds => if ds.length ≤ sizeLine then some (vt ds, p.2) else none
  | .sub a i, σ, h => (denE a σ h).bind fun p => (denE i σ p.2).bind fun q => (subV q.2 p.1 q.1).map fun v => (v, q.2)
  | .slc a lo hi, σ, h => (denE a σ h).bind fun p => (denO lo σ p.2).bind fun q => (denO hi σ q.2).bind fun r => match p.1 with
      | .dat (.tuple ds) => some (vt (cutL ds q.1 r.1), r.2)
      | _ => none
  | .call f es, σ, h => (denEs es σ h).bind fun p => Γ f p.1 p.2
  | .bi b es, σ, h => (denEs es σ h).bind fun p => (biV b p.2 p.1).map fun v => (v, p.2)
  | .met m o es, σ, h => (denE o σ h).bind fun p => if mtOk m p.2 p.1 then (denEs es σ p.2).bind fun q => metV m q.2 p.1 q.1 else none
  | .fz n, σ, h => (denN n σ h).bind fun p => match p.1 with
      | .lst vs => (dats vs).map fun ds => (vl ds, p.2)
      | .dct kvs => (datsK kvs).map fun ks => (.dat (.dict ks), p.2)
      | _ => none
  | .nw n, σ, h => (denN n σ h).map fun p => (.ref p.2.length, p.2 ++ [p.1])
  | .dsub d k, σ, h => (denE d σ h).bind fun p => (denE k σ p.2).bind fun q => (dSubV q.2 p.1 q.1).map fun v => (v, q.2)
  | .dget d k, σ, h => (denE d σ h).bind fun p => if isDct p.2 p.1 then (denE k σ p.2).bind fun q => (dGetV q.2 p.1 q.1 vn).map fun v => (v, q.2) else none
  | .dget2 d k x, σ, h => (denE d σ h).bind fun p => if isDct p.2 p.1 then (denE k σ p.2).bind fun q => (denE x σ q.2).bind fun r => (dGetV r.2 p.1 q.1 r.1).map fun v => (v, r.2) else none
  | .din k d, σ, h => (denE k σ h).bind fun p => (denE d σ p.2).bind fun q => (dInV q.2 p.1 q.1).map fun b => (vb b, q.2)
  | .dnin k d, σ, h => (denE k σ h).bind fun p => (denE d σ p.2).bind fun q => (dInV q.2 p.1 q.1).map fun b => (vb (!b), q.2)
  | .idx a b, σ, h => (denE a σ h).bind fun p => if isTup p.1 then (denE b σ p.2).bind fun q => (idxV p.1 q.1).map fun v => (v, q.2) else none
  | .isT b neg a, σ, h => (denE a σ h).bind fun p => match p.1 with | .dat (.bool x) => some (vb (if neg then !decide (x = b) else decide (x = b)), p.2) | _ => none
def denEs : List E → Fr → Hm → Option (List Val × Hm)
  | [], _, h => some ([], h)
  | e :: es, σ, h => (denE e σ h).bind fun p => (denEs es σ p.2).map fun q => (p.1 :: q.1, q.2)
/-- with stars: true stands for a star -/
def denEsS : List Bool → List E → Fr → Hm → Option (List Val × Hm)
  | [], [], _, h => some ([], h)
  | false :: ks, e :: es, σ, h => (denE e σ h).bind fun p => (denEsS ks es σ p.2).map fun q => (p.1 :: q.1, q.2)
  | true :: ks, e :: es, σ, h => (denE e σ h).bind fun p => (items p.2 p.1).bind fun vs => (denEsS ks es σ p.2).map fun q => (vs ++ q.1, q.2)
  | _, _, _, _ => none
def denO : Option E → Fr → Hm → Option (Option Int × Hm)
  | none, _, h => some (none, h)
  | some e, σ, h => (denE e σ h).bind fun p => match p.1 with | .dat (.int i) => some (some i, p.2) | _ => none
def denC : Option E → Fr → Hm → Option (Bool × Hm)
  | none, _, h => some (true, h)
  | some e, σ, h => (denE e σ h).bind fun p => match p.1 with | .dat (.bool b) => some (b, p.2) | _ => none
def denN : N → Fr → Hm → Option (Ob × Hm)
  | .lst es, σ, h => (denEs es σ h).bind fun p => if p.1.length ≤ sizeLine then some (.lst p.1, p.2) else none
  | .comp elt t it cond own, σ, h => (denI it σ h).bind fun p =>
      (compD p.1.2 (fun x h => (tgItm t x (wipeF σ own)).bind fun σ' => (denC cond σ' h).bind fun q => if q.1 then (denE elt σ' q.2).map fun r => (some r.1, r.2) else some (none, q.2)) p.1.1 [] p.2).map fun q => (.lst q.1, q.2)
  | .list e, σ, h => (denE e σ h).bind fun p => (items p.2 p.1).map fun vs => (.lst vs, p.2)
  | .listR a b, σ, h => (denE a σ h).bind fun p => (denE b σ p.2).bind fun q => match p.1, q.1 with
      | .dat (.int i), .dat (.int j) => if -(2 ^ 62) ≤ i ∧ i < 2 ^ 62 ∧ j < 2 ^ 62 ∧ -(2 ^ 62) ≤ j ∧ (j - i).toNat ≤ sizeLine then some (.lst ((List.range (j - i).toNat).map fun (k : Nat) => vi (i + (k : Int))), q.2) else none
      | _, _ => none
  | .sorted e, σ, h => (denE e σ h).bind fun p => if isLst p.2 p.1 then (items p.2 p.1).bind fun vs => (intsV vs).map fun ns => (.lst ((ns.mergeSort (fun a b => decide (a ≤ b))).map vi), p.2) else none
  | .add a b, σ, h => (denE a σ h).bind fun p => (denE b σ p.2).bind fun q => (lsOf q.2 p.1).bind fun xs => (lsOf q.2 q.1).bind fun ys => if xs.length + ys.length ≤ sizeLine then some (.lst (xs ++ ys), q.2) else none
  | .rep a k, σ, h => (denE a σ h).bind fun p => (denE k σ p.2).bind fun q => match q.1 with
      | .dat (.int k) => (lsOf q.2 p.1).bind fun xs => if -(2 ^ 63) ≤ k ∧ k < 2 ^ 63 ∧ xs.length * k.toNat ≤ sizeLine then some (.lst (List.replicate k.toNat xs).flatten, q.2) else none
      | _ => none
  | .slc a lo hi, σ, h => (denE a σ h).bind fun p => (denO lo σ p.2).bind fun q => (denO hi σ q.2).bind fun r => if isLst r.2 p.1 then (items r.2 p.1).map fun xs => (.lst (cutL xs q.1 r.1), r.2) else none
  | .dict0, _, h => some (.dct [], h)
  | .comp2 elt t it cond t1 it1 cond1 own own1, σ, h => (denI it σ h).bind fun p =>
      (comp2D p.1.2 (fun x acc h => (tgItm t x (wipeF σ own)).bind fun σ1 => (denC cond σ1 h).bind fun q => if q.1 then (denI it1 σ1 q.2).bind fun p1 =>
        compD p1.1.2 (fun y h => (tgItm t1 y (wipeF σ1 own1)).bind fun σ2 => (denC cond1 σ2 h).bind fun q => if q.1 then (denE elt σ2 q.2).map fun r => (some r.1, r.2) else some (none, q.2)) p1.1.1 acc p1.2 else some (acc, q.2)) p.1.1 [] p.2).bind fun q => if q.1.length ≤ sizeLine then some (.lst q.1, q.2) else none
  | .dcomp k v t it cond own, σ, h => (denI it σ h).bind fun p =>
      (dcompD p.1.2 (fun x h => (tgItm t x (wipeF σ own)).bind fun σ' => (denC cond σ' h).bind fun q => if q.1 then (denE k σ' q.2).bind fun a => (keyD a.1).bind fun y => (denE v σ' a.2).map fun b => (some (y, b.1), b.2) else some (none, q.2)) p.1.1 [] p.2).map fun q => (.dct q.1, q.2)
  | .sortedD e, σ, h => (denE e σ h).bind fun p => (dItems p.2 p.1).bind fun kvs => (keyInts kvs).bind fun ks => if ks.length < 64 then some (.lst ((ks.mergeSort (fun a b => decide (a ≤ b))).map vi), p.2) else none
  | .listD e, σ, h => (denE e σ h).bind fun p => (dItems p.2 p.1).map fun kvs => (.lst (kvs.map fun kv => .dat kv.1), p.2)
  | .listR1 b, σ, h => (denE b σ h).bind fun q => match q.1 with
      | .dat (.int j) => if j < 2 ^ 62 ∧ -(2 ^ 62) ≤ j ∧ j.toNat ≤ sizeLine then some (.lst ((List.range j.toNat).map fun (k : Nat) => vi (k : Int)), q.2) else none
      | _ => none
def denI : I → Fr → Hm → Option ((List Itm × Gd) × Hm)
  | .e e, σ, h => (denE e σ h).bind fun p => match p.1 with
      | .dat (.list ds) => some ((ds.map fun d => .one (.dat d), none), p.2)
      | .dat (.tuple ds) => some ((ds.map fun d => .one (.dat d), none), p.2)
      | .scr ns => some ((ns.map fun i => .one (vi i), none), p.2)
      | .ref a => match p.2[a]? with
        | some (.lst vs) => some ((vs.map .one, some (a, vs)), p.2)
        | _ => none
      | _ => none
  | .range1 a, σ, h => (denE a σ h).bind fun p => match p.1 with
      | .dat (.int j) => if -(2 ^ 62) ≤ j ∧ j.toNat ≤ sizeLine then some (((List.range j.toNat).map fun (k : Nat) => .one (vi (k : Int)), none), p.2) else none
      | _ => none
  | .range2 a b, σ, h => (denE a σ h).bind fun p => (denE b σ p.2).bind fun q => match p.1, q.1 with
      | .dat (.int i), .dat (.int j) => if -(2 ^ 62) ≤ i ∧ i < 2 ^ 62 ∧ j < 2 ^ 62 ∧ -(2 ^ 62) ≤ j ∧ (j - i).toNat ≤ sizeLine then some (((List.range (j - i).toNat).map fun (k : Nat) => .one (vi (i + (k : Int))), none), q.2) else none
      | _, _ => none
  | .enum e, σ, h => (denE e σ h).bind fun p => match p.1 with
      | .dat (.list ds) => some ((pairI 0 ds, none), p.2)
      | .dat (.tuple ds) => some ((pairI 0 ds, none), p.2)
      | _ => none
  | .zip a b, σ, h => (denE a σ h).bind fun p => (denE b σ p.2).bind fun q => match p.1, q.1 with
      | .dat (.list xs), .dat (.list ys) => some ((List.zipWith (fun x y => .many [x, y]) xs ys, none), q.2)
      | .dat (.tuple xs), .dat (.tuple ys) => some ((List.zipWith (fun x y => .many [x, y]) xs ys, none), q.2)
      | .dat (.tuple xs), .dat (.list ys) => some ((List.zipWith (fun x y => .many [x, y]) xs ys, none), q.2)
      | _, _ => none
  | .items e, σ, h => (denE e σ h).bind fun p => match p.1 with
      | .dat (.dict kvs) => some ((kvs.map fun kv => .many [kv.1, kv.2], none), p.2)
      | _ => none
  | .keys e, σ, h => (denE e σ h).bind fun p => match p.1 with
      | .dat (.dict kvs) => some ((kvs.map fun kv => .one (.dat kv.1), none), p.2)
      | _ => none
  | .vals e, σ, h => (denE e σ h).bind fun p => match p.1 with
      | .dat (.dict kvs) => some ((kvs.map fun kv => .one (.dat kv.2), none), p.2)
      | _ => none
end

/-- x op= y, ints -/
def augV : Op2 → Val → Val → Option Val
  | .add, .dat (.int i), .dat (.int j) => some (vi (i + j))
  | .sub, .dat (.int i), .dat (.int j) => some (vi (i - j))
  | _, _, _ => none
def setSub (h : Hm) : Val → Val → Val → Option Hm
  | .ref a, .dat (.int i), v => match h[a]? with
    | some (.lst vs) => (ixN vs.length i).map fun k => h.set a (.lst (vs.set k v))
    | _ => none
  | _, _, _ => none

def setDct (h : Hm) : Val → Val → Val → Option Hm
  | .ref a, w, v => (keyD w).bind fun k => match h[a]? with
    | some (.dct kvs) => if kvs.length < sizeLine then some (h.set a (.dct (dPut kvs k v))) else none
    | _ => none
  | _, _, _ => none

mutual
def denS : S → Fr → Hm → Res
  | .asg t e, σ, h => (denE Γ gl e σ h).bind fun p => (tgSet t p.1 σ).map fun σ' => ((.next, σ'), p.2)
  | .pars is es, σ, h => (denEs Γ gl es σ h).bind fun p => (setAll is p.1 σ).map fun σ' => ((.next, σ'), p.2)
  | .sset o i e, σ, h => (denE Γ gl e σ h).bind fun p => (denE Γ gl o σ p.2).bind fun q => (denE Γ gl i σ q.2).bind fun r => (setSub r.2 q.1 r.1 p.1).map fun h' => ((.next, σ), h')
  | .aug i o e, σ, h => (σ[i]?.bind id).bind fun x => (denE Γ gl e σ h).bind fun p => (augV o x p.1).map fun v => ((.next, σ.set i (some v)), p.2)
  | .saug o i op e, σ, h => (denE Γ gl o σ h).bind fun p => (denE Γ gl i σ p.2).bind fun q => (subV q.2 p.1 q.1).bind fun x => (denE Γ gl e σ q.2).bind fun r => (augV op x r.1).bind fun v => (setSub r.2 p.1 q.1 v).map fun h' => ((.next, σ), h')
  | .dput o k e, σ, h => (denE Γ gl e σ h).bind fun p => (denE Γ gl o σ p.2).bind fun q => (denE Γ gl k σ q.2).bind fun r => (setDct r.2 q.1 r.1 p.1).map fun h' => ((.next, σ), h')
  | .expr e, σ, h => (denE Γ gl e σ h).map fun p => ((.next, σ), p.2)
  | .ret e, σ, h => (denE Γ gl e σ h).map fun p => ((.ret p.1, σ), p.2)
  | .ifs c a b, σ, h => (denE Γ gl c σ h).bind fun p => match p.1 with | .dat (.bool true) => denSs a σ p.2 | .dat (.bool false) => denSs b σ p.2 | _ => none
  | .whl rg c b, σ, h => whileD rg h.length (denE Γ gl c) (denSs b) wfuel σ h
  | .loop rg t it b, σ, h => (denI Γ gl it σ h).bind fun p => forD p.1.2 rg p.2.length (fun x σ h => (tgItm t x σ).bind fun σ' => denSs b σ' h) p.1.1 σ p.2
  | .pass, σ, h => some ((.next, σ), h)
  | .brk, σ, h => some ((.brk, σ), h)
  | .cont, σ, h => some ((.cont, σ), h)
  | .never, _, _ => none
def denSs : List S → Fr → Hm → Res
  | [], σ, h => some ((.next, σ), h)
  | s :: ss, σ, h => (denS s σ h).bind fun r => match r.1.1 with
    | .next => denSs ss r.1.2 r.2
    | _ => some r
end
end

/-! ### defs -/
inductive Md where
  | sub (n : Nat)
  | keep
  | give (n : Nat)
structure Df where
  np : Nat
  ns : Nat
  md : Md
  body : List S
/-- the datum of what stands at n or above; nothing below may be reached -/
def snapBelow (n : Nat) (h : Hm) (v : Val) : Option Val := match v with
  | .ref a => if a < n then some (.ref a) else (snap 4 (List.replicate n .dead ++ h.drop n) (.ref a)).map .dat
  | v => some v
/-- no list within -/
def noL : Nat → PyData → Bool
  | 0, _ => false
  | k + 1, .tuple xs => xs.all (noL k)
  | _ + 1, .list _ => false
  | _ + 1, .dict _ => false
  | _ + 1, _ => true
def Val.noL : Val → Bool
  | .dat d => Mi.noL 8 d
  | .ref _ => true
  | .scr _ => false
def Ob.noL : Ob → Bool
  | .lst vs => vs.all Val.noL
  | .dct _ => false
  | .dead => false
def resV : Fl → Option Val
  | .ret v => some v
  | .next => some vn
  | _ => none
def runDf (Γ : Env) (gl : Glo) (d : Df) (args : List Val) (h : Hm) : Option (Val × Hm) :=
  if args.length = d.np then
    match d.md with
    | .keep => (denSs Γ gl d.body (args.map some ++ List.replicate (d.ns - d.np) none) h).bind fun r => (resV r.1.1).map fun v => (v, r.2)
    | .sub n => if n ≤ h.length then (mapO (snapBelow n h) args).bind fun args' => (cutH n h).bind fun h0 => (denSs Γ gl d.body (args'.map some ++ List.replicate (d.ns - d.np) none) h0).bind fun r =>
        (resV r.1.1).bind fun v => (snapBelow n r.2 v).bind fun v' => (cutH n r.2).bind fun h' => if args.all (Val.below n) || (v'.noL && h'.all Ob.noL) then some (v', h' ++ h.drop n) else none
      else none
    | .give n => if n ≤ h.length ∧ args.all (Val.below n) = true then (cutH n h).bind fun h0 => (denSs Γ gl d.body (args.map some ++ List.replicate (d.ns - d.np) none) h0).bind fun r =>
        match resV r.1.1 with
        | some (.ref a) => match r.2[a]? with
          | some (.lst vs) => (dats vs).bind fun ds => (cutH n r.2).bind fun h' => if n ≤ a ∧ ds.all (Mi.noL 8) = true ∧ h'.all Ob.noL = true then some (.ref (h' ++ h.drop n).length, (h' ++ h.drop n) ++ [.lst vs]) else none
          | _ => none
        | _ => none
      else none
  else none
def callN (T : List Df) (gl : Glo) : Nat → Env
  | 0 => fun _ _ _ => none
  | k + 1 => fun f args h => (T[f]?).bind fun d => runDf (callN T gl k) gl d args h
end Mi
end
/-! ## MiR -/
section
/-! MiR: how values and heaps of Mi stand in the abstract heap of the hand layer. -/
namespace Mi
open PySem PySem.Spec PyProof.Rows L2

def Sub (G H : Hp) : Prop := ∀ a u, G a = some u → H a = some u
theorem Sub.rfl {G : Hp} : Sub G G := fun _ _ h => h
theorem Sub.trans {G H I : Hp} (a : Sub G H) (b : Sub H I) : Sub G I := fun c u h => b c u (a c u h)
theorem Sub.fresh {G H : Hp} {p : Addr} (s : Sub G H) (n : H p = none) : G p = none := by
  cases e : G p with
  | none => rfl
  | some u => rw [s p u e] at n; cases n
theorem Sub.new {G : Hp} {p : Addr} {o : HO} (n : G p = none) : Sub G (upd G p o) := fun a u h => by
  rw [upd_ne (ne_of_none h n)]; exact h
theorem Sub.both {G H : Hp} {p : Addr} {o : HO} (s : Sub G H) : Sub (upd G p o) (upd H p o) := fun a u h => by
  by_cases e : a = p
  · subst e; rw [upd_same] at h ⊢; exact h
  · rw [upd_ne e] at h ⊢; exact s a u h
theorem rdSub {G H : Hp} {a : Addr} {u : HO} (s : Sub G H) (r : Rd G a u) : Rd H a u := by
  rcases r with r | ⟨o, r⟩
  · exact .inl (s _ _ r)
  · exact .inr ⟨o, s _ _ r⟩

def kyD : Key → PyData
  | .inl i => .int i
  | .inr x => .str x

mutual
def RelD (G : Hp) : PyData → V → Prop
  | .none, x => x = .non
  | .bool b, x => x = .bl b
  | .int i, x => x = .int i
  | .str s, x => x = .str s
  | .list ds, x => ∃ a vs, x = .ref a ∧ G a = some (.lst vs) ∧ vs.length ≤ sizeLine ∧ RelDs G ds vs
  | .tuple ds, x => ∃ a o vs, x = .ref a ∧ G a = some (.frz o (.tup vs)) ∧ o.dict = none ∧ vs.length ≤ sizeLine ∧ RelDs G ds vs
  | .dict ds, x => ∃ a o kvs, x = .ref a ∧ G a = some (.frz o (.dK kvs)) ∧ kvs.length ≤ sizeLine ∧ RelKs G ds kvs
def RelDs (G : Hp) : List PyData → List V → Prop
  | [], vs => vs = []
  | d :: ds, vs => ∃ v r, vs = v :: r ∧ RelD G d v ∧ RelDs G ds r
def RelKs (G : Hp) : List (PyData × PyData) → List (Key × V) → Prop
  | [], vs => vs = []
  | (k, d) :: ds, vs => ∃ j v r, vs = (j, v) :: r ∧ k = kyD j ∧ RelD G d v ∧ RelKs G ds r
end
/-- what the relation of data leans on -/
structure Keeps (G G' : Hp) : Prop where
  l : ∀ a vs, G a = some (.lst vs) → G' a = some (.lst vs)
  t : ∀ a o vs, G a = some (.frz o (.tup vs)) → G' a = some (.frz o (.tup vs))
  d : ∀ a o kvs, G a = some (.frz o (.dK kvs)) → G' a = some (.frz o (.dK kvs))
theorem Sub.keeps {G G' : Hp} (s : Sub G G') : Keeps G G' := ⟨fun _ _ h => s _ _ h, fun _ _ _ h => s _ _ h, fun _ _ _ h => s _ _ h⟩
mutual
theorem RelD.keep {G G' : Hp} (s : Keeps G G') : ∀ {d : PyData} {x : V}, RelD G d x → RelD G' d x
  | .none, _, h => h
  | .bool _, _, h => h
  | .int _, _, h => h
  | .str _, _, h => h
  | .list ds, x, h => by
    unfold RelD at h ⊢
    obtain ⟨a, vs, e, g, z, r⟩ := h
    exact ⟨a, vs, e, s.l _ _ g, z, RelDs.keep s r⟩
  | .tuple ds, x, h => by
    unfold RelD at h ⊢
    obtain ⟨a, o, vs, e, g, d, z, r⟩ := h
    exact ⟨a, o, vs, e, s.t _ _ _ g, d, z, RelDs.keep s r⟩
  | .dict ds, x, h => by
    unfold RelD at h ⊢
    obtain ⟨a, o, vs, e, g, z, r⟩ := h
    exact ⟨a, o, vs, e, s.d _ _ _ g, z, RelKs.keep s r⟩
theorem RelDs.keep {G G' : Hp} (s : Keeps G G') : ∀ {ds : List PyData} {xs : List V}, RelDs G ds xs → RelDs G' ds xs
  | [], _, h => h
  | d :: ds, xs, h => by
    unfold RelDs at h ⊢
    obtain ⟨v, r, e, g, q⟩ := h
    exact ⟨v, r, e, RelD.keep s g, RelDs.keep s q⟩
theorem RelKs.keep {G G' : Hp} (s : Keeps G G') : ∀ {ds : List (PyData × PyData)} {xs : List (Key × V)}, RelKs G ds xs → RelKs G' ds xs
  | [], _, h => h
  | (k, d) :: ds, xs, h => by
    unfold RelKs at h ⊢
    obtain ⟨j, v, r, e, ek, g, q⟩ := h
    exact ⟨j, v, r, e, ek, RelD.keep s g, RelKs.keep s q⟩
end
theorem RelDs.pair {G : Hp} : ∀ {ds : List PyData} {xs : List V}, RelDs G ds xs ↔ Paired (RelD G) ds xs
  | [], xs => by
    unfold RelDs
    constructor
    · rintro rfl; exact .nil
    · intro h; cases h; rfl
  | d :: ds, xs => by
    unfold RelDs
    constructor
    · rintro ⟨v, r, rfl, g, q⟩; exact .cons g (RelDs.pair.mp q)
    · intro h; cases h with | cons g q => exact ⟨_, _, rfl, g, RelDs.pair.mpr q⟩

section
variable (K : PySem.W.Frag)
def RelW (G : Hp) (ρ : List Addr) : Val → V → Prop
  | .dat d, x => RelD G d x
  | .ref n, x => ∃ p, ρ[n]? = some p ∧ x = .ref p
  | .scr ns, x => ∃ a, x = .ref a ∧ SqL K G a (ns.map V.int) ∧ ns.length ≤ sizeLine
def RelO (G : Hp) (ρ : List Addr) : Ob → HO → Prop
  | .lst vs, o => ∃ xs, o = .lst xs ∧ xs.length ≤ sizeLine ∧ Paired (RelW K G ρ) vs xs
  | .dct kvs, o => ∃ ks, o = .dK ks ∧ ks.length ≤ sizeLine ∧ Paired (fun (p : PyData × Val) (q : Key × V) => p.1 = kyD q.1 ∧ RelW K G ρ p.2 q.2) kvs ks
  | .dead, _ => False
/-- P: what stands and is none of Mi's; G: what is frozen; ρ: where Mi's objects stand -/
structure RelH (P G : Hp) (ρ : List Addr) (h : Hm) (H : Hp) : Prop where
  kp : Sub P H
  apart : ∀ a u, P a = some u → G a = none ∧ a ∉ ρ
  sub : Sub G H
  len : ρ.length = h.length
  nd : ρ.Nodup
  off : ∀ p ∈ ρ, G p = none
  obj : ∀ (i : Nat) ob, h[i]? = some ob → ∃ p o, ρ[i]? = some p ∧ H p = some o ∧ RelO K G ρ ob o
def RelFo (G : Hp) (ρ : List Addr) : Option Val → Option V → Prop
  | none, _ => True
  | some v, x => ∃ y, x = some y ∧ RelW K G ρ v y
abbrev RelF (G : Hp) (ρ : List Addr) : Fr → L2.St → Prop := Paired (RelFo K G ρ)
end
abbrev Pre (ρ ρ' : List Addr) : Prop := ρ <+: ρ'
theorem Pre.get {ρ ρ' : List Addr} (p : Pre ρ ρ') {n : Nat} {a : Addr} (h : ρ[n]? = some a) : ρ'[n]? = some a := by
  obtain ⟨t, rfl⟩ := p
  rw [List.getElem?_append_left (List.getElem?_eq_some_iff.mp h).1]; exact h

section
variable {K : PySem.W.Frag} {P G G' H H' : Hp} {ρ ρ' : List Addr} {h h' : Hm}
theorem sqSub {a : Addr} {xs : List V} (s : Sub G G') (q : SqL K G a xs) : SqL K G' a xs := by
  rcases q with q | q
  · exact .inl (rdSub s q)
  · exact .inr q
theorem RelW.mono (s : Sub G G') (p : Pre ρ ρ') : ∀ {v : Val} {x : V}, RelW K G ρ v x → RelW K G' ρ' v x
  | .dat d, _, h => RelD.keep s.keeps h
  | .ref n, _, ⟨a, e, r⟩ => ⟨a, p.get e, r⟩
  | .scr ns, _, ⟨a, e, q, z⟩ => ⟨a, e, sqSub s q, z⟩
theorem RelWs.mono (s : Sub G G') (p : Pre ρ ρ') {vs : List Val} {xs : List V} (h : Paired (RelW K G ρ) vs xs) : Paired (RelW K G' ρ') vs xs := L2.Paired.mapP h fun _ _ q => q.mono s p
theorem RelO.mono (s : Sub G G') (p : Pre ρ ρ') : ∀ {ob : Ob} {o : HO}, RelO K G ρ ob o → RelO K G' ρ' ob o
  | .lst vs, o, h => by
    obtain ⟨xs, e, z, q⟩ := h
    exact ⟨xs, e, z, RelWs.mono s p q⟩
  | .dct kvs, o, h => by
    obtain ⟨ks, e, z, q⟩ := h
    exact ⟨ks, e, z, L2.Paired.mapP q fun _ _ z => ⟨z.1, z.2.mono s p⟩⟩
  | .dead, _, h => h
theorem RelFo.mono (s : Sub G G') (p : Pre ρ ρ') : ∀ {v : Option Val} {x : Option V}, RelFo K G ρ v x → RelFo K G' ρ' v x
  | none, _, _ => trivial
  | some v, _, ⟨y, e, q⟩ => ⟨y, e, q.mono s p⟩
theorem RelF.mono (s : Sub G G') (p : Pre ρ ρ') {σ : Fr} {τ : L2.St} (h : RelF K G ρ σ τ) : RelF K G' ρ' σ τ := L2.Paired.mapP h fun _ _ q => q.mono s p
theorem Paired.getL {α β : Type} {F : α → β → Prop} : ∀ {l : List α} {m : List β} {i : Nat} {a : α}, Paired F l m → l[i]? = some a → ∃ b, m[i]? = some b ∧ F a b
  | _, _, _, _, .nil, h => by simp at h
  | _, _, 0, _, .cons r _, h => by simp at h; subst h; exact ⟨_, rfl, r⟩
  | _, _, i + 1, a, .cons _ t, h => by
    obtain ⟨b, e, r⟩ := Paired.getL (i := i) t (by simpa using h)
    exact ⟨b, by simpa using e, r⟩
theorem Paired.setP {α β : Type} {F : α → β → Prop} {a : α} {b : β} (r : F a b) : ∀ {l : List α} {m : List β} (i : Nat), Paired F l m → Paired F (l.set i a) (m.set i b)
  | _, _, _, .nil => .nil
  | _, _, 0, .cons _ t => .cons r t
  | _, _, i + 1, .cons q t => .cons q (Paired.setP r i t)
theorem Paired.app {α β : Type} {F : α → β → Prop} : ∀ {l l' : List α} {m m' : List β}, Paired F l m → Paired F l' m' → Paired F (l ++ l') (m ++ m')
  | _, _, _, _, .nil, s => s
  | _, _, _, _, .cons r t, s => .cons r (Paired.app t s)
theorem Paired.takeP {α β : Type} {F : α → β → Prop} : ∀ {l : List α} {m : List β} (n : Nat), Paired F l m → Paired F (l.take n) (m.take n)
  | _, _, 0, _ => .nil
  | _, _, _ + 1, .nil => .nil
  | _, _, n + 1, .cons r t => .cons r (Paired.takeP n t)
theorem Paired.dropP {α β : Type} {F : α → β → Prop} : ∀ {l : List α} {m : List β} (n : Nat), Paired F l m → Paired F (l.drop n) (m.drop n)
  | _, _, 0, r => r
  | _, _, _ + 1, .nil => .nil
  | _, _, n + 1, .cons _ t => Paired.dropP n t
theorem Paired.erase {α β : Type} {F : α → β → Prop} : ∀ {l : List α} {m : List β} (i : Nat), Paired F l m → Paired F (l.eraseIdx i) (m.eraseIdx i)
  | _, _, _, .nil => .nil
  | _, _, 0, .cons _ t => t
  | _, _, i + 1, .cons q t => .cons q (Paired.erase i t)
theorem Paired.mapL {α β γ : Type} {F : γ → β → Prop} {f : α → γ} : ∀ {l : List α} {m : List β}, Paired (fun a b => F (f a) b) l m ↔ Paired F (l.map f) m
  | [], m => by
    constructor
    · intro h; cases h; exact .nil
    · intro h; cases h; exact .nil
  | a :: l, m => by
    constructor
    · intro h; cases h with | cons r t => exact .cons r (Paired.mapL.mp t)
    · intro h; cases h with | cons r t => exact .cons r (Paired.mapL.mpr t)
theorem Paired.len {α β : Type} {F : α → β → Prop} {l : List α} {m : List β} (h : Paired F l m) : l.length = m.length := Paired.length h
theorem Paired.rep {α β : Type} {F : α → β → Prop} {l : List α} {m : List β} (h : Paired F l m) : ∀ k : Nat, Paired F (List.replicate k l).flatten (List.replicate k m).flatten
  | 0 => .nil
  | k + 1 => by
    rw [List.replicate_succ, List.replicate_succ, List.flatten_cons, List.flatten_cons]
    exact Paired.app h (Paired.rep h k)

theorem RelH.frozen (r : RelH K P G ρ h H) {p : Addr} {o : HO} (n : H p = none) : RelH K P (upd G p o) ρ h (upd H p o) := by
  have np : ∀ q ∈ ρ, q ≠ p := fun q hq e => by
    obtain ⟨i, hi⟩ := List.getElem?_of_mem hq
    have hl : i < h.length := by rw [← r.len]; exact (List.getElem?_eq_some_iff.mp hi).1
    obtain ⟨p', o', e1, e2, _⟩ := r.obj i _ (List.getElem?_eq_getElem hl)
    rw [hi] at e1; cases e1
    rw [e, n] at e2; cases e2
  refine ⟨fun b u e => by rw [upd_ne (ne_of_none (r.kp b u e) n)]; exact r.kp b u e, fun b u e => ⟨by rw [upd_ne (ne_of_none (r.kp b u e) n)]; exact (r.apart b u e).1, (r.apart b u e).2⟩, r.sub.both, r.len, r.nd, fun q hq => ?_, fun i ob e => ?_⟩
  · rw [upd_ne (np q hq)]; exact r.off q hq
  · obtain ⟨p', o', e1, e2, q⟩ := r.obj i ob e
    exact ⟨p', o', e1, by rw [upd_ne (ne_of_none e2 n)]; exact e2, q.mono (Sub.new (r.sub.fresh n)) (List.prefix_refl _)⟩
theorem RelH.notin (r : RelH K P G ρ h H) {p : Addr} (n : H p = none) : p ∉ ρ := fun hq => by
  obtain ⟨i, hi⟩ := List.getElem?_of_mem hq
  have hl : i < h.length := by rw [← r.len]; exact (List.getElem?_eq_some_iff.mp hi).1
  obtain ⟨p', o', e1, e2, _⟩ := r.obj i _ (List.getElem?_eq_getElem hl)
  rw [hi] at e1; cases e1
  rw [n] at e2; cases e2
theorem RelH.made (r : RelH K P G ρ h H) {p : Addr} {o : HO} {ob : Ob} (n : H p = none) (q : RelO K G ρ ob o) : RelH K P G (ρ ++ [p]) (h ++ [ob]) (upd H p o) := by
  have np := r.notin n
  have hp : Pre ρ (ρ ++ [p]) := List.prefix_append _ _
  refine ⟨fun b u e => by rw [upd_ne (ne_of_none (r.kp b u e) n)]; exact r.kp b u e, fun b u e => ⟨(r.apart b u e).1, fun hm => ?_⟩, fun a u e => ?_, by simp [r.len], ?_, fun x hx => ?_, fun i x e => ?_⟩
  · rcases List.mem_append.mp hm with z | z
    · exact (r.apart b u e).2 z
    · rw [List.mem_singleton.mp z] at e; have := r.kp p u e; rw [n] at this; cases this
  · rw [upd_ne (ne_of_none (r.sub a u e) n)]; exact r.sub a u e
  · rw [List.nodup_append]
    exact ⟨r.nd, by simp, fun a ha b hb => by rw [List.mem_singleton.mp hb]; rintro rfl; exact np ha⟩
  · rcases List.mem_append.mp hx with z | z
    · exact r.off x z
    · rw [List.mem_singleton.mp z]; exact r.sub.fresh n
  · by_cases hi : i < h.length
    · rw [List.getElem?_append_left hi] at e
      obtain ⟨p', o', e1, e2, q'⟩ := r.obj i x e
      exact ⟨p', o', hp.get e1, by rw [upd_ne (ne_of_none e2 n)]; exact e2, q'.mono Sub.rfl hp⟩
    · have hi' : i = h.length := by
        have := (List.getElem?_eq_some_iff.mp e).1
        simp at this; omega
      subst hi'
      rw [List.getElem?_append_right (Nat.le_refl _)] at e
      simp at e; subst e
      refine ⟨p, o, ?_, upd_same, q.mono Sub.rfl hp⟩
      rw [← r.len, List.getElem?_append_right (Nat.le_refl _)]; simp
theorem RelH.wrote (r : RelH K P G ρ h H) {a : Nat} {p : Addr} {o : HO} {ob : Ob} (e : ρ[a]? = some p) (q : RelO K G ρ ob o) : RelH K P G ρ (h.set a ob) (upd H p o) := by
  have hp : p ∈ ρ := List.mem_of_getElem? e
  refine ⟨fun b u z => by rw [upd_ne (show b ≠ p from fun e' => (r.apart b u z).2 (by rw [e']; exact hp))]; exact r.kp b u z, r.apart, fun b u z => ?_, by simp [r.len], r.nd, r.off, fun i x z => ?_⟩
  · have : b ≠ p := by rintro rfl; rw [r.off b hp] at z; cases z
    rw [upd_ne this]; exact r.sub b u z
  · by_cases hi : i = a
    · subst hi
      have hl : i < h.length := by rw [← r.len]; exact (List.getElem?_eq_some_iff.mp e).1
      rw [List.getElem?_set_self hl] at z; cases z
      exact ⟨p, o, e, upd_same, q⟩
    · rw [List.getElem?_set_ne (Ne.symm hi)] at z
      obtain ⟨p', o', e1, e2, q'⟩ := r.obj i x z
      refine ⟨p', o', e1, ?_, q'⟩
      have : p' ≠ p := by
        rintro rfl
        exact hi ((List.getElem_inj r.nd).mp ((List.getElem?_eq_some_iff.mp e1).2.trans (List.getElem?_eq_some_iff.mp e).2.symm))
      rw [upd_ne this]; exact e2
theorem RelH.lst (r : RelH K P G ρ h H) {a : Nat} {vs : List Val} (e : h[a]? = some (.lst vs)) : ∃ p xs, ρ[a]? = some p ∧ H p = some (.lst xs) ∧ xs.length ≤ sizeLine ∧ Paired (RelW K G ρ) vs xs := by
  obtain ⟨p, o, e1, e2, xs, rfl, z, q⟩ := r.obj a _ e
  exact ⟨p, xs, e1, e2, z, q⟩
end

/-! ### readings -/
section
variable (K : PySem.W.Frag)
/-- what a computation of Mi wants behind it -/
def Run (P : Hp) {α β : Type} (R : Hp → List Addr → α → β → Prop) (m : Option (α × Hm)) (G : Hp) (ρ : List Addr) (Q : β → Hp → Prop) : Prop :=
  ∃ v h', m = some (v, h') ∧ ∀ G' ρ' H' x, Sub G G' → Pre ρ ρ' → RelH K P G' ρ' h' H' → R G' ρ' v x → Q x H'
abbrev RunV (P : Hp) := Run K P (RelW K)
def tD (d : Fr → Hm → Option (Val × Hm)) : TE := fun τ H Q => ∃ P G ρ σ h, RelH K P G ρ h H ∧ RelF K G ρ σ τ ∧ RunV K P (d σ h) G ρ Q
/-- a test -/
def RunB (P : Hp) (m : Option (Val × Hm)) (G : Hp) (ρ : List Addr) (Q : Bool → Hp → Prop) : Prop :=
  ∃ b h', m = some (vb b, h') ∧ ∀ G' ρ' H', Sub G G' → Pre ρ ρ' → RelH K P G' ρ' h' H' → Q b H'
def tDT (d : Fr → Hm → Option (Val × Hm)) : TT := fun τ H Q => ∃ P G ρ σ h, RelH K P G ρ h H ∧ RelF K G ρ σ τ ∧ RunB K P (d σ h) G ρ Q
abbrev RelWs (G : Hp) (ρ : List Addr) : List Val → List V → Prop := Paired (RelW K G ρ)
def tDA (d : Fr → Hm → Option (List Val × Hm)) : TA := fun τ H Q => ∃ P G ρ σ h, RelH K P G ρ h H ∧ RelF K G ρ σ τ ∧ Run K P (RelWs K) (d σ h) G ρ Q
end
theorem PE.imp {X : Cx} {e : Expr} {t t' : TE} (p : PE X e t) (h : ∀ σ H Q, t' σ H Q → t σ H Q) : PE X e t' := ⟨fun pins s σ H Q I w => p.run pins s σ H Q I (h _ _ _ w)⟩
theorem PT.imp {X : Cx} {e : Expr} {t t' : TT} (p : PT X e t) (h : ∀ σ H Q, t' σ H Q → t σ H Q) : PT X e t' := ⟨fun pins s σ H Q I w => p.run pins s σ H Q I (h _ _ _ w)⟩
theorem PW.imp {X : Cx} {e : Expr} {t t' : TT} (p : PW X e t) (h : ∀ σ H Q, t' σ H Q → t σ H Q) : PW X e t' := ⟨fun wh pins s σ H Q I w => p.run wh pins s σ H Q I (h _ _ _ w)⟩
theorem PA.imp {X : Cx} {es : List Expr} {t t' : TA} (p : PA X es t) (h : ∀ σ H Q, t' σ H Q → t σ H Q) : PA X es t' := ⟨fun pos pins s σ H Q I w => p.run pos pins s σ H Q I (h _ _ _ w)⟩
theorem PS.imp {X : Cx} {e : Stmt} {t t' : TS} (p : PS X e t) (h : ∀ D σ H, t' D σ H → t D σ H) : PS X e t' := ⟨fun pins s σ H D I w => p.run pins s σ H D I (h _ _ _ w)⟩
theorem PSs.imp {X : Cx} {e : List Stmt} {t t' : TS} (p : PSs X e t) (h : ∀ D σ H, t' D σ H → t D σ H) : PSs X e t' := ⟨fun pins s σ H D I w => p.run pins s σ H D I (h _ _ _ w)⟩
theorem PE.or {X : Cx} {e : Expr} {t t' : TE} (p : PE X e t) (p' : PE X e t') : PE X e (fun σ H Q => t σ H Q ∨ t' σ H Q) := ⟨fun pins s σ H Q I w => w.elim (p.run pins s σ H Q I) (p'.run pins s σ H Q I)⟩
theorem PS.or {X : Cx} {e : Stmt} {t t' : TS} (p : PS X e t) (p' : PS X e t') : PS X e (fun D σ H => t D σ H ∨ t' D σ H) := ⟨fun pins s σ H Q I w => w.elim (p.run pins s σ H Q I) (p'.run pins s σ H Q I)⟩
theorem OpR.or {X : Cx} {f : Value → Value → Sem Value} {r r' : R2} (p : OpR X f r) (p' : OpR X f r') : OpR X f (fun x y H Q => r x y H Q ∨ r' x y H Q) :=
  fun pins s σ H x y v u Q I rx ry w => w.elim (p pins s σ H x y v u Q I rx ry) (p' pins s σ H x y v u Q I rx ry)

section
variable {K : PySem.W.Frag} {P G H : Hp} {ρ : List Addr} {h : Hm} {σ : Fr} {τ : L2.St}
/-- the state where one stands -/
structure At (K : PySem.W.Frag) (P G : Hp) (ρ : List Addr) (σ : Fr) (h : Hm) (τ : L2.St) (H : Hp) : Prop where
  hp : RelH K P G ρ h H
  fr : RelF K G ρ σ τ
theorem At.next (a : At K P G ρ σ h τ H) {G' H' : Hp} {ρ' : List Addr} {h' : Hm} (s : Sub G G') (p : Pre ρ ρ') (r : RelH K P G' ρ' h' H') : At K P G' ρ' σ h' τ H' := ⟨r, a.fr.mono s p⟩
theorem Run.more {α β : Type} {R : Hp → List Addr → α → β → Prop} {m : Option (α × Hm)} {Q : β → Hp → Prop} {G' : Hp} {ρ' : List Addr} (s : Sub G G') (p : Pre ρ ρ') (r : Run K P R m G ρ Q) : Run K P R m G' ρ' Q := by
  obtain ⟨v, h', e, q⟩ := r
  exact ⟨v, h', e, fun G2 ρ2 H2 x s2 p2 => q G2 ρ2 H2 x (s.trans s2) (p.trans p2)⟩
/-- the first of two steps -/
theorem Run.split {α β γ δ : Type} {R : Hp → List Addr → α → β → Prop} {R' : Hp → List Addr → γ → δ → Prop} {m : Option (γ × Hm)} {f : γ × Hm → Option (α × Hm)} {Q : β → Hp → Prop} (a : At K P G ρ σ h τ H) (r : Run K P R (m.bind f) G ρ Q) :
    Run K P R' m G ρ (fun x H1 => ∃ v h1 G1 ρ1, At K P G1 ρ1 σ h1 τ H1 ∧ Sub G G1 ∧ Pre ρ ρ1 ∧ R' G1 ρ1 v x ∧ m = some (v, h1) ∧ Run K P R (f (v, h1)) G1 ρ1 Q) := by
  obtain ⟨v, h', e, q⟩ := r
  cases hm : m with
  | none => rw [hm] at e; cases e
  | some p =>
    obtain ⟨w, h1⟩ := p
    rw [hm] at e
    exact ⟨w, h1, rfl, fun G1 ρ1 H1 x s p r rx => ⟨w, h1, G1, ρ1, a.next s p r, s, p, rx, rfl, v, h', e, fun G2 ρ2 H2 y s2 p2 => q G2 ρ2 H2 y (s.trans s2) (p.trans p2)⟩⟩
theorem Run.mono {α β : Type} {R : Hp → List Addr → α → β → Prop} {m : Option (α × Hm)} {Q Q' : β → Hp → Prop} (r : Run K P R m G ρ Q) (q : ∀ x H', Q x H' → Q' x H') : Run K P R m G ρ Q' := by
  obtain ⟨v, h', e, z⟩ := r
  exact ⟨v, h', e, fun G' ρ' H' x s p rh rx => q _ _ (z G' ρ' H' x s p rh rx)⟩
/-- nothing but a value is handed on -/
theorem Run.now {α β : Type} {R : Hp → List Addr → α → β → Prop} {v : α} {x : β} {Q : β → Hp → Prop} (a : At K P G ρ σ h τ H) (r : Run K P R (some (v, h)) G ρ Q) (rx : R G ρ v x) : Q x H := by
  obtain ⟨w, h', e, q⟩ := r
  cases e
  exact q G ρ H x Sub.rfl (List.prefix_refl _) a.hp rx
theorem Run.then {α β : Type} {R : Hp → List Addr → α → β → Prop} {v : α} {x : β} {Q : β → Hp → Prop} {h' : Hm} {G' H' : Hp} {ρ' : List Addr} (r : Run K P R (some (v, h')) G ρ Q) (s : Sub G G') (p : Pre ρ ρ') (rh : RelH K P G' ρ' h' H') (rx : R G' ρ' v x) : Q x H' := by
  obtain ⟨w, h', e, q⟩ := r
  cases e
  exact q G' ρ' H' x s p rh rx
theorem Run.not {α β : Type} {R : Hp → List Addr → α → β → Prop} {Q : β → Hp → Prop} (r : Run K P R (none : Option (α × Hm)) G ρ Q) {P : Prop} : P := by
  obtain ⟨_, _, e, _⟩ := r
  cases e
theorem Run.of_map {α β γ : Type} {R : Hp → List Addr → α → β → Prop} {m : Option γ} {f : γ → α × Hm} {Q : β → Hp → Prop} (r : Run K P R (m.map f) G ρ Q) : ∃ x, m = some x ∧ Run K P R (some (f x)) G ρ Q := by
  cases m with
  | none => exact r.not
  | some x => exact ⟨x, rfl, r⟩
theorem Run.of_bind {α β γ : Type} {R : Hp → List Addr → α → β → Prop} {m : Option γ} {f : γ → Option (α × Hm)} {Q : β → Hp → Prop} (r : Run K P R (m.bind f) G ρ Q) : ∃ x, m = some x ∧ Run K P R (f x) G ρ Q := by
  cases m with
  | none => exact r.not
  | some x => exact ⟨x, rfl, r⟩
end
end Mi
end
/-! ## MiC -/
section
/-! MiC: tuples that are made new, known to the object (so that their methods can be called). -/
namespace Mi
open PySem PySem.Spec PyProof.Rows L2
abbrev tupObj (us : List Value) : Obj := { cls := .type "tuple", data := .seq us.toArray }
/-- a new tuple for what is wanted -/
abbrev NewT (H : Hp) (xs : List V) (Q : VK) : Prop := ∀ (p : Addr) (o : Obj), H p = none → o.dict = none → Q (.ref p) (upd H p (.frz o (.tup xs)))
section
variable {X : Cx} {pins : List (Addr × Obj)} {τ : L2.St} {H : Hp} {s : Shared}
theorem newTup {xs : List V} {us : List Value} {t' : Nat} (I : Inv X pins τ H s) (r : Vals xs us) (z : xs.length ≤ sizeLine) :
    Inv X pins τ (upd H s.heap.objs.size (.frz (tupObj us) (.tup xs))) { s with heap := s.heap.push (tupObj us), toks := t' } :=
  I.laid (fun _ _ e => Heap.get?_push_of_some _ e) (Nat.le_refl _) ⟨Heap.get?_push_size _ rfl, z, us, r, IsTup.new _ _⟩
theorem doneTup {xs : List V} {us : List Value} {Q : VK} (I : Inv X pins τ H s) (r : Vals xs us) (z : xs.length ≤ sizeLine) (q : NewT H xs Q) :
    EP X pins τ Q (.ref s.heap.objs.size) { s with heap := s.heap.push (tupObj us) } :=
  ⟨.ref s.heap.objs.size, _, newTup (t' := s.toks) I r z, rfl, q _ _ (I.hok.fresh (Nat.le_refl _)) rfl⟩

def tTupF (t : TA) : TE := fun τ H Q => t τ H fun xs H1 => xs.length ≤ sizeLine ∧ NewT H1 xs Q
theorem peTup {es : List Expr} {k : Nat} {pos : Pos} {t : TA} (h : PA X es t) : PE X (.Tuple es k pos) (tTupF t) := by
  constructor
  intro pins s τ H Q I w
  apply wpAny_Tuple_spliced
  refine thn (h.run pos pins s τ H _ I w) ?_
  rintro us s1 ⟨xs, H1, I1, r, z, q⟩
  exact ⟨by rw [← r.length]; exact z, doneTup I1 r z q⟩
/-- tuple(x) -/
def rTup (K : PySem.W.Frag) : List V → Hp → VK → Prop := fun xs H Q => ∃ p ys, xs = [.ref p] ∧ ((SqL K H p ys ∧ NewT H ys Q) ∨ (SqT K H p ys ∧ Q (.ref p) H))
theorem cTup : CallR X (.type "tuple") (rTup X.K) := by
  intro pins s τ H xs us Q I r w
  obtain ⟨p, ys, rfl, w⟩ := w
  rcases w with ⟨hq, q⟩ | ⟨hq, q⟩
  · cases r with
    | cons r0 r1 =>
      cases r1
      cases r0
      obtain ⟨its, rv, pl, hz⟩ := I.list hq
      have hl := rv.length
      refine call_tuple_list pl.isList (fun h' kp => ?_) (by rw [List.size_toArray]; omega)
      exact doneTup (I.kept (t' := s.toks) kp) rv hz q
  · exact call_tupleT pins s τ H _ us Q I r ⟨p, ys, rfl, hq, q⟩
/-- t + u -/
def rCatF (K : PySem.W.Frag) : R2 := fun x y H Q => ∃ a b xs ys, x = .ref a ∧ y = .ref b ∧ SqT K H a xs ∧ SqT K H b ys ∧ xs.length + ys.length ≤ sizeLine ∧
  (xs = [] → Q (.ref b) H) ∧ (xs ≠ [] → ys = [] → Q (.ref a) H) ∧ (xs ≠ [] → ys ≠ [] → NewT H (xs ++ ys) Q)
theorem oCat : OpR X (binaryOp .Add) (rCatF X.K) := by
  intro pins s τ H x y v u Q I rx ry w
  obtain ⟨a, b, xs, ys, rfl, rfl, ha, hb, hz, q0, q1, q2⟩ := w
  cases rx; cases ry
  obtain ⟨i1, r1, p1, _⟩ := I.tuple ha
  obtain ⟨i2, r2, p2, _⟩ := I.tuple hb
  by_cases hx : xs = []
  · subst hx; cases r1
    exact cat_tup0 p1 p2 ⟨.ref b, H, I, rfl, q0 rfl⟩
  · have h1 : i1 ≠ [] := fun e => hx (r1.nil_iff.mp e)
    refine HT.cat_tup p1 p2 h1 (fun e => ⟨.ref a, H, I, rfl, q1 hx (r2.nil_iff.mp e)⟩) (fun e => ?_) (by rw [← r1.length, ← r2.length]; exact hz)
    exact doneTup I (r1.append r2) (by rw [List.length_append]; exact hz) (q2 hx fun z => e (r2.nil_iff.mpr z))
/-- t[a:b] -/
def rSlF (K : PySem.W.Frag) : V → Option Int → Option Int → Hp → VK → Prop := fun x lo hi H Q => ∃ a xs, x = .ref a ∧ SqT K H a xs ∧
  (HT.sIx xs.length 0 lo = 0 ∧ HT.sIx xs.length xs.length hi = xs.length → Q (.ref a) H) ∧ (¬ (HT.sIx xs.length 0 lo = 0 ∧ HT.sIx xs.length xs.length hi = xs.length) → NewT H (cutV xs lo hi) Q)
theorem slF : SlR X (rSlF X.K) := by
  intro pins s τ H x v vl vu lo hi sl Q I rx hs pl pu w
  obtain ⟨a, xs, rfl, hx, q1, q2⟩ := w
  cases rx
  obtain ⟨its, r, ht, hz⟩ := I.tuple hx
  have hn : its.toArray.size = xs.length := by rw [List.size_toArray]; exact r.length.symm
  refine ⟨"tuple", _, PyProof.Rows.slot_tuple_getitem.lookup, ht.typeIs, ?_⟩
  by_cases hw : HT.sIx xs.length 0 lo = 0 ∧ HT.sIx xs.length xs.length hi = xs.length
  · exact getItem_tuple_whole ht hs pl pu (by rw [hn]; exact hw) ⟨.ref a, H, I, rfl, q1 hw⟩
  · refine HT.getItem_tuple_cut ht hs pl pu (by rw [hn]; exact hw) ?_ (by rw [hn]; exact hz)
    have hc : Vals (cutV xs lo hi) ((its.toArray.toList.drop (HT.sIx its.toArray.size 0 lo)).take (HT.sIx its.toArray.size its.toArray.size hi - HT.sIx its.toArray.size 0 lo)) := by
      rw [hn]
      exact (r.drop _).take _
    exact doneTup I hc (Nat.le_trans (cutV_length _ _ _) hz) (q2 hw)

/-! ### the call of a method, the type told by a predicate of one's own -/
def TyR (X : Cx) (T : String) (ty : V → Hp → Prop) : Prop := ∀ (pins : List (Addr × Obj)) (τ : L2.St) (H : Hp) (s : Shared) (x : V) (v : Value), Inv X pins τ H s → RelV x v → ty x H → s.TypeIs v T ∧ ∀ a, v = .ref a → ∃ ob, s.heap.get? a = some ob ∧ ob.dict = none
def tyTup (x : V) (H : Hp) : Prop := ∃ a o xs, x = .ref a ∧ H a = some (.frz o (.tup xs)) ∧ o.dict = none
theorem ty_tup : TyR X "tuple" tyTup := by
  intro pins τ H s x v I r ⟨a, o, xs, ex, e, d⟩
  subst ex; cases r
  obtain ⟨h1, _, its, _, o', h2, hc, n, hd⟩ := I.hok a _ e
  rw [h1] at h2; cases h2
  exact ⟨⟨o, h1, hc⟩, fun b z => by cases z; exact ⟨o, h1, d⟩⟩
theorem ty_lst : TyR X "list" (fun x H => ∃ a xs, x = .ref a ∧ SqL X.K H a xs) := by
  intro pins τ H s x v I r ⟨a, xs, ex, q⟩
  subst ex
  exact tyV_is I r (.inl ⟨rfl, xs, q⟩)
theorem ty_dct : TyR X "dict" (fun x H => ∃ a, x = .ref a ∧ IsD H a) := by
  intro pins τ H s x v I r ⟨a, ex, q⟩
  subst ex; cases r
  obtain ⟨o, e, c⟩ : ∃ o, s.heap.get? a = some o ∧ o.ExactDict := by
    rcases q with ⟨kvs, q⟩ | ⟨kvs, q⟩
    · obtain ⟨_, _, _, _, o, _, _, e, c, _⟩ := dk_rd I.hok q
      exact ⟨o, e, c⟩
    · obtain ⟨_, _, _, _, o, _, _, e, c, _⟩ := q.ok I.hok
      exact ⟨o, e, c⟩
  exact ⟨⟨o, e, c.1⟩, fun b z => by cases z; exact ⟨o, e, c.2.1⟩⟩
variable {o e : Expr} {es : List Expr} {to : TE} {t : TA} {name : Str} {apos cpos : Pos} {T id : String} {r : V → List V → Hp → VK → Prop} {ty : V → Hp → Prop}
def tMt (ty : V → Hp → Prop) (r : V → List V → Hp → VK → Prop) (to : TE) (t : TA) : TE := fun τ H Q => to τ H fun x H1 => ty x H1 ∧ t τ H1 fun xs H2 => r x xs H2 Q
theorem peMt (pa : PlainAttrs T) (slot : Slot T name id) (hty : typeOf (.builtin id) = pure (.type "method_descriptor")) (hT : TyR X T ty) (hm : MtR X id r) (ho : PE X o to) (ha : PA X (e :: es) t)
    (hbase : attributeBase o name X.env (eval o X.env) = eval o X.env) (hst : ∀ env, (starEach (e :: es) env).all (fun x => !x.1) = true) (hs : starEach (e :: es) X.env = (false, eval e X.env) :: starEach es X.env) (hln : (e :: es).length < 30) (hline : (apos.endLine == cpos.line) = true) :
    PE X (.Call (.Attribute o name apos) (e :: es) [] cpos) (tMt ty r to t) := by
  constructor
  intro pins s τ H Q I w
  have hall : ∀ env, (backTo cpos (starEach (e :: es) env)).all (fun x => !x.1) = true := fun env => by
    have h1 := hst env
    unfold backTo
    rw [List.all_eq_true] at h1 ⊢
    intro x hx
    obtain ⟨y, hy, rfl⟩ := List.mem_map.mp hx
    exact h1 y hy
  have hany : (backTo cpos (starEach (e :: es) X.env)).any (·.1) = false := by
    have h1 := hall X.env
    rw [List.all_eq_true] at h1
    rw [List.any_eq_false]
    intro x hx
    have := h1 x hx
    simpa using this
  refine wpAny_Call_method_late hbase (Bool.and_eq_true_iff.mpr ⟨Bool.and_eq_true_iff.mpr ⟨hall X.env, rfl⟩, decide_eq_true hln⟩) hline rfl (thn (ho.run pins s τ H _ I w) ?_)
  rintro v s1 ⟨x, H1, I1, r1, ht, q1⟩
  obtain ⟨h1, h2⟩ := hT pins τ H1 s1 x v I1 r1 ht
  refine ⟨T, id, pa, slot, hty, h1, h2, ?_⟩
  have hA := ha.run cpos pins s1 τ H1 _ I1 q1
  rw [hs] at hA hany ⊢
  refine Calls.callWith_builtin (by rw [hany]) (Calls.evalArgs_plain (thn hA ?_))
  rintro us s2 ⟨vs, H2, I2, r2, q2⟩
  exact hm pins s2 τ H2 x vs v us Q I2 r1 r2 q2
def tMt0 (ty : V → Hp → Prop) (r : V → List V → Hp → VK → Prop) (to : TE) : TE := fun τ H Q => to τ H fun x H1 => ty x H1 ∧ r x [] H1 Q
theorem peMt0 (pa : PlainAttrs T) (slot : Slot T name id) (hty : typeOf (.builtin id) = pure (.type "method_descriptor")) (hT : TyR X T ty) (hm : MtR X id r) (ho : PE X o to)
    (hbase : attributeBase o name X.env (eval o X.env) = eval o X.env) (hline : (apos.endLine == cpos.line) = true) :
    PE X (.Call (.Attribute o name apos) [] [] cpos) (tMt0 ty r to) := by
  constructor
  intro pins s τ H Q I w
  refine wpAny_Call_method0_late hbase hline (thn (ho.run pins s τ H _ I w) ?_)
  rintro v s1 ⟨x, H1, I1, r1, ht, q1⟩
  obtain ⟨h1, h2⟩ := hT pins τ H1 s1 x v I1 r1 ht
  exact ⟨T, id, pa, slot, hty, h1, h2, Calls.callWith_builtin rfl (PySem.evalArgs_none (hm pins s1 τ H1 x [] v [] Q I1 r1 .nil q1))⟩
/-- t.count(k), a tuple of ints -/
def rCntT : V → List V → Hp → VK → Prop := fun x xs H Q => ∃ (p : Addr) (ob : Obj) (ns : List Int) (k : Int), x = .ref p ∧ xs = [.int k] ∧ H p = some (.frz ob (.tup (ns.map V.int))) ∧ Q (.int (ns.count k : Nat)) H
theorem mtCntT : MtR X "tuple.count" rCntT := by
  intro pins s τ H x xs v us Q I rx rxs w
  obtain ⟨p, ob, ns, k, rfl, rfl, hs, q⟩ := w
  cases rx
  obtain ⟨u, rfl, ru⟩ := Vals.one rxs
  obtain ⟨t, rfl⟩ := ru
  obtain ⟨its, rv, ⟨⟨cls, dd, data, sl⟩, ho, hc, n, hd⟩, _⟩ := I.tuple (.inl (.inr ⟨ob, hs⟩))
  simp only at hc hd
  subst hc hd
  have hi := rv.ints
  refine call_meets PySem.F.slot_tuple_count ⟨_, ho, rfl⟩ PySem.F.entry_tuple_count (PySem.F.args_tuple_count_2 _ _) (SeqAt.tuple_countAt p its.toArray n dd sl (.int k t) (eqk k)) ⟨ho, fun y hy => (eqk_gives hi y (by simpa using hy)).at _ _, ?_⟩
  refine ⟨.int (ns.count k : Nat), H, I.tok _, ⟨s.toks, ?_⟩, q⟩
  have ec := eqk_count (k := k) hi
  show Value.int ((its.toArray.toList.countP (eqk k) : Nat) : Int) s.toks = Value.int ((ns.count k : Nat) : Int) s.toks
  rw [show its.toArray.toList = its from rfl, ec]
end
end Mi
end
/-! ## MiM -/
section
/-! MiM: which terms of the program's text a term of Mi stands for (positions left out). -/
namespace Mi
open PySem PySem.Spec PyProof.Rows L2

/-- the names: slots, defs, constants of the module -/
structure Nm where
  N : List Str
  fn : List Str
  gn : List Str

def okName (x : Str) : Bool := !(x == ("__debug__" : Str)) && !(x == ("__classdict__" : Str)) && !(x == ("__name__" : Str))
def visB (sc : Scope) (x : Str) : Bool := match sc.names.lookup x with
  | some .local => true | some .cell => true | some .free => true | _ => false
def gloB (sc : Scope) (x : Str) : Bool := match sc.names.lookup x with
  | some .globalImplicit => true | _ => false
def locB (sc : Scope) (x : Str) : Bool := match sc.names.lookup x with
  | some .local => true | _ => false
def cellB (sc : Scope) (x : Str) : Bool := match sc.names.lookup x with
  | some .cell => true | _ => false
def atB (N : List Str) (i : Nat) (x : Str) : Bool := decide (N[i]? = some x)
def opO : Op2 → Operator
  | .add => .Add | .sub => .Sub | .mul => .Mult | .fdiv => .FloorDiv | .mod => .Mod | .pow => .Pow
def cpO : Cp → CmpOp
  | .eq => .Eq | .ne => .NotEq | .lt => .Lt | .le => .LtE | .gt => .Gt | .ge => .GtE | .isin => .In | .notin => .NotIn
def biN : Bi → Str
  | .len => "len" | .abs => "abs" | .tuple => "tuple" | .min => "min" | .max => "max" | .sum => "sum" | .any => "any" | .all => "all" | .repr => "repr" | .int => "int" | _ => "isinstance"
def isiN : Bi → Option Str
  | .isInt => some "int" | .isBool => some "bool" | .isTuple => some "tuple" | .isStr => some "str" | .isList => some "list" | _ => none
def mtN : Mt → Str
  | .append => "append" | .pop => "pop" | .popAt => "pop" | .count => "count" | .remove => "remove" | .get => "get" | .get2 => "get" | .index => "index" | .extend => "extend"
/-- the base of a method's call: no call without arguments -/
def baseB : Expr → Bool
  | .Call _ [] _ _ => false
  | _ => true
def compB : Expr → Bool
  | .ListComp _ _ _ _ => true | .SetComp _ _ _ _ => true | .DictComp _ _ _ _ _ => true | _ => false

mutual
def mTg (c : Nm) (sc : Scope) : Tg → Expr → Bool
  | .name i, x => match x with
    | .Name y _ => atB c.N i y && (locB sc y || cellB sc y) && okName y
    | _ => false
  | .tup ts, x => match x with
    | .Tuple es _ _ => mTgs c sc ts es
    | _ => false
def mTgs (c : Nm) (sc : Scope) : List Tg → List Expr → Bool
  | [], x => match x with | [] => true | _ => false
  | t :: ts, x => match x with | e :: es => mTg c sc t e && mTgs c sc ts es | [] => false
end

mutual
def tgIn (vs : List Nat) : Tg → Bool
  | .name i => decide (i ∈ vs)
  | .tup ts => tgIns vs ts
def tgIns (vs : List Nat) : List Tg → Bool
  | [] => true
  | t :: ts => tgIn vs t && tgIns vs ts
end
def nwOk : N → Bool
  | .dcomp _ _ _ _ _ _ => false
  | _ => true
mutual
def mE (c : Nm) : Scope → E → Expr → Bool
  | sc, .int i, x => match x with | .Constant (.int j) _ _ => decide (i = j) | _ => false
  | sc, .str s, x => match x with | .Constant (.str j) _ _ => decide (s = j) | _ => false
  | sc, .bl b, x => match x with | .Constant (.bool j) _ _ => decide (b = j) | _ => false
  | sc, .non, x => match x with | .Constant .none _ _ => true | _ => false
  | sc, .var i, x => match x with | .Name y _ => atB c.N i y && visB sc y && okName y | _ => false
  | sc, .glo g, x => match x with | .Name y _ => atB c.gn g y && gloB sc y && okName y | _ => false
  | sc, .op o a b, x => match x with | .BinOp l p r _ => decide (opO o = p) && mE c sc a l && mE c sc b r | _ => false
  | sc, .neg a, x => match x with | .UnaryOp .USub l _ => mE c sc a l | _ => false
  | sc, .not a, x => match x with | .UnaryOp .Not l _ => mE c sc a l | _ => false
  | sc, .cmp o a b, x => match x with | .Compare l [p] [r] _ => decide (cpO o = p) && mE c sc a l && mE c sc b r | _ => false
  | sc, .isN a, x => match x with | .Compare l [.Is] [.Constant .none _ _] _ => mE c sc a l | _ => false
  | sc, .notN a, x => match x with | .Compare l [.IsNot] [.Constant .none _ _] _ => mE c sc a l | _ => false
  | sc, .chain o o' a b e, x => match x with | .Compare l [p, p'] [r, r'] _ => decide (cpO o = p) && decide (cpO o' = p') && mE c sc a l && mE c sc b r && mE c sc e r' | _ => false
  | sc, .and a b, x => match x with
    | .BoolOp .And (l :: r :: rest) pos => mE c sc a l && (match rest with | [] => mE c sc b r | q :: rs => mE c sc b (.BoolOp .And (r :: q :: rs) pos))
    | _ => false
  | sc, .or a b, x => match x with
    | .BoolOp .Or (l :: r :: rest) pos => mE c sc a l && (match rest with | [] => mE c sc b r | q :: rs => mE c sc b (.BoolOp .Or (r :: q :: rs) pos))
    | _ => false
  | sc, .ite t a b, x => match x with | .IfExp u l r _ => mE c sc t u && mE c sc a l && mE c sc b r | _ => false
  | sc, .tup es, x => match x with | .Tuple xs _ _ => mEs c sc es xs | _ => false
  | sc, .tupS ks es, x => match x with | .Tuple xs _ _ => mEsS c sc ks es xs | _ => false
  | sc, .sub a i, x => match x with | .Subscript l r _ => mE c sc a l && mE c sc i r | _ => false
  | sc, .slc a lo hi, x => match x with | .Subscript l (.Slice p q none _) _ => mE c sc a l && mO c sc lo p && mO c sc hi q | _ => false
  | sc, .call f es, x => match x with | .Call (.Name y _) xs [] _ => atB c.fn f y && gloB sc y && okName y && mEs c sc es xs | _ => false
  | sc, .bi b es, x => match x with
    | .Call (.Name y _) xs [] _ => decide (biN b = y) && gloB sc y && (match isiN b with
        | none => mEs c sc es xs
        | some t => match es, xs with
          | [e], [l, .Name z _] => mE c sc e l && decide (t = z) && gloB sc z
          | _, _ => false)
    | _ => false
  | sc, .met m o es, x => match x with
    | .Call (.Attribute l n ap) xs [] cp => decide (mtN m = n) && baseB l && (ap.endLine == cp.line) && mE c sc o l && mEs c sc es xs && decide (xs.length < 30)
    | _ => false
  | sc, .fz n, x => mN c sc n x
  | sc, .nw n, x => nwOk n && mN c sc n x
  | sc, .dsub a i, x => match x with | .Subscript l r _ => mE c sc a l && mE c sc i r | _ => false
  | sc, .dget o a, x => match x with
    | .Call (.Attribute l n ap) [r] [] cp => decide (n = "get") && baseB l && (ap.endLine == cp.line) && mE c sc o l && mE c sc a r
    | _ => false
  | sc, .dget2 o a b, x => match x with
    | .Call (.Attribute l n ap) [r, q] [] cp => decide (n = "get") && baseB l && (ap.endLine == cp.line) && mE c sc o l && mE c sc a r && mE c sc b q
    | _ => false
  | sc, .din a b, x => match x with | .Compare l [.In] [r] _ => mE c sc a l && mE c sc b r | _ => false
  | sc, .idx o a, x => match x with
    | .Call (.Attribute l n ap) [r] [] cp => decide (n = "index") && baseB l && (ap.endLine == cp.line) && mE c sc o l && mE c sc a r
    | _ => false
  | sc, .isT b neg a, x => match x with
    | .Compare l [.Is] [.Constant (.bool j) _ _] _ => decide (b = j) && decide (neg = false) && mE c sc a l
    | .Compare l [.IsNot] [.Constant (.bool j) _ _] _ => decide (b = j) && decide (neg = true) && mE c sc a l
    | _ => false
  | sc, .dnin a b, x => match x with | .Compare l [.NotIn] [r] _ => mE c sc a l && mE c sc b r | _ => false
def mEs (c : Nm) : Scope → List E → List Expr → Bool
  | sc, [], x => match x with | [] => true | _ => false
  | sc, e :: es, x => match x with | y :: ys => mE c sc e y && mEs c sc es ys | [] => false
def mEsS (c : Nm) : Scope → List Bool → List E → List Expr → Bool
  | sc, [], [], x => match x with | [] => true | _ => false
  | sc, false :: ks, e :: es, x => match x with | y :: ys => mE c sc e y && mEsS c sc ks es ys | [] => false
  | sc, true :: ks, e :: es, x => match x with | .Starred y _ :: ys => mE c sc e y && mEsS c sc ks es ys | _ => false
  | _, _, _, _ => false
def mO (c : Nm) : Scope → Option E → Option Expr → Bool
  | sc, none, x => match x with | none => true | _ => false
  | sc, some e, x => match x with | some y => mE c sc e y | none => false
def mC (c : Nm) : Scope → Option E → List Expr → Bool
  | sc, none, x => match x with | [] => true | _ => false
  | sc, some e, x => match x with | [y] => mE c sc e y | _ => false
def mN (c : Nm) : Scope → N → Expr → Bool
  | sc, .lst es, x => match x with | .List xs _ => mEs c sc es xs | _ => false
  | sc, .comp elt t it cond own, x => match x with
    | .ListComp y [⟨tg, iter, ifs, ai⟩] s _ => decide (ai = 0) && tgIn own t && blkC c.N sc s (own.map fun i => (c.N.getD i "", i)) && mI c sc it iter tg && mTg c s t tg && mC c (relS s sc) cond ifs && mE c (relS s sc) elt y
    | _ => false
  | sc, .list e, x => match x with | .Call (.Name y _) [l] [] _ => decide (y = "list") && gloB sc y && mE c sc e l | _ => false
  | sc, .listR a b, x => match x with | .Call (.Name y _) [.Call (.Name z _) [l, r] [] _] [] _ => decide (y = "list") && decide (z = "range") && gloB sc y && gloB sc z && mE c sc a l && mE c sc b r | _ => false
  | sc, .sorted e, x => match x with | .Call (.Name y _) [l] [] _ => decide (y = "sorted") && gloB sc y && mE c sc e l | _ => false
  | sc, .add a b, x => match x with | .BinOp l .Add r _ => mE c sc a l && mE c sc b r | _ => false
  | sc, .rep a b, x => match x with | .BinOp l .Mult r _ => mE c sc a l && mE c sc b r | _ => false
  | sc, .slc a lo hi, x => match x with | .Subscript l (.Slice p q none _) _ => mE c sc a l && mO c sc lo p && mO c sc hi q | _ => false
  | sc, .dict0, x => match x with | .Dict [] [] _ => true | _ => false
  | sc, .comp2 elt t it cond t1 it1 cond1 own own1, x => match x with
    | .ListComp y [⟨tg, iter, ifs, ai⟩, ⟨tg1, iter1, ifs1, ai1⟩] s _ => decide (ai = 0) && decide (ai1 = 0) && tgIn own t && tgIn own1 t1 && own1.all (fun i => decide (i ∈ own)) && blkC c.N sc s (own.map fun i => (c.N.getD i "", i)) && mI c sc it iter tg && mTg c s t tg && mC c (relS s sc) cond ifs &&
        mI c (relS s sc) it1 iter1 tg1 && mTg c s t1 tg1 && mC c (relS s sc) cond1 ifs1 && mE c (relS s sc) elt y
    | _ => false
  | sc, .dcomp k v t it cond own, x => match x with
    | .DictComp y z [⟨tg, iter, ifs, ai⟩] s _ => decide (ai = 0) && tgIn own t && blkC c.N sc s (own.map fun i => (c.N.getD i "", i)) && mI c sc it iter tg && mTg c s t tg && mC c (relS s sc) cond ifs && mE c (relS s sc) k y && mE c (relS s sc) v z
    | _ => false
  | sc, .listD e, x => match x with | .Call (.Name y _) [l] [] _ => decide (y = "list") && gloB sc y && mE c sc e l | _ => false
  | sc, .listR1 a, x => match x with | .Call (.Name y _) [.Call (.Name z _) [l] [] _] [] _ => decide (y = "list") && decide (z = "range") && gloB sc y && gloB sc z && mE c sc a l | _ => false
  | sc, .sortedD e, x => match x with | .Call (.Name y _) [l] [] _ => decide (y = "sorted") && gloB sc y && mE c sc e l | _ => false
def mI (c : Nm) : Scope → I → Expr → Expr → Bool
  | sc, .e e, x, _ => mE c sc e x
  | sc, .range1 a, x, _ => match x with | .Call (.Name y _) [l] [] _ => decide (y = "range") && gloB sc y && mE c sc a l | _ => false
  | sc, .range2 a b, x, _ => match x with | .Call (.Name y _) [l, r] [] _ => decide (y = "range") && gloB sc y && mE c sc a l && mE c sc b r | _ => false
  | sc, .enum e, x, tg => match x with | .Call (.Name y _) [l] [] _ => decide (y = "enumerate") && gloB sc y && mE c sc e l && (match tg with | .Tuple _ _ _ => true | _ => false) | _ => false
  | sc, .zip a b, x, tg => match x with | .Call (.Name y _) [l, r] [] _ => decide (y = "zip") && gloB sc y && mE c sc a l && mE c sc b r && (match tg with | .Tuple _ _ _ => true | _ => false) | _ => false
  | sc, .items e, x, tg => match x with | .Call (.Attribute l n ap) [] [] cp => decide (n = "items") && baseB l && (ap.endLine == cp.line) && mE c sc e l && (match tg with | .Tuple _ _ _ => true | _ => false) | _ => false
  | sc, .keys e, x, _ => mE c sc e x
  | sc, .vals e, x, _ => match x with | .Call (.Attribute l n ap) [] [] cp => decide (n = "values") && baseB l && (ap.endLine == cp.line) && mE c sc e l | _ => false
end

def mNms (c : Nm) (sc : Scope) : List Nat → List Expr → Bool
  | [], x => match x with | [] => true | _ => false
  | i :: is, x => match x with | .Name y _ :: es => atB c.N i y && (locB sc y || cellB sc y) && okName y && mNms c sc is es | _ => false
/-- in which order several names are stored -/
def swNames (sc : Scope) (ts : List Expr) : List Str := ts.filterMap fun
    | .Name id pos => if sc.names.lookup id == some .local && pos.line == (ts.head?.map (·.pos.line)).getD 0 then some id else none
    | _ => none
def swP (sc : Scope) (ts vs : List Expr) : Option (Option (List Str)) :=
  if !(ts.length == 2 || ts.length == 3) || vs.length != ts.length then some none else
  if vs.any fun | .Starred .. => true | _ => false then some none else
  if (swNames sc ts).length != ts.length || (swNames sc ts).eraseDups.length != (swNames sc ts).length then some none else
  if vs.all (foldedForSure 8) then some none else
  if vs.all (constantsAlone 8) then none else some (some (swNames sc ts))
def swOk (sc : Scope) (ts vs : List Expr) : Bool := match swP sc ts vs, ts with
  | some none, _ => true
  | some (some [x', y']), [.Name x _, .Name y _] => decide (x = x') && decide (y = y') && locB sc x && locB sc y && decide (x ≠ y)
  | some (some [x', y', z']), [.Name x _, .Name y _, .Name z _] => decide (x = x') && decide (y = y') && decide (z = z') && locB sc x && locB sc y && locB sc z && decide (x ≠ y) && decide (x ≠ z) && decide (y ≠ z)
  | _, _ => false
def notTup : Expr → Bool
  | .Tuple _ _ _ => false | _ => true
mutual
def mS (c : Nm) (sc : Scope) : S → Stmt → Bool
  | .asg t e, x => match x with
    | .Assign [tg] v _ => mTg c sc t tg && mE c sc e v && (notTup tg || notTup v)
    | _ => false
  | .pars is es, x => match x with
    | .Assign [.Tuple ts _ _] (.Tuple vs _ _) _ => mNms c sc is ts && mEs c sc es vs && decide (is.length ≤ 1000) && swOk sc ts vs
    | _ => false
  | .sset o i e, x => match x with
    | .Assign [.Subscript l r _] v _ => mE c sc o l && mE c sc i r && mE c sc e v
    | _ => false
  | .dput o i e, x => match x with
    | .Assign [.Subscript l r _] v _ => mE c sc o l && mE c sc i r && mE c sc e v
    | _ => false
  | .aug i o e, x => match x with
    | .AugAssign (.Name y _) p v _ => atB c.N i y && (locB sc y || cellB sc y) && okName y && decide (opO o = p) && mE c sc e v
    | _ => false
  | .saug o i op e, x => match x with
    | .AugAssign (.Subscript l r _) p v _ => decide (opO op = p) && mE c sc o l && mE c sc i r && mE c sc e v
    | _ => false
  | .expr e, x => match x with | .Expr v _ => mE c sc e v && !compB v | _ => false
  | .ret e, x => match x with | .Return (some v) _ => mE c sc e v | _ => false
  | .ifs t a b, x => match x with | .If u l r _ => mE c sc t u && mSs c sc a l && mSs c sc b r | _ => false
  | .whl _ t b, x => match x with | .While u l [] _ => mE c sc t u && mSs c sc b l | _ => false
  | .loop _ t it b, x => match x with | .For tg iter l [] _ => mTg c sc t tg && mI c sc it iter tg && mSs c sc b l | _ => false
  | .pass, x => match x with | .Pass _ => true | _ => false
  | .brk, x => match x with | .Break _ => true | _ => false
  | .cont, x => match x with | .Continue _ => true | _ => false
  | .never, _ => true
def mSs (c : Nm) (sc : Scope) : List S → List Stmt → Bool
  | [], x => match x with | [] => true | _ => false
  | s :: ss, x => match x with | y :: ys => mS c sc s y && mSs c sc ss ys | [] => false
end
end Mi
end
/-! ## MiS1 -/
section
set_option maxHeartbeats 1000000
/-! MiS1: each construct of Mi's expressions, over the hand layer's rules. -/
namespace Mi
open PySem PySem.Spec PyProof.Rows L2

section
variable {X : Cx} {K : PySem.W.Frag} {x : Expr}
theorem PE.of_eq {d d' : Fr → Hm → Option (Val × Hm)} (e : ∀ σ h, d' σ h = d σ h) (p : PE X x (tD K d)) : PE X x (tD K d') := by
  have : d' = d := funext fun σ => funext fun h => e σ h
  rw [this]; exact p
theorem PT.of_eq {d d' : Fr → Hm → Option (Val × Hm)} (e : ∀ σ h, d' σ h = d σ h) (p : PT X x (tDT K d)) : PT X x (tDT K d') := by
  have : d' = d := funext fun σ => funext fun h => e σ h
  rw [this]; exact p
/-- from an expression's rule: what it wants, in Mi's words -/
theorem peD {t : TE} {d : Fr → Hm → Option (Val × Hm)} (p : PE X x t) (h : ∀ (P G : Hp) (ρ : List Addr) (σ : Fr) (h : Hm) (τ : L2.St) (H : Hp) (Q : VK), At K P G ρ σ h τ H → RunV K P (d σ h) G ρ Q → t τ H Q) : PE X x (tD K d) :=
  PE.imp p fun τ H Q ⟨P, G, ρ, σ, hh, rh, rf, r⟩ => h P G ρ σ hh τ H Q ⟨rh, rf⟩ r
theorem tD.of {d : Fr → Hm → Option (Val × Hm)} {P G H : Hp} {ρ : List Addr} {σ : Fr} {h : Hm} {τ : L2.St} {Q : VK} (a : At K P G ρ σ h τ H) (r : RunV K P (d σ h) G ρ Q) : tD K d τ H Q := ⟨P, G, ρ, σ, h, a.hp, a.fr, r⟩
/-- one part is run -/
theorem tD.step {α β : Type} {R : Hp → List Addr → α → β → Prop} {d : Fr → Hm → Option (Val × Hm)} {f : Val × Hm → Option (α × Hm)} {P G H : Hp} {ρ : List Addr} {σ : Fr} {h : Hm} {τ : L2.St} {Q : β → Hp → Prop} {Q' : VK} (a : At K P G ρ σ h τ H) (r : Run K P R ((d σ h).bind f) G ρ Q)
    (q : ∀ v h1 G1 ρ1 x H1, At K P G1 ρ1 σ h1 τ H1 → Sub G G1 → Pre ρ ρ1 → RelW K G1 ρ1 v x → d σ h = some (v, h1) → Run K P R (f (v, h1)) G1 ρ1 Q → Q' x H1) : tD K d τ H Q' :=
  tD.of a ((Run.split a r).mono fun x H1 ⟨v, h1, G1, ρ1, a1, s, p, rx, e, r1⟩ => q v h1 G1 ρ1 x H1 a1 s p rx e r1)
theorem tD.stepM {α β : Type} {R : Hp → List Addr → α → β → Prop} {d : Fr → Hm → Option (Val × Hm)} {f : Val × Hm → α × Hm} {P G H : Hp} {ρ : List Addr} {σ : Fr} {h : Hm} {τ : L2.St} {Q : β → Hp → Prop} {Q' : VK} (a : At K P G ρ σ h τ H) (r : Run K P R ((d σ h).map f) G ρ Q)
    (q : ∀ v h1 G1 ρ1 x H1, At K P G1 ρ1 σ h1 τ H1 → Sub G G1 → Pre ρ ρ1 → RelW K G1 ρ1 v x → d σ h = some (v, h1) → Run K P R (some (f (v, h1))) G1 ρ1 Q → Q' x H1) : tD K d τ H Q' := by
  rw [Option.map_eq_bind] at r
  exact tD.step a r q
theorem bind_map' {α β γ : Type} {m : Option α} {f : α → β} {g : α → Option β} (h : ∀ x, g x = some (f x)) : m.map f = m.bind g := by
  cases m with
  | none => rfl
  | some x => exact (h x).symm
theorem rdInt {G : Hp} {i : Int} : RelD G (.int i) (.int i) := by unfold RelD; rfl
theorem rdStr {G : Hp} {i : Str} : RelD G (.str i) (.str i) := by unfold RelD; rfl
theorem rdBl {G : Hp} {i : Bool} : RelD G (.bool i) (.bl i) := by unfold RelD; rfl
theorem rdNon {G : Hp} : RelD G .none .non := by unfold RelD; rfl
theorem rwInt {G : Hp} {ρ : List Addr} {i : Int} : RelW K G ρ (vi i) (.int i) := rdInt (G := G)
theorem rwStr {G : Hp} {ρ : List Addr} {i : Str} : RelW K G ρ (.dat (.str i)) (.str i) := rdStr (G := G)
theorem rwBl {G : Hp} {ρ : List Addr} {i : Bool} : RelW K G ρ (vb i) (.bl i) := rdBl (G := G)
theorem rwNon {G : Hp} {ρ : List Addr} : RelW K G ρ vn .non := rdNon (G := G)
theorem sInt {i : Int} {k : Nat} {pos : Pos} : PE X (.Constant (.int i) k pos) (tD K fun _ h => some (vi i, h)) := peD pe_int fun _ _ _ _ _ _ _ _ a r => r.now a rwInt
theorem sStr {i : Str} {k : Nat} {pos : Pos} : PE X (.Constant (.str i) k pos) (tD K fun _ h => some (.dat (.str i), h)) := peD pe_str fun _ _ _ _ _ _ _ _ a r => r.now a rwStr
theorem sBl {i : Bool} {k : Nat} {pos : Pos} : PE X (.Constant (.bool i) k pos) (tD K fun _ h => some (vb i, h)) := peD pe_bl fun _ _ _ _ _ _ _ _ a r => r.now a rwBl
theorem sNon {k : Nat} {pos : Pos} : PE X (.Constant .none k pos) (tD K fun _ h => some (vn, h)) := peD pe_non fun _ _ _ _ _ _ _ _ a r => r.now a rwNon
theorem sVar {i : Nat} {y : Str} {pos : Pos} (hN : X.N[i]? = some y) (hv : Vis X.env.scope y) (h1 : (y == ("__debug__" : Str)) = false) (h2 : (y == ("__classdict__" : Str)) = false) : PE X (.Name y pos) (tD K fun σ h => (σ[i]?.bind id).map fun v => (v, h)) := by
  refine peD (pe_var hN hv h1 h2) fun P G ρ σ h τ H Q a r => ?_
  obtain ⟨v, e, r⟩ := r.of_map
  cases e1 : σ[i]? with
  | none => rw [e1] at e; cases e
  | some o =>
    rw [e1] at e
    have e2 : o = some v := e
    subst e2
    obtain ⟨b, eb, q⟩ := Paired.getL a.fr e1
    obtain ⟨y, rfl, q⟩ := q
    exact ⟨y, eb, r.now a q⟩

/-! ### two values -/
theorem dInt {G : Hp} {ρ : List Addr} {i : Int} {x : V} (h : RelW K G ρ (vi i) x) : x = .int i := h
theorem dBl {G : Hp} {ρ : List Addr} {i : Bool} {x : V} (h : RelW K G ρ (vb i) x) : x = .bl i := h
theorem dTup {P G H : Hp} {ρ : List Addr} {h : Hm} {ds : List PyData} {x : V} (rh : RelH K P G ρ h H) (q : RelW K G ρ (vt ds) x) : ∃ a vs, x = .ref a ∧ SqT K H a vs ∧ vs.length ≤ sizeLine ∧ RelDs G ds vs := by
  have q' : RelD G (.tuple ds) x := q
  unfold RelD at q'
  obtain ⟨a, o, vs, e, g, _, z, r⟩ := q'
  exact ⟨a, vs, e, .inl (.inr ⟨o, rh.sub _ _ g⟩), z, r⟩
theorem dLst {P G H : Hp} {ρ : List Addr} {h : Hm} {ds : List PyData} {x : V} (rh : RelH K P G ρ h H) (q : RelW K G ρ (vl ds) x) : ∃ a vs, x = .ref a ∧ H a = some (.lst vs) ∧ vs.length ≤ sizeLine ∧ RelDs G ds vs := by
  have q' : RelD G (.list ds) x := q
  unfold RelD at q'
  obtain ⟨a, vs, e, g, z, r⟩ := q'
  exact ⟨a, vs, e, rh.sub _ _ g, z, r⟩
/-- a new tuple is handed on -/
theorem newT_of {P G H : Hp} {ρ : List Addr} {h : Hm} {σ : Fr} {τ : L2.St} {ds : List PyData} {xs : List V} {Q : VK} (a : At K P G ρ σ h τ H) (r : RunV K P (some (vt ds, h)) G ρ Q) (z : xs.length ≤ sizeLine) (q : RelDs G ds xs) : NewT H xs Q := fun p o n d => by
  have n' := a.hp.sub.fresh n
  refine r.then (Sub.new n') (List.prefix_refl _) (a.hp.frozen n) ?_
  show RelD _ (.tuple ds) _
  unfold RelD
  exact ⟨p, o, xs, rfl, upd_same, d, z, RelDs.keep (Sub.new n').keeps q⟩
theorem RelDs.len {G : Hp} : ∀ {ds : List PyData} {xs : List V}, RelDs G ds xs → ds.length = xs.length := fun h => Paired.length (RelDs.pair.mp h)
theorem RelDs.app {G : Hp} {ds es : List PyData} {xs ys : List V} (h : RelDs G ds xs) (h' : RelDs G es ys) : RelDs G (ds ++ es) (xs ++ ys) := RelDs.pair.mpr (Paired.app (RelDs.pair.mp h) (RelDs.pair.mp h'))

def rOp (K : PySem.W.Frag) : Op2 → R2
  | .add => fun x y H Q => (rI0 fun i j => .int (i + j)) x y H Q ∨ rCatF K x y H Q ∨ (∃ i j, x = .str i ∧ y = .str j ∧ i.length + j.length ≤ sizeLine ∧ Q (.str (i ++ j)) H)
  | .sub => rI0 fun i j => .int (i - j)
  | .mul => rI CMul fun i j => .int (i * j)
  | .fdiv => rI CDiv fun i j => .int (i / j)
  | .mod => rI (fun _ j => 0 < j) fun i j => .int (i % j)
  | .pow => rI CPow fun i j => .int (i ^ j.toNat)
theorem oOp (o : Op2) : OpR X (binaryOp (opO o)) (rOp X.K o) := by
  cases o with
  | add => exact op_add.or (oCat.or op_add_str)
  | sub => exact op_sub
  | mul => exact op_mul
  | fdiv => exact op_fdiv
  | mod => exact op_mod
  | pow => exact op_pow
/-- the operators' meaning keeps to the rules -/
theorem op2_ok {o : Op2} {v w : Val} {x y : V} {P G H : Hp} {ρ : List Addr} {h : Hm} {σ : Fr} {τ : L2.St} {Q : VK} (a : At K P G ρ σ h τ H) (rv : RelW K G ρ v x) (rw' : RelW K G ρ w y) (r : RunV K P ((op2 o v w).map fun u => (u, h)) G ρ Q) : rOp K o x y H Q := by
  obtain ⟨u, e, r⟩ := r.of_map
  cases o with
  | add =>
    unfold op2 at e
    split at e <;> try contradiction
    · cases e; exact .inl ⟨_, _, rv, rw', r.now a rwInt⟩
    · rename_i xs ys hq; cases hq
      split at e <;> try contradiction
      rename_i hz
      cases e
      obtain ⟨p, us, rfl, q1, z1, r1⟩ := dTup a.hp rv
      obtain ⟨p2, us2, rfl, q2, z2, r2⟩ := dTup a.hp rw'
      have l1 := r1.len
      have l2 := r2.len
      refine .inr (.inl ⟨p, p2, us, us2, rfl, rfl, q1, q2, by omega, fun z => ?_, fun _ z => ?_, fun _ _ => newT_of a r (by rw [List.length_append]; omega) (r1.app r2)⟩)
      · subst z
        have : xs = [] := List.length_eq_zero_iff.mp l1
        subst this
        exact r.now a rw'
      · subst z
        have : ys = [] := List.length_eq_zero_iff.mp l2
        subst this
        rw [List.append_nil] at r
        exact r.now a rv
    · rename_i hq; cases hq
      split at e <;> try contradiction
      cases e
      exact .inr (.inr ⟨_, _, rv, rw', by assumption, r.now a rfl⟩)
    all_goals (rename_i hq; cases hq)
  | sub => unfold op2 at e; split at e <;> first | contradiction | (rename_i hq; cases hq; cases e; exact ⟨_, _, rv, rw', r.now a rwInt⟩)  | (rename_i hq; cases hq)
  | mul =>
    unfold op2 at e
    split at e <;> first | contradiction | (rename_i hq; cases hq; done) | skip
    rename_i hq; cases hq
    split at e <;> try contradiction
    cases e
    exact ⟨_, _, rv, rw', by assumption, r.now a rwInt⟩
  | fdiv =>
    unfold op2 at e
    split at e <;> first | contradiction | (rename_i hq; cases hq; done) | skip
    rename_i hq; cases hq
    split at e <;> try contradiction
    cases e
    exact ⟨_, _, rv, rw', by assumption, r.now a rwInt⟩
  | mod =>
    unfold op2 at e
    split at e <;> first | contradiction | (rename_i hq; cases hq; done) | skip
    rename_i hq; cases hq
    split at e <;> try contradiction
    cases e
    exact ⟨_, _, rv, rw', by assumption, r.now a rwInt⟩
  | pow =>
    unfold op2 at e
    split at e <;> first | contradiction | (rename_i hq; cases hq; done) | skip
    rename_i hq; cases hq
    split at e <;> try contradiction
    cases e
    exact ⟨_, _, rv, rw', by assumption, r.now a rwInt⟩
theorem sOp {o : Op2} {l r : Expr} {da db : Fr → Hm → Option (Val × Hm)} {pos : Pos} (ha : PE X l (tD X.K da)) (hb : PE X r (tD X.K db)) :
    PE X (.BinOp l (opO o) r pos) (tD X.K fun σ h => (da σ h).bind fun p => (db σ p.2).bind fun q => (op2 o p.1 q.1).map fun v => (v, q.2)) :=
  peD (pe_op (oOp o) ha hb) fun P G ρ σ h τ H Q a r => tD.step a r fun v h1 G1 ρ1 x H1 a1 s p rx _ r1 => tD.step a1 r1 fun w h2 G2 ρ2 y H2 a2 s2 p2 ry _ r2 => op2_ok a2 (rx.mono s2 p2) ry r2
end
end Mi
end
/-! ## MiS2 -/
section
set_option maxHeartbeats 1000000
/-! MiS2: data as a whole: ==, in, repr. -/
namespace Mi
open PySem PySem.Spec PyProof.Rows L2

/-! ### shapes -/
mutual
theorem depth_le : ∀ (k : Nat) (d : PyData), okD k d = true → d.depth ≤ k
  | 0, _, h => by unfold okD at h; cases h
  | _ + 1, .none, _ => by unfold PyData.depth; omega
  | _ + 1, .bool _, _ => by unfold PyData.depth; omega
  | _ + 1, .int _, _ => by unfold PyData.depth; omega
  | _ + 1, .str _, _ => by unfold PyData.depth; omega
  | k + 1, .list xs, h => by
    unfold okD at h; unfold PyData.depth
    have := depths_le k xs h
    omega
  | k + 1, .tuple xs, h => by
    unfold okD at h; unfold PyData.depth
    have := depths_le k xs h
    omega
  | _ + 1, .dict _, h => by unfold okD at h; cases h
theorem depths_le : ∀ (k : Nat) (ds : List PyData), ds.all (okD k) = true → PyData.depthAll ds ≤ k
  | _, [], _ => by unfold PyData.depthAll; omega
  | k, d :: ds, h => by
    rw [List.all_cons, Bool.and_eq_true] at h
    unfold PyData.depthAll
    have h1 := depth_le k d h.1
    have h2 := depths_le k ds h.2
    omega
end
mutual
theorem lay_of : ∀ (k : Nat) (d : PyData), okD k d = true → d.canLay0 = true
  | 0, _, h => by unfold okD at h; cases h
  | _ + 1, .none, _ => by unfold PyData.canLay0; rfl
  | _ + 1, .bool _, _ => by unfold PyData.canLay0; rfl
  | _ + 1, .int _, _ => by unfold PyData.canLay0; rfl
  | _ + 1, .str _, h => by unfold okD at h; exact h
  | k + 1, .list xs, h => by
    unfold okD at h; unfold PyData.canLay0
    exact lays_of k xs h
  | k + 1, .tuple xs, h => by
    unfold okD at h; unfold PyData.canLay0
    exact lays_of k xs h
  | _ + 1, .dict _, h => by unfold okD at h; cases h
theorem lays_of : ∀ (k : Nat) (ds : List PyData), ds.all (okD k) = true → PyData.canLayAll0 ds = true
  | _, [], _ => by unfold PyData.canLayAll0; rfl
  | k, d :: ds, h => by
    rw [List.all_cons, Bool.and_eq_true] at h
    unfold PyData.canLayAll0
    rw [lay_of k d h.1, lays_of k ds h.2]; rfl
end
theorem shaped_of {k : Nat} {d : PyData} (h : okD k d = true) (hk : k ≤ 64) : SeqAt.shaped d = true := by
  unfold SeqAt.shaped
  rw [lay_of k d h, decide_eq_true (Nat.le_trans (depth_le k d h) hk)]; rfl

/-! ### data in the abstract heap -/
section
variable {K : PySem.W.Frag} {P G H : Hp} {ρ : List Addr} {h : Hm}
mutual
theorem dp_of (s : Sub G H) : ∀ (k : Nat) (d : PyData) (x : V), okD k d = true → RelD G d x → Dp K H x d
  | 0, _, _, h, _ => by unfold okD at h; cases h
  | _ + 1, .none, _, _, r => by unfold RelD at r; subst r; exact .non
  | _ + 1, .bool _, _, _, r => by unfold RelD at r; subst r; exact .bl _
  | _ + 1, .int _, _, _, r => by unfold RelD at r; subst r; exact .int _
  | _ + 1, .str _, _, _, r => by unfold RelD at r; subst r; exact .str _
  | k + 1, .list ds, x, h, r => by
    unfold okD at h; unfold RelD at r
    obtain ⟨a, vs, rfl, g, _, q⟩ := r
    exact .lst (.of (s _ _ g)) (dps_of s k ds vs h q)
  | k + 1, .tuple ds, x, h, r => by
    unfold okD at h; unfold RelD at r
    obtain ⟨a, o, vs, rfl, g, _, _, q⟩ := r
    exact .tup (.inl (.inr ⟨o, s _ _ g⟩)) (dps_of s k ds vs h q)
  | _ + 1, .dict _, _, h, _ => by unfold okD at h; cases h
theorem dps_of (s : Sub G H) : ∀ (k : Nat) (ds : List PyData) (xs : List V), ds.all (okD k) = true → RelDs G ds xs → DpAll K H xs ds
  | _, [], _, _, r => by unfold RelDs at r; subst r; exact .nil
  | k, d :: ds, xs, h, r => by
    rw [List.all_cons, Bool.and_eq_true] at h
    unfold RelDs at r
    obtain ⟨v, q, rfl, r1, r2⟩ := r
    exact .cons (dp_of s k d v h.1 r1) (dps_of s k ds q h.2 r2)
end
theorem mapO_cons {α β : Type} {f : α → Option β} {x : α} {xs : List α} {ys : List β} (h : mapO f (x :: xs) = some ys) : ∃ y r, f x = some y ∧ mapO f xs = some r ∧ ys = y :: r := by
  unfold mapO at h
  cases e : f x with
  | none => rw [e] at h; cases h
  | some y =>
    rw [e] at h
    obtain ⟨r, e2, e3⟩ := Option.map_eq_some_iff.mp h
    exact ⟨y, r, rfl, e2, e3.symm⟩
theorem snap_dp (rh : RelH K P G ρ h H) : ∀ (n : Nat) (k : Nat) (v : Val) (x : V) (d : PyData), RelW K G ρ v x → snap n h v = some d → okD k d = true → Dp K H x d
  | n, k, .dat d, x, d', r, e, ok => by
    have : d = d' := by cases n <;> exact Option.some.inj e
    subst this
    exact dp_of rh.sub k d x ok r
  | n, k, .scr ns, x, d, r, e, ok => by cases n <;> cases e
  | 0, k, .ref a, x, d, r, e, ok => by cases e
  | n + 1, k, .ref a, x, d, r, e, ok => by
    obtain ⟨p, ep, rfl⟩ := r
    unfold snap at e
    split at e
    · rename_i vs hv
      obtain ⟨ds, e1, rfl⟩ := Option.map_eq_some_iff.mp e
      obtain ⟨p', xs, ep', hp, -, q⟩ := rh.lst hv
      rw [ep] at ep'; cases ep'
      cases k with
      | zero => unfold okD at ok; cases ok
      | succ k =>
        unfold okD at ok
        refine .lst (.of hp) ?_
        clear e hv hp
        induction vs generalizing xs ds with
        | nil =>
          cases q
          have : ds = [] := by unfold mapO at e1; exact (Option.some.inj e1).symm
          subst this; exact .nil
        | cons v vs ih =>
          cases q with
          | cons r1 r2 =>
            obtain ⟨y, rr, f1, f2, rfl⟩ := mapO_cons e1
            rw [List.all_cons, Bool.and_eq_true] at ok
            exact .cons (snap_dp rh n k v _ y r1 f1 ok.1) (ih _ f2 _ r2 ok.2)
    · cases e
end

section
variable {X : Cx}
/-! ### comparisons -/
def rCmp (K : PySem.W.Frag) : Cp → R2
  | .eq => fun x y H Q => rEqD K x y H Q ∨ rEq x y H Q
  | .ne => fun x y H Q => rNeD K x y H Q ∨ rNe x y H Q
  | .lt => rI0 fun i j => .bl (decide (i < j))
  | .le => rI0 fun i j => .bl (decide (i ≤ j))
  | .gt => rI0 fun i j => .bl (decide (j < i))
  | .ge => rI0 fun i j => .bl (decide (j ≤ i))
  | .isin => fun x y H Q => rInD K x y H Q ∨ rIn K false x y H Q
  | .notin => fun x y H Q => rNotInD K x y H Q ∨ rIn K true x y H Q
theorem oCmp (hu : X.A.units + 65 < cLine) (o : Cp) : OpR X (compareOp (cpO o)) (rCmp X.K o) := by
  cases o with
  | eq => exact (op_eqD (by omega)).or op_eq
  | ne => exact (op_neD (by omega)).or op_ne
  | lt => exact op_lt
  | le => exact op_le
  | gt => exact op_gt
  | ge => exact op_ge
  | isin => exact (op_inD hu).or op_in_seq
  | notin => exact (op_notInD hu).or op_notIn_seq
variable {K : PySem.W.Frag} {P G H : Hp} {ρ : List Addr} {h : Hm} {σ : Fr} {τ : L2.St}
theorem strs_some {a b : Val} {r : Bool} (e : strsV a b = some r) : ∃ x y, a = .dat (.str x) ∧ b = .dat (.str y) ∧ r = (x == y) := by
  unfold strsV at e
  split at e
  · cases e; exact ⟨_, _, rfl, rfl, rfl⟩
  · cases e
theorem eqD_cases {a b : Val} {r : Bool} (e : eqD h a b = some r) : strsV a b = some r ∨ eqD0 h a b = some r := by
  unfold eqD at e
  split at e
  · rename_i q; cases e; exact .inl q
  · exact .inr e
theorem dec_str {x y : Str} : decide (V.str x = V.str y) = (x == y) := by
  rw [Bool.eq_iff_iff]
  simp
theorem eqD_some {a b : Val} {r : Bool} (e : eqD0 h a b = some r) : ∃ x y, snap 4 h a = some x ∧ snap 4 h b = some y ∧ okD 12 x = true ∧ okD 12 y = true ∧ r = PyData.eqv x y := by
  unfold eqD0 at e
  obtain ⟨x, e1, e⟩ := Option.bind_eq_some_iff.mp e
  obtain ⟨y, e2, e⟩ := Option.bind_eq_some_iff.mp e
  split at e
  · rename_i ok
    rw [Bool.and_eq_true] at ok
    exact ⟨x, y, e1, e2, ok.1, ok.2, (Option.some.inj e).symm⟩
  · cases e
theorem flat_rel {d : PyData} {x : V} (f : flat d = true) (r : RelD G d x) : flatV x = true := by
  cases d <;> first | (unfold RelD at r; subst r; rfl) | (unfold flat at f; cases f)
theorem flat_eqv {d e : PyData} {x y : V} (f : flat d = true) (f' : flat e = true) (r : RelD G d x) (r' : RelD G e y) : eqV x y = PyData.eqv d e := by
  cases d <;> first | (unfold flat at f; cases f; done) | skip
  all_goals (cases e <;> first | (unfold flat at f'; cases f'; done) | skip)
  all_goals (unfold RelD at r r'; subst r; subst r'; unfold eqV PyData.eqv; first | rfl | simp)
theorem in_flat {d : PyData} {x : V} (f : flat d = true) (r : RelD G d x) : ∀ {ds : List PyData} {xs : List V}, ds.all flat = true → RelDs G ds xs → xs.all flatV = true ∧ inV x xs = ds.any fun y => PyData.eqv y d
  | [], xs, _, q => by unfold RelDs at q; subst q; exact ⟨rfl, rfl⟩
  | e :: ds, xs, h, q => by
    rw [List.all_cons, Bool.and_eq_true] at h
    unfold RelDs at q
    obtain ⟨v, t, rfl, r1, r2⟩ := q
    obtain ⟨h1, h2⟩ := in_flat f r h.2 r2
    refine ⟨?_, ?_⟩
    · rw [List.all_cons, flat_rel h.1 r1, h1]; rfl
    · unfold inV at h2 ⊢
      rw [List.any_cons, List.any_cons, flat_eqv h.1 f r1 r, h2]
theorem inD_rel {a b : Val} {r : Bool} {x y : V} (rh : RelH K P G ρ h H) (rx : RelW K G ρ a x) (ry : RelW K G ρ b y) (e : inD h a b = some r) :
    (∃ d ds, Dp K H x d ∧ Dp K H y (.list ds) ∧ SeqAt.shaped d = true ∧ SeqAt.shaped (.list ds) = true ∧ r = ds.any fun z => PyData.eqv z d) ∨
    (∃ p xs, y = .ref p ∧ SqT K H p xs ∧ flatV x = true ∧ xs.all flatV = true ∧ r = inV x xs) := by
  unfold inD at e
  split at e
  · rename_i ds
    obtain ⟨d, e1, e⟩ := Option.bind_eq_some_iff.mp e
    split at e
    · rename_i ok
      rw [Bool.and_eq_true] at ok
      have er := Option.some.inj e
      obtain ⟨p, vs, rfl, q, _, rd⟩ := dTup rh ry
      cases a with
      | dat d' =>
        have : d' = d := Option.some.inj e1
        subst this
        obtain ⟨h1, h2⟩ := in_flat ok.1 rx ok.2 rd
        exact .inr ⟨p, vs, rfl, q, flat_rel ok.1 rx, h1, by rw [h2]; exact er.symm⟩
      | scr ns => cases e1
      | ref n =>
        unfold snap at e1
        split at e1
        · obtain ⟨ds', _, rfl⟩ := Option.map_eq_some_iff.mp e1
          have := ok.1
          unfold flat at this; cases this
        · cases e1
    · cases e
  · obtain ⟨d, e1, e⟩ := Option.bind_eq_some_iff.mp e
    obtain ⟨dy, e2, e⟩ := Option.bind_eq_some_iff.mp e
    split at e
    · rename_i ds
      split at e
      · rename_i ok
        rw [Bool.and_eq_true] at ok
        have okl : okD 12 (.list ds) = true := by unfold okD; exact ok.2
        exact .inl ⟨d, ds, snap_dp rh 4 12 a x d rx e1 ok.1, snap_dp rh 4 12 b y _ ry e2 okl, shaped_of ok.1 (by decide), shaped_of okl (by decide), (Option.some.inj e).symm⟩
      · cases e
    · cases e
theorem cmp_ok {o : Cp} {v w : Val} {x y : V} {Q : VK} (a : At K P G ρ σ h τ H) (rv : RelW K G ρ v x) (rw' : RelW K G ρ w y) (r : RunV K P ((cmpV o h v w).map fun u => (vb u, h)) G ρ Q) : rCmp K o x y H Q := by
  obtain ⟨u, e, r⟩ := r.of_map
  have q := r.now a rwBl
  have hI : ∀ f : Int → Int → Bool, ltI f v w = some u → ∃ i j, x = .int i ∧ y = .int j ∧ Q (.bl (f i j)) H := fun f e => by
    unfold ltI at e
    split at e
    · cases e; exact ⟨_, _, rv, rw', q⟩
    · cases e
  cases o with
  | eq =>
    rcases eqD_cases e with e | e
    · obtain ⟨s, t, rfl, rfl, rfl⟩ := strs_some e
      have ex : x = .str s := rv
      have ey : y = .str t := rw'
      subst ex ey
      exact .inr ⟨rfl, by rw [dec_str]; exact q⟩
    obtain ⟨d, d', e1, e2, o1, o2, rfl⟩ := eqD_some e
    exact .inl ⟨d, d', snap_dp a.hp 4 12 v x d rv e1 o1, snap_dp a.hp 4 12 w y d' rw' e2 o2, shaped_of o1 (by decide), shaped_of o2 (by decide), q⟩
  | ne =>
    obtain ⟨b, e0, rfl⟩ := Option.map_eq_some_iff.mp e
    rcases eqD_cases e0 with e0 | e0
    · obtain ⟨s, t, rfl, rfl, rfl⟩ := strs_some e0
      have ex : x = .str s := rv
      have ey : y = .str t := rw'
      subst ex ey
      exact .inr ⟨rfl, by rw [dec_str]; exact q⟩
    obtain ⟨d, d', e1, e2, o1, o2, rfl⟩ := eqD_some e0
    exact .inl ⟨d, d', snap_dp a.hp 4 12 v x d rv e1 o1, snap_dp a.hp 4 12 w y d' rw' e2 o2, shaped_of o1 (by decide), shaped_of o2 (by decide), q⟩
  | lt => exact hI _ e
  | le => exact hI _ e
  | gt => exact hI _ e
  | ge => exact hI _ e
  | isin =>
    rcases inD_rel a.hp rv rw' e with ⟨d, ds, h1, h2, h3, h4, rfl⟩ | ⟨p, xs, rfl, h1, h2, h3, rfl⟩
    · exact .inl ⟨d, ds, h1, h2, h3, h4, q⟩
    · exact .inr ⟨p, xs, rfl, .inr h1, h2, h3, q⟩
  | notin =>
    obtain ⟨b, e0, rfl⟩ := Option.map_eq_some_iff.mp e
    rcases inD_rel a.hp rv rw' e0 with ⟨d, ds, h1, h2, h3, h4, rfl⟩ | ⟨p, xs, rfl, h1, h2, h3, rfl⟩
    · exact .inl ⟨d, ds, h1, h2, h3, h4, q⟩
    · exact .inr ⟨p, xs, rfl, .inr h1, h2, h3, q⟩
theorem sCmp {o : Cp} {l r : Expr} {da db : Fr → Hm → Option (Val × Hm)} {pos : Pos} (hu : X.A.units + 65 < cLine) (hm : behindInMarks (cpO o) r = false) (ha : PE X l (tD X.K da)) (hb : PE X r (tD X.K db)) :
    PE X (.Compare l [cpO o] [r] pos) (tD X.K fun σ h => (da σ h).bind fun p => (db σ p.2).bind fun q => (cmpV o q.2 p.1 q.1).map fun v => (vb v, q.2)) :=
  peD (pe_cmpR (oCmp hu o) ha hb hm) fun P G ρ σ h τ H Q a r => tD.step a r fun v h1 G1 ρ1 x H1 a1 s p rx _ r1 => tD.step a1 r1 fun w h2 G2 ρ2 y H2 a2 s2 p2 ry _ r2 => cmp_ok a2 (rx.mono s2 p2) ry r2
/-- as a test: what its reading as a value wants -/
theorem RunB.val {m : Option (Val × Hm)} {Q : Bool → Hp → Prop} (r : RunB K P m G ρ Q) : RunV K P m G ρ (fun x H' => ∃ k, x = .bl k ∧ Q k H') := by
  obtain ⟨b, h', e, q⟩ := r
  exact ⟨vb b, h', e, fun G' ρ' H' x s p rh rx => ⟨b, dBl rx, q G' ρ' H' s p rh⟩⟩
theorem ptD {t : TT} {x : Expr} {d : Fr → Hm → Option (Val × Hm)} (p : PT X x t) (h : ∀ (P G : Hp) (ρ : List Addr) (σ : Fr) (h : Hm) (τ : L2.St) (H : Hp) (Q : Bool → Hp → Prop), At K P G ρ σ h τ H → RunB K P (d σ h) G ρ Q → t τ H Q) : PT X x (tDT K d) :=
  PT.imp p fun τ H Q ⟨P, G, ρ, σ, hh, rh, rf, r⟩ => h P G ρ σ hh τ H Q ⟨rh, rf⟩ r
/-- an expression whose test is its value's -/
theorem sTest {x : Expr} {d : Fr → Hm → Option (Val × Hm)} (p : PE X x (tD K d)) (he : ∀ whole, isTrue x X.env whole = (do let v ← whole; standAt x.pos; holding [v] (truthy v))) : PT X x (tDT K d) :=
  ptD (pt_val p he) fun P G ρ σ h τ H Q a r => tD.of a r.val
theorem sCmpT {o : Cp} {l r : Expr} {da db : Fr → Hm → Option (Val × Hm)} {pos : Pos} (hu : X.A.units + 65 < cLine) (hm : behindInMarks (cpO o) r = false) (ha : PE X l (tD X.K da)) (hb : PE X r (tD X.K db)) :
    PT X (.Compare l [cpO o] [r] pos) (tDT X.K fun σ h => (da σ h).bind fun p => (db σ p.2).bind fun q => (cmpV o q.2 p.1 q.1).map fun v => (vb v, q.2)) :=
  ptD (pt_cmpR (oCmp hu o) ha hb hm) fun P G ρ σ h τ H Q a r => tD.step a r.val fun v h1 G1 ρ1 x H1 a1 s p rx _ r1 => tD.step a1 r1 fun w h2 G2 ρ2 y H2 a2 s2 p2 ry _ r2 => cmp_ok a2 (rx.mono s2 p2) ry r2
theorem relN {v : Val} {x : V} (r : RelW K G ρ v x) : decide (x = .non) = v.isNon := by
  cases v with
  | dat d =>
    have r' : RelD G d x := r
    cases d <;> (unfold RelD at r'; first | (subst r'; rfl) | (obtain ⟨_, _, rfl, _⟩ := r'; rfl) | (obtain ⟨_, _, _, rfl, _⟩ := r'; rfl))
  | ref n => obtain ⟨p, _, rfl⟩ := r; rfl
  | scr ns => obtain ⟨p, rfl, _⟩ := r; rfl
theorem sIsN {l : Expr} {da : Fr → Hm → Option (Val × Hm)} {k : Nat} {p1 pos : Pos} (ha : PE X l (tD X.K da)) :
    PE X (.Compare l [.Is] [.Constant .none k p1] pos) (tD X.K fun σ h => (da σ h).map fun p => (vb p.1.isNon, p.2)) :=
  peD (pe_cmp (pc_isN ha)) fun P G ρ σ h τ H Q a r => by
    exact tD.stepM a r fun v h1 G1 ρ1 x H1 a1 s p rx _ r1 => by
      show Q (.bl (decide (x = .non))) H1
      rw [relN rx]
      exact r1.now a1 rwBl
theorem sNotN {l : Expr} {da : Fr → Hm → Option (Val × Hm)} {k : Nat} {p1 pos : Pos} (ha : PE X l (tD X.K da)) :
    PE X (.Compare l [.IsNot] [.Constant .none k p1] pos) (tD X.K fun σ h => (da σ h).map fun p => (vb (!p.1.isNon), p.2)) :=
  peD (pe_cmp (pc_notN ha)) fun P G ρ σ h τ H Q a r => by
    exact tD.stepM a r fun v h1 G1 ρ1 x H1 a1 s p rx _ r1 => by
      show Q (.bl (!decide (x = .non))) H1
      rw [relN rx]
      exact r1.now a1 rwBl
theorem sIsNT {l : Expr} {da : Fr → Hm → Option (Val × Hm)} {k : Nat} {p1 pos : Pos} (ha : PE X l (tD X.K da)) :
    PT X (.Compare l [.Is] [.Constant .none k p1] pos) (tDT X.K fun σ h => (da σ h).map fun p => (vb p.1.isNon, p.2)) :=
  ptD (pt_cmp (pc_isN ha)) fun P G ρ σ h τ H Q a r => by
    have r := r.val
    exact tD.stepM a r fun v h1 G1 ρ1 x H1 a1 s p rx _ r1 => by
      show ∃ c, V.bl (decide (x = .non)) = .bl c ∧ Q c H1
      rw [relN rx]
      exact r1.now a1 rwBl
theorem sNotNT {l : Expr} {da : Fr → Hm → Option (Val × Hm)} {k : Nat} {p1 pos : Pos} (ha : PE X l (tD X.K da)) :
    PT X (.Compare l [.IsNot] [.Constant .none k p1] pos) (tDT X.K fun σ h => (da σ h).map fun p => (vb (!p.1.isNon), p.2)) :=
  ptD (pt_cmp (pc_notN ha)) fun P G ρ σ h τ H Q a r => by
    have r := r.val
    exact tD.stepM a r fun v h1 G1 ρ1 x H1 a1 s p rx _ r1 => by
      show ∃ c, V.bl (!decide (x = .non)) = .bl c ∧ Q c H1
      rw [relN rx]
      exact r1.now a1 rwBl
/-- a < b < c -/
def denChain (o o' : Cp) (da db dc : Fr → Hm → Option (Val × Hm)) : Fr → Hm → Option (Val × Hm) := fun σ h => (da σ h).bind fun p => (db σ p.2).bind fun q => (cmpV o q.2 p.1 q.1).bind fun k =>
      if k then (dc σ q.2).bind fun r => (cmpV o' r.2 q.1 r.1).map fun v => (vb v, r.2) else some (vb false, q.2)
theorem chain_run {o o' : Cp} {da db dc : Fr → Hm → Option (Val × Hm)} {Q : VK} (a : At K P G ρ σ h τ H) (r : RunV K P (denChain o o' da db dc σ h) G ρ Q) : tChain (rCmp K o) (rCmp K o') (tD K da) (tD K db) (tD K dc) τ H Q :=
  tD.step a r fun v h1 G1 ρ1 x H1 a1 s p rx _ r1 => tD.step a1 r1 fun w h2 G2 ρ2 y H2 a2 s2 p2 ry _ r2 => by
    obtain ⟨k, ek, r3⟩ := r2.of_bind
    refine cmp_ok a2 (rx.mono s2 p2) ry ?_
    refine ⟨vb k, h2, by rw [ek]; rfl, fun G3 ρ3 H3 z s3 p3 rh3 rz => ⟨k, dBl rz, ?_⟩⟩
    have a3 := a2.next s3 p3 rh3
    have r3 := r3.more s3 p3
    cases k with
    | true =>
      rw [if_pos rfl] at r3 ⊢
      exact tD.step a3 r3 fun u h4 G4 ρ4 t H4 a4 s4 p4 rt _ r4 => cmp_ok a4 (ry.mono (s3.trans s4) (p3.trans p4)) rt r4
    | false =>
      rw [if_neg (by decide)] at r3 ⊢
      exact r3.now a3 rwBl
theorem sChain {o o' : Cp} {l r q : Expr} {da db dc : Fr → Hm → Option (Val × Hm)} {pos : Pos} (hu : X.A.units + 65 < cLine) (hm : behindInMarks (cpO o') q = false) (ha : PE X l (tD X.K da)) (hb : PE X r (tD X.K db)) (hc : PE X q (tD X.K dc)) :
    PE X (.Compare l [cpO o, cpO o'] [r, q] pos) (tD X.K (denChain o o' da db dc)) := peD (pe_chain (oCmp hu o) (oCmp hu o') ha hb hc (by unfold lastMarks lastMarks; exact hm)) fun P G ρ σ h τ H Q a r => chain_run a r
theorem sChainT {o o' : Cp} {l r q : Expr} {da db dc : Fr → Hm → Option (Val × Hm)} {pos : Pos} (hu : X.A.units + 65 < cLine) (hm : behindInMarks (cpO o') q = false) (ha : PE X l (tD X.K da)) (hb : PE X r (tD X.K db)) (hc : PE X q (tD X.K dc)) :
    PT X (.Compare l [cpO o, cpO o'] [r, q] pos) (tDT X.K (denChain o o' da db dc)) := ptD (pt_chain (oCmp hu o) (oCmp hu o') ha hb hc (by unfold lastMarks lastMarks; exact hm)) fun P G ρ σ h τ H Q a r => chain_run a r.val
end
end Mi
end
/-! ## MiS3 -/
section
set_option maxHeartbeats 1000000
/-! MiS3: further constructs of expressions. -/
namespace Mi
open PySem PySem.Spec PyProof.Rows L2
section
variable {X : Cx} {K : PySem.W.Frag} {P G H : Hp} {ρ : List Addr} {h : Hm} {σ : Fr} {τ : L2.St} {l r q : Expr} {da db dc : Fr → Hm → Option (Val × Hm)} {pos : Pos}
theorem sNeg (ha : PE X l (tD X.K da)) : PE X (.UnaryOp .USub l pos) (tD X.K fun σ h => (da σ h).bind fun p => match p.1 with | .dat (.int i) => some (vi (-i), p.2) | _ => none) :=
  peD (pe_un un_neg ha) fun P G ρ σ h τ H Q a r => tD.step a r fun v h1 G1 ρ1 x H1 a1 s p rx _ r1 => by
    split at r1
    · rename_i i hv
      have e : v = vi i := hv
      subst e
      exact ⟨i, dInt rx, r1.now a1 rwInt⟩
    · exact r1.not
theorem sNot (ha : PE X l (tD X.K da)) : PE X (.UnaryOp .Not l pos) (tD X.K fun σ h => (da σ h).bind fun p => match p.1 with | .dat (.bool b) => some (vb (!b), p.2) | _ => none) :=
  peD (pe_not ha) fun P G ρ σ h τ H Q a r => tD.step a r fun v h1 G1 ρ1 x H1 a1 s p rx _ r1 => by
    split at r1
    · rename_i i hv
      have e : v = vb i := hv
      subst e
      exact ⟨i, dBl rx, r1.now a1 rwBl⟩
    · exact r1.not
theorem sAnd {b : Expr} {rest : List Expr} (ha : PE X l (tD X.K da)) (hb : PE X (.BoolOp .And (b :: rest) pos) (tD X.K db)) : PE X (.BoolOp .And (l :: b :: rest) pos) (tD X.K fun σ h => (da σ h).bind fun p => match p.1 with | .dat (.bool true) => db σ p.2 | .dat (.bool false) => some (vb false, p.2) | _ => none) :=
  peD (pe_and ha hb) fun P G ρ σ h τ H Q a r => tD.step a r fun v h1 G1 ρ1 x H1 a1 s p rx _ r1 => by
    split at r1
    · rename_i hv
      have e : v = vb true := hv
      subst e
      exact ⟨true, dBl rx, by rw [if_pos rfl]; exact tD.of a1 r1⟩
    · rename_i hv
      have e : v = vb false := hv
      subst e
      exact ⟨false, dBl rx, by rw [if_neg (by decide)]; exact r1.now a1 rwBl⟩
    · exact r1.not
theorem sOr {b : Expr} {rest : List Expr} (ha : PE X l (tD X.K da)) (hb : PE X (.BoolOp .Or (b :: rest) pos) (tD X.K db)) : PE X (.BoolOp .Or (l :: b :: rest) pos) (tD X.K fun σ h => (da σ h).bind fun p => match p.1 with | .dat (.bool false) => db σ p.2 | .dat (.bool true) => some (vb true, p.2) | _ => none) :=
  peD (pe_or ha hb) fun P G ρ σ h τ H Q a r => tD.step a r fun v h1 G1 ρ1 x H1 a1 s p rx _ r1 => by
    split at r1
    · rename_i hv
      have e : v = vb false := hv
      subst e
      exact ⟨false, dBl rx, by rw [if_neg (by decide)]; exact tD.of a1 r1⟩
    · rename_i hv
      have e : v = vb true := hv
      subst e
      exact ⟨true, dBl rx, by rw [if_pos rfl]; exact r1.now a1 rwBl⟩
    · exact r1.not
theorem sOne {o : BoolOp} (ha : PE X l (tD X.K da)) : PE X (.BoolOp o [l] pos) (tD X.K da) := pe_one ha
/-! tests -/
theorem tDT.of {d : Fr → Hm → Option (Val × Hm)} {Q : Bool → Hp → Prop} (a : At K P G ρ σ h τ H) (r : RunB K P (d σ h) G ρ Q) : tDT K d τ H Q := ⟨P, G, ρ, σ, h, a.hp, a.fr, r⟩
/-- a test is run first -/
theorem tDT.step {α β : Type} {R : Hp → List Addr → α → β → Prop} {d : Fr → Hm → Option (Val × Hm)} {f : Val × Hm → Option (α × Hm)} {Q : β → Hp → Prop} {Q' : Bool → Hp → Prop} (hf : ∀ v h', (∀ b, v ≠ vb b) → f (v, h') = none) (a : At K P G ρ σ h τ H) (r : Run K P R ((d σ h).bind f) G ρ Q)
    (q : ∀ b h1 G1 ρ1 H1, At K P G1 ρ1 σ h1 τ H1 → Sub G G1 → Pre ρ ρ1 → Run K P R (f (vb b, h1)) G1 ρ1 Q → Q' b H1) : tDT K d τ H Q' := by
  obtain ⟨v, h', e, z⟩ := r
  obtain ⟨⟨w, h1⟩, e1, e2⟩ := Option.bind_eq_some_iff.mp e
  have hb : ∃ b, w = vb b := by
    cases Classical.em (∃ b, w = vb b) with
    | inl y => exact y
    | inr n => rw [hf w h1 fun b eb => n ⟨b, eb⟩] at e2; cases e2
  obtain ⟨b, rfl⟩ := hb
  refine tDT.of a ⟨b, h1, e1, fun G1 ρ1 H1 s p rh => q b h1 G1 ρ1 H1 (a.next s p rh) s p ⟨v, h', e2, fun G2 ρ2 H2 y s2 p2 => z G2 ρ2 H2 y (s.trans s2) (p.trans p2)⟩⟩
theorem RunB.step {d : Fr → Hm → Option (Val × Hm)} {f : Val × Hm → Option (Val × Hm)} {Q : Bool → Hp → Prop} {Q' : Bool → Hp → Prop} (hf : ∀ v h', (∀ b, v ≠ vb b) → f (v, h') = none) (a : At K P G ρ σ h τ H) (r : RunB K P ((d σ h).bind f) G ρ Q)
    (q : ∀ b h1 G1 ρ1 H1, At K P G1 ρ1 σ h1 τ H1 → Sub G G1 → Pre ρ ρ1 → RunB K P (f (vb b, h1)) G1 ρ1 Q → Q' b H1) : tDT K d τ H Q' := by
  obtain ⟨v, h', e, z⟩ := r
  obtain ⟨⟨w, h1⟩, e1, e2⟩ := Option.bind_eq_some_iff.mp e
  have hb : ∃ b, w = vb b := by
    cases Classical.em (∃ b, w = vb b) with
    | inl y => exact y
    | inr n => rw [hf w h1 fun b eb => n ⟨b, eb⟩] at e2; cases e2
  obtain ⟨b, rfl⟩ := hb
  exact tDT.of a ⟨b, h1, e1, fun G1 ρ1 H1 s p rh => q b h1 G1 ρ1 H1 (a.next s p rh) s p ⟨v, h', e2, fun G2 ρ2 H2 s2 p2 => z G2 ρ2 H2 (s.trans s2) (p.trans p2)⟩⟩
theorem RunB.now {b : Bool} {Q : Bool → Hp → Prop} (a : At K P G ρ σ h τ H) (r : RunB K P (some (vb b, h)) G ρ Q) : Q b H := by
  obtain ⟨c, h', e, z⟩ := r
  cases e
  exact z G ρ H Sub.rfl (List.prefix_refl _) a.hp
theorem and_no {β : Type} {f g : Option β} {w : Val} (n : ∀ b, w ≠ vb b) : (match w with | .dat (.bool true) => f | .dat (.bool false) => g | _ => none) = none := by
  split
  · exact absurd rfl (n true)
  · exact absurd rfl (n false)
  · rfl
theorem or_no {β : Type} {f g : Option β} {w : Val} (n : ∀ b, w ≠ vb b) : (match w with | .dat (.bool false) => f | .dat (.bool true) => g | _ => none) = none := by
  split
  · exact absurd rfl (n false)
  · exact absurd rfl (n true)
  · rfl
theorem not_no {β : Type} {f : Bool → Option β} {w : Val} (n : ∀ b, w ≠ vb b) : (match w with | .dat (.bool b) => f b | _ => none) = none := by
  split
  · exact absurd rfl (n _)
  · rfl
theorem pwD {t : TT} {x : Expr} {d : Fr → Hm → Option (Val × Hm)} (p : PW X x t) (h : ∀ (P G : Hp) (ρ : List Addr) (σ : Fr) (h : Hm) (τ : L2.St) (H : Hp) (Q : Bool → Hp → Prop), At K P G ρ σ h τ H → RunB K P (d σ h) G ρ Q → t τ H Q) : PW X x (tDT K d) :=
  PW.imp p fun τ H Q ⟨P, G, ρ, σ, hh, rh, rf, r⟩ => h P G ρ σ hh τ H Q ⟨rh, rf⟩ r
theorem wAnd {b : Expr} {rest : List Expr} (ha : PT X l (tDT X.K da)) (hb : PW X (.BoolOp .And (b :: rest) pos) (tDT X.K db)) : PW X (.BoolOp .And (l :: b :: rest) pos) (tDT X.K fun σ h => (da σ h).bind fun p => match p.1 with | .dat (.bool true) => db σ p.2 | .dat (.bool false) => some (vb false, p.2) | _ => none) :=
  pwD (pw_and ha hb) fun P G ρ σ h τ H Q a r => RunB.step (fun v h' n => and_no n) a r fun b h1 G1 ρ1 H1 a1 s p r1 => by
    cases b with
    | true => rw [if_pos rfl]; exact tDT.of a1 r1
    | false => rw [if_neg (by decide)]; exact r1.now a1
theorem wOr {b : Expr} {rest : List Expr} (ha : PT X l (tDT X.K da)) (hb : PW X (.BoolOp .Or (b :: rest) pos) (tDT X.K db)) : PW X (.BoolOp .Or (l :: b :: rest) pos) (tDT X.K fun σ h => (da σ h).bind fun p => match p.1 with | .dat (.bool false) => db σ p.2 | .dat (.bool true) => some (vb true, p.2) | _ => none) :=
  pwD (pw_or ha hb) fun P G ρ σ h τ H Q a r => RunB.step (fun v h' n => or_no n) a r fun b h1 G1 ρ1 H1 a1 s p r1 => by
    cases b with
    | false => rw [if_neg (by decide)]; exact tDT.of a1 r1
    | true => rw [if_pos rfl]; exact r1.now a1
theorem wNot (ha : PT X l (tDT X.K da)) : PT X (.UnaryOp .Not l pos) (tDT X.K fun σ h => (da σ h).bind fun p => match p.1 with | .dat (.bool b) => some (vb (!b), p.2) | _ => none) :=
  ptD (pt_not ha) fun P G ρ σ h τ H Q a r => RunB.step (fun v h' n => not_no n) a r fun b h1 G1 ρ1 H1 a1 s p r1 => r1.now a1
theorem sIte (hc : PT X q (tDT X.K dc)) (ha : PE X l (tD X.K da)) (hb : PE X r (tD X.K db)) : PE X (.IfExp q l r pos) (tD X.K fun σ h => (dc σ h).bind fun p => match p.1 with | .dat (.bool true) => da σ p.2 | .dat (.bool false) => db σ p.2 | _ => none) :=
  peD (pe_ifExp hc ha hb) fun P G ρ σ h τ H Q a r => tDT.step (fun v h' n => and_no n) a r fun b h1 G1 ρ1 H1 a1 s p r1 => by
    cases b with
    | true => rw [if_pos rfl]; exact tD.of a1 r1
    | false => rw [if_neg (by decide)]; exact tD.of a1 r1
/-! ### arguments, tuples -/
theorem tDA.of {d : Fr → Hm → Option (List Val × Hm)} {Q : List V → Hp → Prop} (a : At K P G ρ σ h τ H) (r : Run K P (RelWs K) (d σ h) G ρ Q) : tDA K d τ H Q := ⟨P, G, ρ, σ, h, a.hp, a.fr, r⟩
theorem paD {t : TA} {es : List Expr} {d : Fr → Hm → Option (List Val × Hm)} (p : PA X es t) (h : ∀ (P G : Hp) (ρ : List Addr) (σ : Fr) (h : Hm) (τ : L2.St) (H : Hp) (Q : List V → Hp → Prop), At K P G ρ σ h τ H → Run K P (RelWs K) (d σ h) G ρ Q → t τ H Q) : PA X es (tDA K d) :=
  PA.imp p fun τ H Q ⟨P, G, ρ, σ, hh, rh, rf, r⟩ => h P G ρ σ hh τ H Q ⟨rh, rf⟩ r
theorem tDA.step {α β : Type} {R : Hp → List Addr → α → β → Prop} {d : Fr → Hm → Option (List Val × Hm)} {f : List Val × Hm → Option (α × Hm)} {Q : β → Hp → Prop} {Q' : List V → Hp → Prop} (a : At K P G ρ σ h τ H) (r : Run K P R ((d σ h).bind f) G ρ Q)
    (q : ∀ v h1 G1 ρ1 x H1, At K P G1 ρ1 σ h1 τ H1 → Sub G G1 → Pre ρ ρ1 → RelWs K G1 ρ1 v x → d σ h = some (v, h1) → Run K P R (f (v, h1)) G1 ρ1 Q → Q' x H1) : tDA K d τ H Q' :=
  tDA.of a ((Run.split a r).mono fun x H1 ⟨v, h1, G1, ρ1, a1, s, p, rx, e, r1⟩ => q v h1 G1 ρ1 x H1 a1 s p rx e r1)
theorem sNil : PA X [] (tDA X.K fun _ h => some ([], h)) := paD pa_nil fun P G ρ σ h τ H Q a r => r.now a .nil
/-- no star -/
def plainB : Expr → Bool
  | .Starred _ _ => false
  | _ => true
theorem star_cons {e : Expr} {es : List Expr} {env : PySem.Env} (h : plainB e = true) : starEach (e :: es) env = (false, eval e env) :: starEach es env := by
  cases e <;> first | rfl | cases h
theorem star_all {env : PySem.Env} : ∀ {es : List Expr}, es.all plainB = true → (starEach es env).all (fun x => !x.1) = true
  | [], _ => rfl
  | e :: es, h => by
    rw [List.all_cons, Bool.and_eq_true] at h
    rw [star_cons h.1, List.all_cons, star_all h.2]; rfl
theorem back_any {env : PySem.Env} {es : List Expr} (h : es.all plainB = true) : (backTo pos (starEach es env)).any (·.1) = false := by
  have h1 := star_all (env := env) h
  unfold backTo
  rw [List.any_map, List.any_eq_false]
  rw [List.all_eq_true] at h1
  intro x hx
  have := h1 x hx
  simpa using this
theorem sCons {es : List Expr} {de : Fr → Hm → Option (List Val × Hm)} (hp : plainB l = true) (ha : PE X l (tD X.K da)) (hr : PA X es (tDA X.K de)) : PA X (l :: es) (tDA X.K fun σ h => (da σ h).bind fun p => (de σ p.2).map fun q => (p.1 :: q.1, q.2)) :=
  paD (pa_cons ha hr (star_cons hp)) fun P G ρ σ h τ H Q a r => tD.step a r fun v h1 G1 ρ1 x H1 a1 s p rx _ r1 => by
    rw [Option.map_eq_bind] at r1
    exact tDA.step a1 r1 fun vs h2 G2 ρ2 xs H2 a2 s2 p2 rxs _ r2 => r2.now a2 (.cons (rx.mono s2 p2) rxs)
theorem dats_rel {vs : List Val} {xs : List V} : ∀ {ds : List PyData}, dats vs = some ds → RelWs K G ρ vs xs → RelDs G ds xs := by
  induction vs generalizing xs with
  | nil =>
    intro ds e r
    cases r
    have : ds = [] := by unfold dats mapO at e; exact (Option.some.inj e).symm
    subst this; unfold RelDs; rfl
  | cons v vs ih =>
    intro ds e r
    cases r with
    | cons r1 r2 =>
      obtain ⟨y, t, e1, e2, rfl⟩ := mapO_cons e
      cases v with
      | dat d =>
        have : d = y := Option.some.inj e1
        subst this
        unfold RelDs
        exact ⟨_, _, rfl, r1, ih e2 r2⟩
      | ref n => cases e1
      | scr ns => cases e1
theorem sTup {es : List Expr} {k : Nat} {de : Fr → Hm → Option (List Val × Hm)} (hr : PA X es (tDA X.K de)) : PE X (.Tuple es k pos) (tD X.K fun σ h => (de σ h).bind fun p => (dats p.1).bind fun ds => if ds.length ≤ sizeLine then some (vt ds, p.2) else none) :=
  peD (peTup hr) fun P G ρ σ h τ H Q a r => tDA.step a r fun vs h1 G1 ρ1 xs H1 a1 s p rxs _ r1 => by
    obtain ⟨ds, e, r2⟩ := r1.of_bind
    split at r2
    · rename_i hz
      have rd := dats_rel e rxs
      have hl := rd.len
      exact ⟨by omega, newT_of a1 r2 (by omega) rd⟩
    · exact r2.not
/-! ### items -/
theorem RelDs.ws {ds : List PyData} {xs : List V} (r : RelDs G ds xs) : RelWs K G ρ (ds.map .dat) xs := Paired.mapL.mp (RelDs.pair.mp r)
/-- what items gives, as it stands -/
theorem items_rel {v : Val} {x : V} {vs : List Val} (rh : RelH K P G ρ h H) (rx : RelW K G ρ v x) (e : items h v = some vs) : ∃ a xs, x = .ref a ∧ xs.length ≤ sizeLine ∧ RelWs K G ρ vs xs ∧ ((isLst h v = true ∧ SqL K H a xs) ∨ (isLst h v = false ∧ SqT K H a xs)) := by
  unfold items at e
  split at e
  · cases e
    obtain ⟨a, us, rfl, q, z, r⟩ := dLst rh rx
    exact ⟨a, us, rfl, z, r.ws, .inl ⟨rfl, .of q⟩⟩
  · cases e
    obtain ⟨a, us, rfl, q, z, r⟩ := dTup rh rx
    exact ⟨a, us, rfl, z, r.ws, .inr ⟨rfl, q⟩⟩
  · rename_i n
    split at e
    · rename_i ws hv
      cases e
      obtain ⟨p, ep, rfl⟩ := rx
      obtain ⟨p', xs, ep', hp, z, q⟩ := rh.lst hv
      rw [ep] at ep'; cases ep'
      exact ⟨p, xs, rfl, z, q, .inl ⟨by show (match h[n]? with | some (.lst _) => true | _ => false) = true; rw [hv], .of hp⟩⟩
    · cases e
  · rename_i ns
    cases e
    obtain ⟨a, rfl, q, z⟩ := rx
    refine ⟨a, ns.map V.int, rfl, by rw [List.length_map]; exact z, ?_, .inl ⟨rfl, sqSub rh.sub q⟩⟩
    clear q z
    induction ns with
    | nil => exact .nil
    | cons n ns ih => exact .cons rwInt ih
  · cases e
theorem atI_rel {vs : List Val} {xs : List V} {i : Int} {v : Val} (r : RelWs K G ρ vs xs) (e : atI vs i = some v) : ∃ x, L2.atI xs i = some x ∧ RelW K G ρ v x := by
  unfold atI at e
  obtain ⟨j, e1, e2⟩ := Option.bind_eq_some_iff.mp e
  obtain ⟨x, e3, rx⟩ := Paired.getL r e2
  refine ⟨x, ?_, rx⟩
  unfold L2.atI
  have hl : vs.length = xs.length := Paired.length r
  rw [show L2.ixN xs.length i = some j by rw [← hl]; exact e1]
  exact e3
theorem subV_some {v w u : Val} (e : subV h v w = some u) : ∃ i vs, w = vi i ∧ items h v = some vs ∧ atI vs i = some u := by
  unfold subV at e
  split at e
  · obtain ⟨vs, e1, e2⟩ := Option.bind_eq_some_iff.mp e
    exact ⟨_, vs, rfl, e1, e2⟩
  · cases e
theorem sSub (hp : ∀ o i, subscripted r false o i = operate [o, i] (getItem o i)) (ha : PE X l (tD X.K da)) (hb : PE X r (tD X.K db)) : PE X (.Subscript l r pos) (tD X.K fun σ h => (da σ h).bind fun p => (db σ p.2).bind fun q => (subV q.2 p.1 q.1).map fun v => (v, q.2)) :=
  peD (pe_ix ix_seq ha hb hp) fun P G ρ σ h τ H Q a r => tD.step a r fun v h1 G1 ρ1 x H1 a1 s p rx _ r1 => tD.step a1 r1 fun w h2 G2 ρ2 y H2 a2 s2 p2 ry _ r2 => by
    obtain ⟨u, e, r3⟩ := r2.of_map
    obtain ⟨i, vs, ew, e1, e2⟩ := subV_some e
    have ew' : w = vi i := ew
    subst ew'
    obtain ⟨b, xs, rfl, z, q, hs⟩ := items_rel a2.hp (rx.mono s2 p2) e1
    obtain ⟨t, e3, rt⟩ := atI_rel q e2
    rcases hs with ⟨_, hs⟩ | ⟨_, hs⟩
    · exact .inl ⟨b, xs, _, t, rfl, dInt ry, hs, e3, r3.now a2 rt⟩
    · exact .inr (.inl ⟨b, xs, _, t, rfl, dInt ry, hs, e3, r3.now a2 rt⟩)
/-! ### slices -/
theorem sIx_eq (n d : Nat) (o : Option Int) : sIx n d o = HT.sIx n d o := by
  cases o with
  | none => rfl
  | some v => rfl
theorem cut_rel {F : PyData → V → Prop} {ds : List PyData} {xs : List V} (r : Paired F ds xs) (lo hi : Option Int) : Paired F (cutL ds lo hi) (cutV xs lo hi) := by
  have hl : ds.length = xs.length := Paired.length r
  unfold cutL cutV
  rw [sIx_eq, sIx_eq, hl]
  exact Paired.takeP _ (Paired.dropP _ r)
theorem cut_relW {vs : List Val} {xs : List V} (r : RelWs K G ρ vs xs) (lo hi : Option Int) : RelWs K G ρ (cutL vs lo hi) (cutV xs lo hi) := by
  have hl : vs.length = xs.length := Paired.length r
  unfold cutL cutV
  rw [sIx_eq, sIx_eq, hl]
  exact Paired.takeP _ (Paired.dropP _ r)
theorem cut_whole {α : Type} {ds : List α} {lo hi : Option Int} (h1 : sIx ds.length 0 lo = 0) (h2 : sIx ds.length ds.length hi = ds.length) : cutL ds lo hi = ds := by
  unfold cutL
  rw [h1, h2, List.drop_zero, Nat.sub_zero, List.take_length]
abbrev RelI (_ : Hp) (_ : List Addr) (v w : Option Int) : Prop := v = w
def tDO (K : PySem.W.Frag) (d : Fr → Hm → Option (Option Int × Hm)) : TO := fun τ H Q => ∃ P G ρ σ h, RelH K P G ρ h H ∧ RelF K G ρ σ τ ∧ Run K P RelI (d σ h) G ρ Q
theorem oNone : PO X none (tDO X.K fun _ h => some (none, h)) := ⟨fun pins s τ H Q I w => by
  obtain ⟨P, G, ρ, σ, h, rh, rf, r⟩ := w
  exact po_none.run pins s τ H Q I (r.now ⟨rh, rf⟩ rfl)⟩
theorem oSome (ha : PE X l (tD X.K da)) : PO X (some l) (tDO X.K fun σ h => (da σ h).bind fun p => match p.1 with | .dat (.int i) => some (some i, p.2) | _ => none) := ⟨fun pins s τ H Q I w => by
  obtain ⟨P, G, ρ, σ, h, rh, rf, r⟩ := w
  refine (po_some ha).run pins s τ H Q I (tD.step ⟨rh, rf⟩ r fun v h1 G1 ρ1 x H1 a1 s p rx _ r1 => ?_)
  split at r1
  · rename_i i hv
    have e : v = vi i := hv
    subst e
    exact ⟨i, dInt rx, r1.now a1 rfl⟩
  · exact r1.not⟩
theorem tDO.step {α β : Type} {R : Hp → List Addr → α → β → Prop} {d : Fr → Hm → Option (Option Int × Hm)} {f : Option Int × Hm → Option (α × Hm)} {Q : β → Hp → Prop} {Q' : Option Int → Hp → Prop} (a : At K P G ρ σ h τ H) (r : Run K P R ((d σ h).bind f) G ρ Q)
    (q : ∀ v h1 G1 ρ1 H1, At K P G1 ρ1 σ h1 τ H1 → Sub G G1 → Pre ρ ρ1 → Run K P R (f (v, h1)) G1 ρ1 Q → Q' v H1) : tDO K d τ H Q' :=
  ⟨P, G, ρ, σ, h, a.hp, a.fr, (Run.split (R' := RelI) a r).mono fun x H1 ⟨v, h1, G1, ρ1, a1, s, p, rx, e, r1⟩ => by have e : v = x := rx; subst e; exact q v h1 G1 ρ1 H1 a1 s p r1⟩
theorem sSlc {lo hi : Option Expr} {dl dh : Fr → Hm → Option (Option Int × Hm)} {p2 : Pos} (ha : PE X l (tD X.K da)) (hl : PO X lo (tDO X.K dl)) (hh : PO X hi (tDO X.K dh)) :
    PE X (.Subscript l (.Slice lo hi none p2) pos) (tD X.K fun σ h => (da σ h).bind fun p => (dl σ p.2).bind fun q => (dh σ q.2).bind fun r => match p.1 with | .dat (.tuple ds) => some (vt (cutL ds q.1 r.1), r.2) | _ => none) :=
  peD (pe_slice slF ha hl hh) fun P G ρ σ h τ H Q a r => tD.step a r fun v h1 G1 ρ1 x H1 a1 s p rx _ r1 => tDO.step a1 r1 fun lo h2 G2 ρ2 H2 a2 s2 p2 r2 => tDO.step a2 r2 fun hi h3 G3 ρ3 H3 a3 s3 p3 r3 => by
    split at r3
    · rename_i ds hv
      have e : v = vt ds := hv
      subst e
      have rx3 := rx.mono (s2.trans s3) (p2.trans p3)
      obtain ⟨b, xs, rfl, q, z, rd⟩ := dTup a3.hp rx3
      have hn := rd.len
      refine ⟨b, xs, rfl, q, fun ⟨w1, w2⟩ => ?_, fun _ => newT_of a3 r3 (Nat.le_trans (cutV_length _ _ _) z) (RelDs.pair.mpr (cut_rel (RelDs.pair.mp rd) _ _))⟩
      rw [← hn, ← sIx_eq] at w1
      rw [← hn, ← sIx_eq] at w2
      have ew : cutL ds lo hi = ds := cut_whole w1 w2
      dsimp only at r3
      rw [ew] at r3
      exact r3.now a3 rx3
    · exact r3.not
/-- *l ahead of other arguments -/
theorem RelWs.app {vs ws : List Val} {xs ys : List V} (r : RelWs K G ρ vs xs) (q : RelWs K G ρ ws ys) : RelWs K G ρ (vs ++ ws) (xs ++ ys) := by
  induction r with
  | nil => exact q
  | cons a _ ih => exact .cons a ih
theorem sStar {es : List Expr} {de : Fr → Hm → Option (List Val × Hm)} (ha : PE X l (tD X.K da)) (hr : PA X es (tDA X.K de)) :
    PA X (.Starred l p0 :: es) (tDA X.K fun σ h => (da σ h).bind fun p => (items p.2 p.1).bind fun vs => (de σ p.2).map fun q => (vs ++ q.1, q.2)) :=
  paD (StX.pa_star ha hr rfl) fun P G ρ σ h τ H Q a r => tD.step a r fun v h1 G1 ρ1 x H1 a1 s p rx _ r1 => by
    obtain ⟨vs, e, r1⟩ := r1.of_bind
    obtain ⟨b, xs, rfl, z, rw0, sq⟩ := items_rel a1.hp rx e
    refine ⟨b, xs, rfl, sq.elim (fun q => .inr q.2) fun q => .inl q.2, ?_⟩
    rw [Option.map_eq_bind] at r1
    exact tDA.step a1 r1 fun ws h2 G2 ρ2 ys H2 a2 s2 p2 rys _ r2 => r2.now a2 (RelWs.app (RelWs.mono s2 p2 rw0) rys)
end
end Mi
end
/-! ## MiS4 -/
section
set_option maxHeartbeats 1000000
/-! MiS4: repr, and the built-in functions. -/
namespace Mi
open PySem PySem.Spec PyProof.Rows L2

theorem listText_le : ∀ (ts : List Str) (k : Nat) (acc : Str), (textFrom k acc ts).length ≤ acc.length + piled ts
  | [], k, acc => by unfold textFrom; rw [piled_nil]; omega
  | t :: ts, k, acc => by
    unfold textFrom
    have h := listText_le ts (k + 1) (acc ++ (if k > 0 then ", " else "" : String) ++ t)
    rw [Str.length_append, Str.length_append] at h
    rw [piled_cons]
    have e : (((if k > 0 then ", " else "" : String) : Str)).length ≤ 2 := by
      split <;> decide
    omega
theorem tupleText_le (ts : List Str) : (tupleText ts).length ≤ piled ts + 3 := by
  unfold tupleText
  rw [Str.length_append, Str.length_append]
  have e1 : (("(" : String) : Str).length = 1 := rfl
  have e2 : (((if ts.length == 1 then ",)" else ")" : String) : Str)).length ≤ 2 := by split <;> decide
  cases ts with
  | nil =>
    have e3 : (Str.join ", " []).length = 0 := rfl
    rw [piled_nil]; omega
  | cons t r =>
    have := join_length_add (t :: r) (by simp)
    omega
mutual
theorem shown_le : ∀ (k : Nat) (d : PyData), rsz k d ≤ 2 ^ 24 → d.shown.length ≤ rsz k d ∧ d.showable = true ∧ d.hasDict = false ∧ d.depth ≤ k
  | 0, _, h => by unfold rsz at h; exact absurd h (by decide)
  | _ + 1, .none, _ => by unfold rsz PyData.shown PyData.showable PyData.hasDict PyData.depth; exact ⟨by decide, rfl, rfl, by omega⟩
  | _ + 1, .bool b, _ => by unfold rsz PyData.shown PyData.showable PyData.hasDict PyData.depth; exact ⟨by cases b <;> decide, rfl, rfl, by omega⟩
  | _ + 1, .int i, h => by
    unfold rsz at h ⊢
    unfold PyData.shown PyData.showable PyData.hasDict PyData.depth
    split at h
    · rename_i hi
      rw [if_pos hi]
      have e := int_text_length_le10 (k := 60) (by decide) hi
      refine ⟨by rw [PySem.ofString_length]; omega, decide_eq_true ?_, rfl, by omega⟩
      by_cases hz : i.natAbs = 0
      · rw [hz]; decide
      · exact (Nat.log2_lt hz).mpr (Nat.lt_trans hi (by decide))
    · exact absurd h (by decide)
  | _ + 1, .str x, h => by
    unfold rsz PyData.shown PyData.showable PyData.hasDict PyData.depth
    exact ⟨Nat.le_refl _, rfl, rfl, by omega⟩
  | k + 1, .list xs, h => by
    unfold rsz at h ⊢
    obtain ⟨h1, h2, h3, h4⟩ := showns_le k xs (by omega)
    unfold PyData.shown PyData.showable PyData.hasDict PyData.depth
    refine ⟨?_, h2, h3, by omega⟩
    unfold listText
    have := listText_le (PyData.shownAll xs) 0 "["
    have e1 : (("[" : String) : Str).length = 1 := rfl
    have e2 : (("]" : String) : Str).length = 1 := rfl
    rw [Str.length_append]
    omega
  | k + 1, .tuple xs, h => by
    unfold rsz at h ⊢
    obtain ⟨h1, h2, h3, h4⟩ := showns_le k xs (by omega)
    unfold PyData.shown PyData.showable PyData.hasDict PyData.depth
    refine ⟨?_, h2, h3, by omega⟩
    have := tupleText_le (PyData.shownAll xs)
    omega
  | _ + 1, .dict _, h => by unfold rsz at h; exact absurd h (by decide)
theorem showns_le : ∀ (k : Nat) (ds : List PyData), (ds.map fun x => rsz k x + 2).sum ≤ 2 ^ 24 → piled (PyData.shownAll ds) ≤ (ds.map fun x => rsz k x + 2).sum ∧ PyData.showableAll ds = true ∧ PyData.hasDictAll ds = false ∧ PyData.depthAll ds ≤ k
  | k, [], _ => by unfold PyData.shownAll PyData.showableAll PyData.hasDictAll PyData.depthAll; exact ⟨by rw [piled_nil]; omega, rfl, rfl, by omega⟩
  | k, d :: ds, h => by
    rw [List.map_cons, List.sum_cons] at h ⊢
    obtain ⟨h1, h2, h3, h4⟩ := shown_le k d (by omega)
    obtain ⟨g1, g2, g3, g4⟩ := showns_le k ds (by omega)
    unfold PyData.shownAll PyData.showableAll PyData.hasDictAll PyData.depthAll
    exact ⟨by rw [piled_cons]; omega, by rw [h2, g2]; rfl, by rw [h3, g3]; rfl, by omega⟩
end

/-! what is small enough for repr has no dict -/
mutual
theorem dp_r {K : PySem.W.Frag} {G H : Hp} (s : Sub G H) : ∀ (k : Nat) (d : PyData) (x : V), rsz k d ≤ 2 ^ 24 → RelD G d x → Dp K H x d
  | 0, _, _, h, _ => by unfold rsz at h; exact absurd h (by decide)
  | _ + 1, .none, _, _, r => by unfold RelD at r; subst r; exact .non
  | _ + 1, .bool _, _, _, r => by unfold RelD at r; subst r; exact .bl _
  | _ + 1, .int _, _, _, r => by unfold RelD at r; subst r; exact .int _
  | _ + 1, .str _, _, _, r => by unfold RelD at r; subst r; exact .str _
  | k + 1, .list ds, x, h, r => by
    unfold rsz at h; unfold RelD at r
    obtain ⟨a, vs, rfl, g, _, q⟩ := r
    exact .lst (.of (s _ _ g)) (dps_r s k ds vs (by omega) q)
  | k + 1, .tuple ds, x, h, r => by
    unfold rsz at h; unfold RelD at r
    obtain ⟨a, o, vs, rfl, g, _, _, q⟩ := r
    exact .tup (.inl (.inr ⟨o, s _ _ g⟩)) (dps_r s k ds vs (by omega) q)
  | _ + 1, .dict _, _, h, _ => by unfold rsz at h; exact absurd h (by decide)
theorem dps_r {K : PySem.W.Frag} {G H : Hp} (s : Sub G H) : ∀ (k : Nat) (ds : List PyData) (xs : List V), (ds.map fun x => rsz k x + 2).sum ≤ 2 ^ 24 → RelDs G ds xs → DpAll K H xs ds
  | _, [], _, _, r => by unfold RelDs at r; subst r; exact .nil
  | k, d :: ds, xs, h, r => by
    rw [List.map_cons, List.sum_cons] at h
    unfold RelDs at r
    obtain ⟨v, q, rfl, r1, r2⟩ := r
    exact .cons (dp_r s k d v (by omega) r1) (dps_r s k ds q (by omega) r2)
end
theorem snap_dp_r {K : PySem.W.Frag} {P G H : Hp} {ρ : List Addr} {h : Hm} (rh : RelH K P G ρ h H) : ∀ (n : Nat) (k : Nat) (v : Val) (x : V) (d : PyData), RelW K G ρ v x → snap n h v = some d → rsz k d ≤ 2 ^ 24 → Dp K H x d
  | n, k, .dat d, x, d', r, e, ok => by
    have : d = d' := by cases n <;> exact Option.some.inj e
    subst this
    exact dp_r rh.sub k d x ok r
  | n, k, .scr ns, x, d, r, e, ok => by cases n <;> cases e
  | 0, k, .ref a, x, d, r, e, ok => by cases e
  | n + 1, k, .ref a, x, d, r, e, ok => by
    obtain ⟨p, ep, rfl⟩ := r
    unfold snap at e
    split at e
    · rename_i vs hv
      obtain ⟨ds, e1, rfl⟩ := Option.map_eq_some_iff.mp e
      obtain ⟨p', xs, ep', hp, -, q⟩ := rh.lst hv
      rw [ep] at ep'; cases ep'
      cases k with
      | zero => unfold rsz at ok; exact absurd ok (by decide)
      | succ k =>
        unfold rsz at ok
        refine .lst (.of hp) ?_
        clear e hv hp
        induction vs generalizing xs ds with
        | nil =>
          cases q
          have : ds = [] := by unfold mapO at e1; exact (Option.some.inj e1).symm
          subst this; exact .nil
        | cons v vs ih =>
          cases q with
          | cons r1 r2 =>
            obtain ⟨y, rr, f1, f2, rfl⟩ := mapO_cons e1
            rw [List.map_cons, List.sum_cons] at ok
            exact .cons (snap_dp_r rh n k v _ y r1 f1 (by omega)) (ih _ f2 _ r2 (by omega))
    · cases e

section
variable {X : Cx} {K : PySem.W.Frag} {P G H : Hp} {ρ : List Addr} {h : Hm} {σ : Fr} {τ : L2.St} {l r q : Expr} {da db dc : Fr → Hm → Option (Val × Hm)} {pos : Pos}
def rRepr (K : PySem.W.Frag) : List V → Hp → VK → Prop := fun xs H Q => ∃ x d k, xs = [x] ∧ Dp K H x d ∧ rsz k d ≤ 2 ^ 24 ∧ k ≤ 12 ∧ Q (.str d.shown) H
theorem cRepr (hg : X.A.guards = some []) (hu : X.A.units + 65 < cLine) : CallR X (.builtin "repr") (rRepr X.K) := by
  intro pins s τ H xs us Q I r w
  obtain ⟨x, d, k, rfl, hd, hz, hk, q⟩ := w
  cases r with
  | cons r0 r1 =>
    cases r1
    obtain ⟨h1, h2, h3, h4⟩ := shown_le k d hz
    have hsz : d.shown.length ≤ sizeLine := by
      have : sizeLine = 2 ^ 24 := rfl
      omega
    have done : ∀ (u : Nat) (tk : Nat) (h' : Heap), (∀ b o, s.heap.get? b = some o → h'.get? b = some o) → EP X pins τ Q (.str d.shown u) { s with heap := h', toks := tk } :=
      fun u tk h' k => ⟨.str d.shown, H, I.kept k, ⟨_, rfl⟩, q⟩
    have fin : ∀ {u : Value} {a : Addr}, u = .ref a → (∃ as, Reads s.heap u d as) → wpAny (model X.prog X.w) X.A (call (.builtin "repr") [u]) (EP X pins τ Q) X.xe s := fun {u a} eu ⟨as, hr⟩ => by
      subst eu
      exact repr_of_reads' hr h2 (fun z => by rw [h3] at z; cases z) hg (by omega) (fun _ _ e => e) (fun h' u tk k => done u tk h' k) hsz
    have hrd := Dp.reads I d x _ hd r0
    cases hd with
    | non => cases r0; unfold PyData.shown at done; exact P.repr_of_none (done _ _ _ fun _ _ e => e)
    | bl b => cases r0; unfold PyData.shown at done; exact P.repr_of_bool (done _ _ _ fun _ _ e => e)
    | int i => obtain ⟨t, rfl⟩ := r0; unfold PyData.shown at done; unfold PyData.showable at h2; exact P.repr_of_int (of_decide_eq_true h2) (done _ _ _ fun _ _ e => e)
    | str i => obtain ⟨t, rfl⟩ := r0; unfold PyData.shown at done hsz; exact P.repr_of_str (done _ _ _ fun _ _ e => e) hsz
    | lst _ _ => cases r0; exact fin rfl hrd
    | tup _ _ => cases r0; exact fin rfl hrd
/-! ### ints and bools in lists -/
theorem ints_rel {vs : List Val} {xs : List V} : ∀ {ns : List Int}, intsV vs = some ns → RelWs K G ρ vs xs → xs = ns.map V.int := by
  induction vs generalizing xs with
  | nil =>
    intro ns e r
    cases r
    have : ns = [] := by unfold intsV mapO at e; exact (Option.some.inj e).symm
    subst this; rfl
  | cons v vs ih =>
    intro ns e r
    cases r with
    | cons r1 r2 =>
      obtain ⟨y, t, e1, e2, rfl⟩ := mapO_cons e
      have ev : v = vi y := by
        split at e1
        · cases e1; rfl
        · cases e1
      subst ev
      rw [ih e2 r2, dInt r1]; rfl
theorem bools_rel {vs : List Val} {xs : List V} : ∀ {ns : List Bool}, boolsV vs = some ns → RelWs K G ρ vs xs → xs = ns.map V.bl := by
  induction vs generalizing xs with
  | nil =>
    intro ns e r
    cases r
    have : ns = [] := by unfold boolsV mapO at e; exact (Option.some.inj e).symm
    subst this; rfl
  | cons v vs ih =>
    intro ns e r
    cases r with
    | cons r1 r2 =>
      obtain ⟨y, t, e1, e2, rfl⟩ := mapO_cons e
      have ev : v = vb y := by
        split at e1
        · cases e1; rfl
        · cases e1
      subst ev
      rw [ih e2 r2, dBl r1]; rfl
theorem foldl_min_le : ∀ (xs : List Int) (x : Int), xs.foldl min x ≤ x ∧ (∀ y ∈ xs, xs.foldl min x ≤ y) ∧ (xs.foldl min x = x ∨ xs.foldl min x ∈ xs)
  | [], x => ⟨Int.le_refl _, (fun _ h => nomatch h), .inl rfl⟩
  | y :: ys, x => by
    rw [List.foldl_cons]
    obtain ⟨h1, h2, h3⟩ := foldl_min_le ys (min x y)
    refine ⟨by omega, fun z hz => ?_, ?_⟩
    · rcases List.mem_cons.mp hz with rfl | hz
      · omega
      · exact h2 z hz
    · rcases h3 with h3 | h3
      · rw [h3]
        by_cases hxy : x ≤ y
        · left; omega
        · right; rw [show min x y = y by omega]; exact List.mem_cons_self
      · right; exact List.mem_cons_of_mem _ h3
theorem foldl_max_le : ∀ (xs : List Int) (x : Int), x ≤ xs.foldl max x ∧ (∀ y ∈ xs, y ≤ xs.foldl max x) ∧ (xs.foldl max x = x ∨ xs.foldl max x ∈ xs)
  | [], x => ⟨Int.le_refl _, (fun _ h => nomatch h), .inl rfl⟩
  | y :: ys, x => by
    rw [List.foldl_cons]
    obtain ⟨h1, h2, h3⟩ := foldl_max_le ys (max x y)
    refine ⟨by omega, fun z hz => ?_, ?_⟩
    · rcases List.mem_cons.mp hz with rfl | hz
      · omega
      · exact h2 z hz
    · rcases h3 with h3 | h3
      · rw [h3]
        by_cases hxy : y ≤ x
        · left; omega
        · right; rw [show max x y = y by omega]; exact List.mem_cons_self
      · right; exact List.mem_cons_of_mem _ h3
theorem minL_eq {ns : List Int} {m a : Int} (e : minL ns = some a) (h1 : m ∈ ns) (h2 : ∀ y ∈ ns, m ≤ y) : m = a := by
  cases ns with
  | nil => cases e
  | cons x xs =>
    have ea : xs.foldl min x = a := Option.some.inj e
    obtain ⟨g1, g2, g3⟩ := foldl_min_le xs x
    rw [ea] at g1 g2 g3
    have k1 : a ≤ m := by
      rcases List.mem_cons.mp h1 with rfl | z
      · exact g1
      · exact g2 m z
    have k2 : m ≤ a := by
      rcases g3 with z | z
      · exact h2 a (by rw [z]; exact List.mem_cons_self)
      · exact h2 a (List.mem_cons_of_mem _ z)
    omega
theorem maxL_eq {ns : List Int} {m a : Int} (e : maxL ns = some a) (h1 : m ∈ ns) (h2 : ∀ y ∈ ns, y ≤ m) : m = a := by
  cases ns with
  | nil => cases e
  | cons x xs =>
    have ea : xs.foldl max x = a := Option.some.inj e
    obtain ⟨g1, g2, g3⟩ := foldl_max_le xs x
    rw [ea] at g1 g2 g3
    have k1 : m ≤ a := by
      rcases List.mem_cons.mp h1 with rfl | z
      · exact g1
      · exact g2 m z
    have k2 : a ≤ m := by
      rcases g3 with z | z
      · exact h2 a (by rw [z]; exact List.mem_cons_self)
      · exact h2 a (List.mem_cons_of_mem _ z)
    omega
/-! ### the built-in functions: what each rule wants -/
def isiT : Bi → Option String
  | .isInt => some "int" | .isBool => some "bool" | .isTuple => some "tuple" | .isStr => some "str" | .isList => some "list" | _ => none
def rBi (K : PySem.W.Frag) : Bi → List V → Hp → VK → Prop
  | .len => fun xs H Q => ∃ p ys, xs = [.ref p] ∧ (SqL K H p ys ∨ SqT K H p ys) ∧ Q (.int ys.length) H
  | .abs => fun xs H Q => ∃ i, xs = [.int i] ∧ Q (.int (if i < 0 then -i else i)) H
  | .tuple => rTup K
  | .min => fun xs H Q => rMin K xs H Q ∨ ∃ i j, xs = [.int i, .int j] ∧ Q (.int (if j < i then j else i)) H
  | .max => fun xs H Q => rMax K xs H Q ∨ ∃ i j, xs = [.int i, .int j] ∧ Q (.int (if j > i then j else i)) H
  | .sum => rSum K
  | .any => rAny K
  | .all => rAll K
  | .repr => rRepr K
  | .int => fun xs H Q => (∃ i, xs = [.int i] ∧ Q (.int i) H) ∨ ∃ k, xs = [.bl k] ∧ Q (.int (if k then 1 else 0)) H
  | b => fun xs H Q => ∃ T, isiT b = some T ∧ rIsi K (xs ++ [.ty T]) H Q
/-- a datum's type, by its name -/
def tyD : PyData → String
  | .none => "NoneType" | .bool _ => "bool" | .int _ => "int" | .str _ => "str" | .list _ => "list" | .tuple _ => "tuple" | .dict _ => "dict"
theorem tyX_of {d : PyData} {x : V} (s : Sub G H) (r : RelD G d x) : TyX K H x (.type (tyD d)) := by
  cases d <;> unfold RelD at r
  · subst r; exact .base .non
  · subst r; exact .base (.bl _)
  · subst r; exact .base (.int _)
  · subst r; exact .base (.str _)
  · obtain ⟨a, vs, rfl, g, _⟩ := r; exact .base (.lst (s _ _ g))
  · obtain ⟨a, o, vs, rfl, g, _⟩ := r; exact .fTuple (s _ _ g)
  · obtain ⟨a, o, kvs, rfl, g, _⟩ := r
    exact .fDict (s _ _ g)
theorem isi_ok {d : PyData} {x : V} {T : String} {b : Bool} {Q : VK} (s : Sub G H) (r : RelD G d x) (e : kitB (tyD d) T = some b) (q : Q (.bl b) H) : rIsi K ([x] ++ [.ty T]) H Q :=
  ⟨x, .ty T, .type (tyD d), .type T, b, rfl, .ty T, tyX_of s r, kit_ty e, q⟩
theorem dats_map : ∀ {l m : List PyData}, dats (l.map .dat) = some m → l = m
  | [], m, em => by unfold dats mapO at em; exact Option.some.inj em
  | y :: ys, m, em => by
    obtain ⟨y', t, f1, f2, rfl⟩ := mapO_cons em
    have := dats_map f2
    cases f1
    rw [this]
theorem items_notLst {v : Val} {ws : List Val} {ds : List PyData} (e1 : items h v = some ws) (hn : isLst h v = false) (e3 : dats ws = some ds) : v = vt ds := by
  unfold items at e1
  split at e1
  · unfold isLst at hn; cases hn
  · cases e1
    rw [dats_map e3]
  · rename_i n
    split at e1
    · rename_i hv
      have : isLst h (.ref n) = true := by show (match h[n]? with | some (.lst _) => true | _ => false) = true; rw [hv]
      rw [this] at hn; cases hn
    · cases e1
  · unfold isLst at hn; cases hn
  · cases e1
theorem kit_i : ∀ d : PyData, kitB (tyD d) "int" = some (dInt? d)
  | .none => (by decide +kernel : kitB "NoneType" "int" = some false)
  | .bool _ => (by decide +kernel : kitB "bool" "int" = some true)
  | .int _ => (by decide +kernel : kitB "int" "int" = some true)
  | .str _ => (by decide +kernel : kitB "str" "int" = some false)
  | .list _ => (by decide +kernel : kitB "list" "int" = some false)
  | .tuple _ => (by decide +kernel : kitB "tuple" "int" = some false)
  | .dict _ => (by decide +kernel : kitB "dict" "int" = some false)
theorem kit_b : ∀ d : PyData, kitB (tyD d) "bool" = some (dBool? d)
  | .none => (by decide +kernel : kitB "NoneType" "bool" = some false)
  | .bool _ => (by decide +kernel : kitB "bool" "bool" = some true)
  | .int _ => (by decide +kernel : kitB "int" "bool" = some false)
  | .str _ => (by decide +kernel : kitB "str" "bool" = some false)
  | .list _ => (by decide +kernel : kitB "list" "bool" = some false)
  | .tuple _ => (by decide +kernel : kitB "tuple" "bool" = some false)
  | .dict _ => (by decide +kernel : kitB "dict" "bool" = some false)
theorem kit_t : ∀ d : PyData, kitB (tyD d) "tuple" = some (dTup? d)
  | .none => (by decide +kernel : kitB "NoneType" "tuple" = some false)
  | .bool _ => (by decide +kernel : kitB "bool" "tuple" = some false)
  | .int _ => (by decide +kernel : kitB "int" "tuple" = some false)
  | .str _ => (by decide +kernel : kitB "str" "tuple" = some false)
  | .list _ => (by decide +kernel : kitB "list" "tuple" = some false)
  | .tuple _ => (by decide +kernel : kitB "tuple" "tuple" = some true)
  | .dict _ => (by decide +kernel : kitB "dict" "tuple" = some false)
theorem kit_s : ∀ d : PyData, kitB (tyD d) "str" = some (dStr? d)
  | .none => (by decide +kernel : kitB "NoneType" "str" = some false)
  | .bool _ => (by decide +kernel : kitB "bool" "str" = some false)
  | .int _ => (by decide +kernel : kitB "int" "str" = some false)
  | .str _ => (by decide +kernel : kitB "str" "str" = some true)
  | .list _ => (by decide +kernel : kitB "list" "str" = some false)
  | .tuple _ => (by decide +kernel : kitB "tuple" "str" = some false)
  | .dict _ => (by decide +kernel : kitB "dict" "str" = some false)
theorem kit_l : ∀ d : PyData, kitB (tyD d) "list" = some (dLst? d)
  | .none => (by decide +kernel : kitB "NoneType" "list" = some false)
  | .bool _ => (by decide +kernel : kitB "bool" "list" = some false)
  | .int _ => (by decide +kernel : kitB "int" "list" = some false)
  | .str _ => (by decide +kernel : kitB "str" "list" = some false)
  | .list _ => (by decide +kernel : kitB "list" "list" = some true)
  | .tuple _ => (by decide +kernel : kitB "tuple" "list" = some false)
  | .dict _ => (by decide +kernel : kitB "dict" "list" = some false)
theorem bi_ok {b : Bi} {vs : List Val} {xs : List V} {Q : VK} (a : At K P G ρ σ h τ H) (rv : RelWs K G ρ vs xs) (r : RunV K P ((biV b h vs).map fun v => (v, h)) G ρ Q) : rBi K b xs H Q := by
  obtain ⟨u, e, r⟩ := r.of_map
  unfold biV at e
  split at e
  · cases rv with | cons r0 r1 =>
    cases r1
    obtain ⟨ws, e1, rfl⟩ := Option.map_eq_some_iff.mp e
    obtain ⟨p, xs, rfl, z, q, hs⟩ := items_rel a.hp r0 e1
    have hl : ws.length = xs.length := Paired.length q
    refine ⟨p, xs, rfl, hs.elim (fun y => .inl y.2) (fun y => .inr y.2), ?_⟩
    rw [← hl]
    exact r.now a rwInt
  · cases rv with | cons r0 r1 =>
    cases r1; cases e
    exact ⟨_, by rw [dInt r0], r.now a rwInt⟩
  · cases rv with | cons r0 r1 =>
    cases r1
    obtain ⟨ws, e1, e2⟩ := Option.bind_eq_some_iff.mp e
    obtain ⟨ds, e3, rfl⟩ := Option.map_eq_some_iff.mp e2
    obtain ⟨p, xs, rfl, z, q, hs⟩ := items_rel a.hp r0 e1
    have rd := dats_rel e3 q
    rcases hs with ⟨_, hs⟩ | ⟨hn, hs⟩
    · exact ⟨p, xs, rfl, .inl ⟨hs, newT_of a r z rd⟩⟩
    · refine ⟨p, xs, rfl, .inr ⟨hs, ?_⟩⟩
      rw [items_notLst e1 hn e3] at r0
      exact r.now a r0
  · cases rv with | cons r0 r1 =>
    cases r1
    split at e
    · rename_i hl
      obtain ⟨ws, e1, e2⟩ := Option.bind_eq_some_iff.mp e
      obtain ⟨ns, e3, e4⟩ := Option.bind_eq_some_iff.mp e2
      obtain ⟨m, e5, rfl⟩ := Option.map_eq_some_iff.mp e4
      obtain ⟨p, xs, rfl, z, q, hs⟩ := items_rel a.hp r0 e1
      have ex := ints_rel e3 q
      subst ex
      rcases hs with ⟨_, hs⟩ | ⟨hn, _⟩
      · refine .inl ⟨p, ns, rfl, hs, ?_, fun m' h1 h2 => ?_⟩
        · cases ns with
          | nil => cases e5
          | cons _ _ => exact Nat.succ_pos _
        · rw [minL_eq e5 h1 h2]; exact r.now a rwInt
      · rw [hl] at hn; cases hn
    · cases e
  · cases rv with | cons r0 r1 =>
    cases r1
    split at e
    · rename_i hl
      obtain ⟨ws, e1, e2⟩ := Option.bind_eq_some_iff.mp e
      obtain ⟨ns, e3, e4⟩ := Option.bind_eq_some_iff.mp e2
      obtain ⟨m, e5, rfl⟩ := Option.map_eq_some_iff.mp e4
      obtain ⟨p, xs, rfl, z, q, hs⟩ := items_rel a.hp r0 e1
      have ex := ints_rel e3 q
      subst ex
      rcases hs with ⟨_, hs⟩ | ⟨hn, _⟩
      · refine .inl ⟨p, ns, rfl, hs, ?_, fun m' h1 h2 => ?_⟩
        · cases ns with
          | nil => cases e5
          | cons _ _ => exact Nat.succ_pos _
        · rw [maxL_eq e5 h1 h2]; exact r.now a rwInt
      · rw [hl] at hn; cases hn
    · cases e
  · cases rv with | cons r0 r1 =>
    cases r1 with | cons r2 r3 =>
    cases r3; cases e
    exact .inr ⟨_, _, by rw [dInt r0, dInt r2], r.now a rwInt⟩
  · cases rv with | cons r0 r1 =>
    cases r1 with | cons r2 r3 =>
    cases r3; cases e
    exact .inr ⟨_, _, by rw [dInt r0, dInt r2], r.now a rwInt⟩
  · cases rv with | cons r0 r1 =>
    cases r1
    split at e
    · rename_i hl
      obtain ⟨ws, e1, e2⟩ := Option.bind_eq_some_iff.mp e
      obtain ⟨ns, e3, rfl⟩ := Option.map_eq_some_iff.mp e2
      obtain ⟨p, xs, rfl, z, q, hs⟩ := items_rel a.hp r0 e1
      have ex := ints_rel e3 q
      subst ex
      rcases hs with ⟨_, hs⟩ | ⟨hn, _⟩
      · exact ⟨p, ns, rfl, hs, r.now a rwInt⟩
      · rw [hl] at hn; cases hn
    · cases e
  · cases rv with | cons r0 r1 =>
    cases r1
    split at e
    · rename_i hl
      obtain ⟨ws, e1, e2⟩ := Option.bind_eq_some_iff.mp e
      obtain ⟨ns, e3, rfl⟩ := Option.map_eq_some_iff.mp e2
      obtain ⟨p, xs, rfl, z, q, hs⟩ := items_rel a.hp r0 e1
      have ex := bools_rel e3 q
      subst ex
      rcases hs with ⟨_, hs⟩ | ⟨hn, _⟩
      · exact ⟨p, ns, rfl, hs, r.now a rwBl⟩
      · rw [hl] at hn; cases hn
    · cases e
  · cases rv with | cons r0 r1 =>
    cases r1
    split at e
    · rename_i hl
      obtain ⟨ws, e1, e2⟩ := Option.bind_eq_some_iff.mp e
      obtain ⟨ns, e3, rfl⟩ := Option.map_eq_some_iff.mp e2
      obtain ⟨p, xs, rfl, z, q, hs⟩ := items_rel a.hp r0 e1
      have ex := bools_rel e3 q
      subst ex
      rcases hs with ⟨_, hs⟩ | ⟨hn, _⟩
      · exact ⟨p, ns, rfl, hs, r.now a rwBl⟩
      · rw [hl] at hn; cases hn
    · cases e
  · cases rv with | cons r0 r1 =>
    cases r1
    obtain ⟨d, e1, e2⟩ := Option.bind_eq_some_iff.mp e
    split at e2
    · rename_i hz
      cases e2
      exact ⟨_, d, 12, rfl, snap_dp_r a.hp 4 12 _ _ d r0 e1 hz, hz, by decide, r.now a rwStr⟩
    · cases e2
  · cases rv with | cons r0 r1 =>
    cases r1; cases e
    exact .inl ⟨_, by rw [dInt r0], r.now a rwInt⟩
  · cases rv with | cons r0 r1 =>
    cases r1; cases e
    exact .inr ⟨_, by rw [dBl r0], r.now a rwInt⟩
  · cases rv with | cons r0 r1 =>
    cases r1; cases e
    exact ⟨"int", rfl, isi_ok a.hp.sub r0 (kit_i _) (r.now a rwBl)⟩
  · cases rv with | cons r0 r1 =>
    cases r1; cases e
    exact ⟨"bool", rfl, isi_ok a.hp.sub r0 (kit_b _) (r.now a rwBl)⟩
  · cases rv with | cons r0 r1 =>
    cases r1; cases e
    exact ⟨"tuple", rfl, isi_ok a.hp.sub r0 (kit_t _) (r.now a rwBl)⟩
  · cases rv with | cons r0 r1 =>
    cases r1; cases e
    exact ⟨"str", rfl, isi_ok a.hp.sub r0 (kit_s _) (r.now a rwBl)⟩
  · cases rv with | cons r0 r1 =>
    cases r1; cases e
    exact ⟨"list", rfl, isi_ok a.hp.sub r0 (kit_l _) (r.now a rwBl)⟩
  · cases e
end
end Mi
end
/-! ## MiS5 -/
section
set_option maxHeartbeats 1000000
/-! MiS5: calls of built-in functions and methods; new lists. -/
namespace Mi
open PySem PySem.Spec PyProof.Rows L2
section
variable {X : Cx} {K : PySem.W.Frag} {P G H : Hp} {ρ : List Addr} {h : Hm} {σ : Fr} {τ : L2.St} {l r q : Expr} {da db dc : Fr → Hm → Option (Val × Hm)} {pos p0 : Pos}
theorem peNone {x : Expr} {d : Fr → Hm → Option (Val × Hm)} (e : ∀ σ h, d σ h = none) : PE X x (tD K d) := ⟨fun pins s τ H Q I w => by
  obtain ⟨P, G, ρ, σ, h, _, _, r⟩ := w
  rw [e] at r
  exact r.not⟩
/-- the context of the built-in functions -/
structure BiOk (X : Cx) : Prop where
  calm : X.calm = true
  gd : X.A.guards = some []
  un : X.A.units + 65 < cLine
theorem sBi {b : Bi} {e : Expr} {es : List Expr} {de : Fr → Hm → Option (List Val × Hm)} (B : BiOk X) (hb : isiT b = none) (hg : Gl X (biN b)) (hm : X.mg (biN b) = none) (hp : (e :: es).all plainB = true) (ha : PA X (e :: es) (tDA X.K de)) :
    PE X (.Call (.Name (biN b) p0) (e :: es) [] pos) (tD X.K fun σ h => (de σ h).bind fun p => (biV b p.2 p.1).map fun v => (v, p.2)) := by
  have h1 : starEach (e :: es) X.env = (false, eval e X.env) :: starEach es X.env := star_cons (by rw [List.all_cons, Bool.and_eq_true] at hp; exact hp.1)
  have h2 : (backTo pos (starEach es X.env)).any (·.1) = false := back_any (by rw [List.all_cons, Bool.and_eq_true] at hp; exact hp.2)
  have fin : ∀ {t : TE}, PE X (.Call (.Name (biN b) p0) (e :: es) [] pos) t → (∀ τ H Q, tCB (rBi X.K b) (tDA X.K de) τ H Q → t τ H Q) → PE X (.Call (.Name (biN b) p0) (e :: es) [] pos) (tD X.K fun σ h => (de σ h).bind fun p => (biV b p.2 p.1).map fun v => (v, p.2)) :=
    fun p hq => peD p fun P G ρ σ h τ H Q a r => hq τ H Q (tDA.step a r fun vs h1 G1 ρ1 xs H1 a1 s p rxs _ r1 => bi_ok a1 rxs r1)
  cases b with
  | len => exact fin (pe_callB call_len_seq hg hm (by decide +kernel) ha (by decide) (by decide) h1 h2) fun _ _ _ z => z
  | abs => exact fin (pe_callB call_abs hg hm (by decide +kernel) ha (by decide) (by decide) h1 h2) fun _ _ _ z => z
  | tuple => exact fin (pe_callTy cTup hg hm (by decide +kernel) ha (by decide) (by decide) h1 h2) fun _ _ _ z => z
  | min => exact fin (pe_callB ((cr_min B.calm).or (call_min2 B.calm)) hg hm (by decide +kernel) ha (by decide) (by decide) h1 h2) fun _ _ _ z => z
  | max => exact fin (pe_callB ((cr_max B.calm).or (call_max2 B.calm)) hg hm (by decide +kernel) ha (by decide) (by decide) h1 h2) fun _ _ _ z => z
  | sum => exact fin (pe_callB (cr_sum B.calm) hg hm (by decide +kernel) ha (by decide) (by decide) h1 h2) fun _ _ _ z => z
  | any => exact fin (pe_callB (cr_any B.calm) hg hm (by decide +kernel) ha (by decide) (by decide) h1 h2) fun _ _ _ z => z
  | all => exact fin (pe_callB (cr_all B.calm) hg hm (by decide +kernel) ha (by decide) (by decide) h1 h2) fun _ _ _ z => z
  | repr => exact fin (pe_callB (cRepr B.gd B.un) hg hm (by decide +kernel) ha (by decide) (by decide) h1 h2) fun _ _ _ z => z
  | int => exact fin (pe_callTy call_int1 hg hm (by decide +kernel) ha (by decide) (by decide) h1 h2) fun _ _ _ z => z
  | isInt => cases hb
  | isBool => cases hb
  | isTuple => cases hb
  | isStr => cases hb
  | isList => cases hb
/-- isinstance(e, T) -/
theorem sIsi {b : Bi} {e : Expr} {T : String} {y : Str} {pT : Pos} (hb : isiT b = some T) (hg : Gl X "isinstance") (hm : X.mg "isinstance" = none) (hgT : Gl X y) (hmT : X.mg y = none) (hy : bootBuiltins y = some (.type T)) (hyn : y ≠ "__name__") (hyd : (y == ("__debug__" : Str)) = false) (hp : plainB e = true) (ha : PE X e (tD X.K da)) :
    PE X (.Call (.Name "isinstance" p0) [e, .Name y pT] [] pos) (tD X.K fun σ h => (da σ h).bind fun p => (biV b p.2 [p.1]).map fun v => (v, p.2)) := by
  have pT : PE X (.Name y pT) (tC (.ty T)) := pe_bltn hgT hmT hy rfl hyn hyd
  refine peD (pe_callB call_isi hg hm (by decide +kernel) (pa_cons ha (pa_cons pT pa_nil rfl) (star_cons hp)) (by decide) (by decide) (star_cons hp) rfl) fun P G ρ σ h τ H Q a r => ?_
  refine tD.step a r fun v h1 G1 ρ1 x H1 a1 s p rx _ r1 => ?_
  have q := bi_ok a1 (.cons rx .nil) r1
  show rIsi X.K [x, .ty T] H1 Q
  cases b with
  | isInt => obtain ⟨T', e1, q⟩ := q; cases (e1.symm.trans hb); exact q
  | isBool => obtain ⟨T', e1, q⟩ := q; cases (e1.symm.trans hb); exact q
  | isTuple => obtain ⟨T', e1, q⟩ := q; cases (e1.symm.trans hb); exact q
  | isStr => obtain ⟨T', e1, q⟩ := q; cases (e1.symm.trans hb); exact q
  | isList => obtain ⟨T', e1, q⟩ := q; cases (e1.symm.trans hb); exact q
  | len => cases hb
  | abs => cases hb
  | tuple => cases hb
  | min => cases hb
  | max => cases hb
  | sum => cases hb
  | any => cases hb
  | all => cases hb
  | repr => cases hb
  | int => cases hb
/-! ### methods -/
theorem attr_base {e : Expr} {n : Str} (hb : baseB e = true) : attributeBase e n X.env (eval e X.env) = eval e X.env := by
  unfold attributeBase
  split
  · cases hb
  · rfl
def rRemD (K : PySem.W.Frag) : V → List V → Hp → VK → Prop := fun x xs H Q => ∃ (l : Addr) (y : V) (d : PyData) (ds : List PyData) (zs : List V) (j : Nat), x = .ref l ∧ xs = [y] ∧ H l = some (.lst zs) ∧ DpAll K H zs ds ∧ Dp K H y d ∧
  SeqAt.shaped (.list ds) = true ∧ SeqAt.shaped d = true ∧ findD d ds = some j ∧ Q .non (upd H l (.lst (zs.eraseIdx j)))
theorem mtRem (hu : X.A.units + 65 < cLine) : MtR X "list.remove" (rRemD X.K) := by
  intro pins s τ H x xs v us Q I rx rxs w
  obtain ⟨l, y, d, ds, zs, j, rfl, rfl, hH, ha, hy, sl, sd, hj, q⟩ := w
  cases rx
  obtain ⟨u, rfl, ru⟩ := Vals.one rxs
  obtain ⟨z, its, n, r, hl, e⟩ := I.lstM hH
  obtain ⟨bs, r1⟩ := Dp.reads I d y u hy ru
  obtain ⟨as, r2⟩ := Dp.readsAll I ds zs its ha r
  have hlay : PyData.canLayAll0 ds = true := by have := SeqAt.canLay_of_shaped sl; unfold PyData.canLay0 at this; exact this
  refine SeqAt.remove_list_data (vs := its.toArray) ⟨_, e, rfl, _, rfl⟩ r2 r1 (PyData.plainAll_of_canLay0 ds hlay) (PyData.plain_of_canLay0 d (SeqAt.canLay_of_shaped sd)) ?_ hj (by rw [List.size_toArray]; omega) ?_
  · have h1 := SeqAt.depth_of_shaped sd
    have h2 : min (PyData.depthAll ds) d.depth ≤ d.depth := Nat.min_le_right _ _
    omega
  · have rr := r.eraseIdx j
    refine ⟨.non, _, I.lset (its' := its.eraseIdx j) (t' := s.toks) hH e ?_ rr ?_, rfl, q⟩
    · show its.toArray.eraseIdxIfInBounds j = (its.eraseIdx j).toArray
      rw [List.eraseIdxIfInBounds_toArray]
    · have z2 := len_erase zs j
      omega
/-- what is written at a reference -/
theorem wrote_ok {a0 : Nat} {p : Addr} {o : HO} {ob : Ob} {v : Val} {x : V} {Q : VK} (a : At K P G ρ σ h τ H) (e : ρ[a0]? = some p) (q : RelO K G ρ ob o) (rx : RelW K G ρ v x) (r : RunV K P (some (v, h.set a0 ob)) G ρ Q) : Q x (upd H p o) :=
  r.then Sub.rfl (List.prefix_refl _) (a.hp.wrote e q) rx
/-- the receiver of a list's method: a list, then its arguments -/
theorem isL_of {v : Val} {x : V} (rh : RelH K P G ρ h H) (rx : RelW K G ρ v x) (e : ((items h v).isSome && isLst h v) = true) : ∃ b ys, x = .ref b ∧ SqL K H b ys := by
  rw [Bool.and_eq_true] at e
  obtain ⟨ws, e1⟩ := Option.isSome_iff_exists.mp e.1
  obtain ⟨b, ys, ex, z, q, hs⟩ := items_rel rh rx e1
  rcases hs with ⟨_, hs⟩ | ⟨hn, _⟩
  · exact ⟨b, ys, ex, hs⟩
  · rw [e.2] at hn; cases hn
theorem sMtL {m : Mt} {n : Str} {id : String} {e : Expr} {es : List Expr} {ap cp : Pos} {rr : V → List V → Hp → VK → Prop} {de : Fr → Hm → Option (List Val × Hm)} (slot : Slot "list" n id) (hty : typeOf (.builtin id) = pure (.type "method_descriptor")) (hm : MtR X id rr)
    (hb : baseB l = true) (hline : (ap.endLine == cp.line) = true) (hp : (e :: es).all plainB = true) (hln : (e :: es).length < 30) (ha : PE X l (tD X.K da)) (he : PA X (e :: es) (tDA X.K de))
    (hok : ∀ h v, mtOk m h v = ((items h v).isSome && isLst h v))
    (hr : ∀ {P G H : Hp} {ρ : List Addr} {σ : Fr} {h : Hm} {τ : L2.St} {v : Val} {x : V} {vs : List Val} {xs : List V} {Q : VK}, At X.K P G ρ σ h τ H → RelW X.K G ρ v x → RelWs X.K G ρ vs xs → RunV X.K P (metV m h v vs) G ρ Q → rr x xs H Q) :
    PE X (.Call (.Attribute l n ap) (e :: es) [] cp) (tD X.K fun σ h => (da σ h).bind fun p => if mtOk m p.2 p.1 then (de σ p.2).bind fun q => metV m q.2 p.1 q.1 else none) := by
  have hp1 : plainB e = true := by rw [List.all_cons, Bool.and_eq_true] at hp; exact hp.1
  refine peD (peMt PySem.F.plainAttrs_list slot hty ty_lst hm ha he (attr_base hb) (fun env => star_all hp) (star_cons hp1) hln hline) fun P G ρ σ h τ H Q a r => ?_
  refine tD.step a r fun v h1 G1 ρ1 x H1 a1 s p rx ev r1 => ?_
  split at r1
  · rename_i hk
    rw [hok] at hk
    exact ⟨isL_of a1.hp rx hk, tDA.step a1 r1 fun vs h2 G2 ρ2 xs H2 a2 s2 p2 rxs _ r2 => hr a2 (rx.mono s2 p2) rxs r2⟩
  · exact r1.not
theorem sMtL0 {m : Mt} {n : Str} {id : String} {ap cp : Pos} {rr : V → List V → Hp → VK → Prop} (slot : Slot "list" n id) (hty : typeOf (.builtin id) = pure (.type "method_descriptor")) (hm : MtR X id rr)
    (hb : baseB l = true) (hline : (ap.endLine == cp.line) = true) (ha : PE X l (tD X.K da)) (hok : ∀ h v, mtOk m h v = ((items h v).isSome && isLst h v))
    (hr : ∀ {P G H : Hp} {ρ : List Addr} {σ : Fr} {h : Hm} {τ : L2.St} {v : Val} {x : V} {Q : VK}, At X.K P G ρ σ h τ H → RelW X.K G ρ v x → RunV X.K P (metV m h v []) G ρ Q → rr x [] H Q) :
    PE X (.Call (.Attribute l n ap) [] [] cp) (tD X.K fun σ h => (da σ h).bind fun p => if mtOk m p.2 p.1 then metV m p.2 p.1 [] else none) := by
  refine peD (peMt0 PySem.F.plainAttrs_list slot hty ty_lst hm ha (attr_base hb) hline) fun P G ρ σ h τ H Q a r => ?_
  refine tD.step a r fun v h1 G1 ρ1 x H1 a1 s p rx ev r1 => ?_
  split at r1
  · rename_i hk
    rw [hok] at hk
    exact ⟨isL_of a1.hp rx hk, hr a1 rx r1⟩
  · exact r1.not
/-- a list's method by its object -/
theorem metRef {m : Mt} {v : Val} {vs : List Val} {z : Val × Hm} (hm : m = .append ∨ m = .pop ∨ m = .popAt ∨ m = .remove) (e : metV m h v vs = some z) : ∃ a ws, v = .ref a ∧ h[a]? = some (.lst ws) := by
  unfold metV at e
  split at e
  · split at e
    · exact ⟨_, _, rfl, by assumption⟩
    · cases e
  · split at e
    · exact ⟨_, _, rfl, by assumption⟩
    · cases e
  · split at e
    · exact ⟨_, _, rfl, by assumption⟩
    · cases e
  · rcases hm with z | z | z | z <;> cases z
  · split at e
    · exact ⟨_, _, rfl, by assumption⟩
    · cases e
  · cases e
theorem relL {vs : List Val} {xs : List V} (z : xs.length ≤ sizeLine) (q : RelWs K G ρ vs xs) : RelO K G ρ (.lst vs) (.lst xs) := ⟨xs, rfl, z, q⟩
theorem append_ok {v : Val} {x : V} {vs : List Val} {xs : List V} {Q : VK} (a : At K P G ρ σ h τ H) (rx : RelW K G ρ v x) (rxs : RelWs K G ρ vs xs) (r : RunV K P (metV .append h v vs) G ρ Q) : rAppend x xs H Q := by
  obtain ⟨z, h', e, _⟩ := id r
  obtain ⟨n, ws, rfl, hv⟩ := metRef (.inl rfl) e
  obtain ⟨p, ep, rfl⟩ := rx
  obtain ⟨p', ys, ep', hp, hz, q⟩ := a.hp.lst hv
  rw [ep] at ep'; cases ep'
  cases rxs with
  | nil => cases e
  | cons r0 r1 =>
    cases r1 with
    | cons _ _ => cases e
    | nil =>
      unfold metV at e r
      simp only [hv] at e r
      split at e
      · rename_i hl
        rw [if_pos hl] at r
        have hlen : ws.length = ys.length := Paired.length q
        exact ⟨p, ys, _, rfl, rfl, hp, by omega, wrote_ok a ep (relL (by simp; omega) (Paired.app q (.cons r0 .nil))) rwNon r⟩
      · cases e
theorem pop_ok {v : Val} {x : V} {Q : VK} (a : At K P G ρ σ h τ H) (rx : RelW K G ρ v x) (r : RunV K P (metV .pop h v []) G ρ Q) : rPop x [] H Q := by
  obtain ⟨z, h', e, _⟩ := id r
  obtain ⟨n, ws, rfl, hv⟩ := metRef (.inr (.inl rfl)) e
  obtain ⟨p, ep, rfl⟩ := rx
  obtain ⟨p', ys, ep', hp, hz, q⟩ := a.hp.lst hv
  rw [ep] at ep'; cases ep'
  unfold metV at r
  simp only [hv] at r
  obtain ⟨w, ew, r⟩ := r.of_map
  have hlen : ws.length = ys.length := Paired.length q
  obtain ⟨y, ey, ry⟩ := Paired.getL q ew
  have qd : RelWs K G ρ ws.dropLast ys.dropLast := by
    rw [List.dropLast_eq_take, List.dropLast_eq_take, hlen]
    exact Paired.takeP _ q
  exact ⟨p, ys, y, rfl, rfl, hp, by rw [← hlen]; exact ey, wrote_ok a ep (relL (by rw [List.length_dropLast]; omega) qd) ry r⟩
theorem popAt_some {n : Nat} {ws vs : List Val} {z : Val × Hm} (hv : h[n]? = some (.lst ws)) (e : metV .popAt h (.ref n) vs = some z) : ∃ i k w, vs = [vi i] ∧ ixN ws.length i = some k ∧ ws[k]? = some w ∧ z = (w, h.set n (.lst (ws.eraseIdx k))) := by
  unfold metV at e
  split at e
  · rename_i hq _; cases hq
  · rename_i hq _; cases hq
  · rename_i n' i hq1 hq2
    cases hq2
    simp only [hv] at e
    obtain ⟨k, e1, e2⟩ := Option.bind_eq_some_iff.mp e
    obtain ⟨w, e3, e4⟩ := Option.map_eq_some_iff.mp e2
    exact ⟨i, k, w, rfl, e1, e3, e4.symm⟩
  · rename_i hq; cases hq
  · rename_i hq _; cases hq
  · cases e
theorem popAt_ok {v : Val} {x : V} {vs : List Val} {xs : List V} {Q : VK} (a : At K P G ρ σ h τ H) (rx : RelW K G ρ v x) (rxs : RelWs K G ρ vs xs) (r : RunV K P (metV .popAt h v vs) G ρ Q) : rPopAt x xs H Q := by
  obtain ⟨z, h', e, _⟩ := id r
  obtain ⟨n, ws, rfl, hv⟩ := metRef (.inr (.inr (.inl rfl))) e
  obtain ⟨p, ep, rfl⟩ := rx
  obtain ⟨p', ys, ep', hp, hz, q⟩ := a.hp.lst hv
  rw [ep] at ep'; cases ep'
  obtain ⟨i, k, w, rfl, e1, e2, e3⟩ := popAt_some hv e
  rw [e, e3] at r
  cases rxs with | cons r0 r1 =>
  cases r1
  have hlen : ws.length = ys.length := Paired.length q
  rw [hlen] at e1
  obtain ⟨g1, g2, g3, g4⟩ := ixN_seq (show L2.ixN ys.length i = some k from e1)
  obtain ⟨y, ey, ry⟩ := Paired.getL q e2
  have hs := sizeLine_eq
  exact ⟨p, ys, i, k, y, rfl, by rw [dInt r0], hp, by omega, by omega, g1, ey, wrote_ok a ep (relL (Nat.le_trans (len_erase ys k) hz) (Paired.erase k q)) ry r⟩
theorem remove_some {n : Nat} {ws vs : List Val} {z : Val × Hm} (hv : h[n]? = some (.lst ws)) (e : metV .remove h (.ref n) vs = some z) : ∃ d ds k, vs = [.dat d] ∧ dats ws = some ds ∧ okD 12 d = true ∧ ds.all (okD 12) = true ∧ findD d ds = some k ∧ z = (vn, h.set n (.lst (ws.eraseIdx k))) := by
  unfold metV at e
  split at e
  · rename_i hq _; cases hq
  · rename_i hq _; cases hq
  · rename_i hq _; cases hq
  · rename_i hq; cases hq
  · rename_i n' d hq1 hq2
    cases hq2
    simp only [hv] at e
    obtain ⟨ds, e1, e2⟩ := Option.bind_eq_some_iff.mp e
    split at e2
    · rename_i hk
      rw [Bool.and_eq_true] at hk
      obtain ⟨k, e3, e4⟩ := Option.map_eq_some_iff.mp e2
      exact ⟨d, ds, k, rfl, e1, hk.1, hk.2, e3, e4.symm⟩
    · cases e2
  · cases e
theorem remove_ok {v : Val} {x : V} {vs : List Val} {xs : List V} {Q : VK} (a : At K P G ρ σ h τ H) (rx : RelW K G ρ v x) (rxs : RelWs K G ρ vs xs) (r : RunV K P (metV .remove h v vs) G ρ Q) : rRemD K x xs H Q := by
  obtain ⟨z, h', e, _⟩ := id r
  obtain ⟨n, ws, rfl, hv⟩ := metRef (.inr (.inr (.inr rfl))) e
  obtain ⟨p, ep, rfl⟩ := rx
  obtain ⟨p', ys, ep', hp, hz, q⟩ := a.hp.lst hv
  rw [ep] at ep'; cases ep'
  obtain ⟨d, ds, k, rfl, e1, o1, o2, e2, e3⟩ := remove_some hv e
  rw [e, e3] at r
  cases rxs with | cons r0 r1 =>
  cases r1
  have rd := dats_rel e1 q
  have ol : okD 13 (.list ds) = true := by unfold okD; exact o2
  exact ⟨p, _, d, ds, ys, k, rfl, rfl, hp, dps_of a.hp.sub 12 ds ys o2 rd, dp_of a.hp.sub 12 d _ o1 r0, shaped_of ol (by decide), shaped_of o1 (by decide), e2, wrote_ok a ep (relL (Nat.le_trans (len_erase ys k) hz) (Paired.erase k q)) rwNon r⟩
/-! count: of a list or of a tuple -/
theorem count_some {v : Val} {vs : List Val} {z : Val × Hm} (e : metV .count h v vs = some z) : ∃ i ws ns, vs = [vi i] ∧ items h v = some ws ∧ intsV ws = some ns ∧ z = (vi (ns.count i), h) := by
  unfold metV at e
  split at e
  · contradiction
  · contradiction
  · contradiction
  · obtain ⟨ws, e1, e2⟩ := Option.bind_eq_some_iff.mp e
    obtain ⟨ns, e3, e4⟩ := Option.map_eq_some_iff.mp e2
    exact ⟨_, ws, ns, rfl, e1, e3, e4.symm⟩
  · contradiction
  · cases e
theorem itemsRef {n : Nat} {ws : List Val} (e : items h (.ref n) = some ws) : isLst h (.ref n) = true := by
  have e' : (match h[n]? with | some (Ob.lst vs) => some vs | _ => none) = some ws := e
  show (match h[n]? with | some (.lst _) => true | _ => false) = true
  split at e'
  · rfl
  · cases e'
theorem sCount {e : Expr} {ap cp : Pos} {de : Fr → Hm → Option (List Val × Hm)} (hb : baseB l = true) (hline : (ap.endLine == cp.line) = true) (hp : plainB e = true) (ha : PE X l (tD X.K da)) (he : PA X [e] (tDA X.K de)) :
    PE X (.Call (.Attribute l "count" ap) [e] [] cp) (tD X.K fun σ h => (da σ h).bind fun p => if mtOk .count p.2 p.1 then (de σ p.2).bind fun q => metV .count q.2 p.1 q.1 else none) := by
  have hst : ∀ env, (starEach [e] env).all (fun x => !x.1) = true := fun env => star_all (by rw [List.all_cons, hp]; rfl)
  have pL := peMt (e := e) (es := []) (apos := ap) (cpos := cp) PySem.F.plainAttrs_list PySem.F.slot_list_count PySem.F.type_list_count ty_lst mt_lcount ha he (attr_base hb) hst (star_cons hp) (show 1 < 30 by decide) hline
  have pT := peMt (e := e) (es := []) (apos := ap) (cpos := cp) PySem.F.plainAttrs_tuple PySem.F.slot_tuple_count PySem.F.type_tuple_count ty_tup mtCntT ha he (attr_base hb) hst (star_cons hp) (show 1 < 30 by decide) hline
  refine peD (PE.or pL pT) fun P G ρ σ h τ H Q a r => ?_
  obtain ⟨z, h', ez, qz⟩ := r
  obtain ⟨⟨v, h1⟩, f1, f2⟩ := Option.bind_eq_some_iff.mp ez
  by_cases hl : isLst h1 v = true
  · refine .inl (tD.step a ⟨z, h', ez, qz⟩ fun v2 h2 G1 ρ1 x H1 a1 s p rx ev r1 => ?_)
    rw [f1] at ev; cases ev
    split at r1
    · rename_i hk
      unfold mtOk at hk
      rw [Bool.and_eq_true] at hk
      refine ⟨isL_of a1.hp rx (by rw [hk.1, hl]; rfl), tDA.step a1 r1 fun vs h3 G2 ρ2 xs H2 a2 s2 p2 rxs _ r2 => ?_⟩
      obtain ⟨z2, h4, e2, _⟩ := id r2
      obtain ⟨i, ws, ns, rfl, g1, g2, g3⟩ := count_some e2
      rw [e2, g3] at r2
      cases rxs with | cons q0 q1 =>
      cases q1
      obtain ⟨b, ys, ex, zz, qq, hs⟩ := items_rel a2.hp (rx.mono s2 p2) g1
      have exs := ints_rel g2 qq
      subst exs
      rcases hs with ⟨_, hs⟩ | ⟨hn, _⟩
      · exact ⟨b, ns, i, ex, by rw [dInt q0], hs, r2.now a2 rwInt⟩
      · exfalso
        cases v with
        | dat d =>
          cases d with
          | list _ => cases hn
          | _ => cases hl
        | scr _ => cases hn
        | ref n =>
          have : isLst h3 (.ref n) = true := itemsRef g1
          rw [this] at hn; cases hn
    · exact r1.not
  · refine .inr (tD.step a ⟨z, h', ez, qz⟩ fun v2 h2 G1 ρ1 x H1 a1 s p rx ev r1 => ?_)
    rw [f1] at ev; cases ev
    split at r1
    · rename_i hk
      unfold mtOk at hk
      rw [Bool.and_eq_true, Bool.or_eq_true] at hk
      rcases hk.2 with k | k
      · exact absurd k hl
      · split at k
        · rename_i ds hds
          have hds' : v = vt ds := hds
          subst hds'
          have rd : RelD G1 (.tuple ds) x := rx
          unfold RelD at rd
          obtain ⟨b, o, ys, ex, g, dn, _, rds⟩ := rd
          refine ⟨⟨b, o, ys, ex, a1.hp.sub _ _ g, dn⟩, tDA.step a1 r1 fun vs h3 G2 ρ2 xs H2 a2 s2 p2 rxs _ r2 => ?_⟩
          obtain ⟨z2, h4, e2, _⟩ := id r2
          obtain ⟨i, ws, ns, rfl, g1, g2, g3⟩ := count_some e2
          rw [e2, g3] at r2
          cases rxs with | cons q0 q1 =>
          cases q1
          have ew : ws = ds.map .dat := (Option.some.inj g1).symm
          subst ew
          have exs := ints_rel g2 (RelDs.ws (ρ := ρ2) (K := X.K) (rds.keep s2.keeps))
          subst exs
          exact ⟨b, o, ns, i, ex, by rw [dInt q0], a2.hp.sub _ _ (s2 _ _ g), r2.now a2 rwInt⟩
        · cases k
    · exact r1.not
end
end Mi
end
/-! ## MiS6 -/
section
set_option maxHeartbeats 1000000
/-! MiS6: new lists and dicts; what is walked; targets; comprehensions. -/
namespace Mi
open PySem PySem.Spec PyProof.Rows L2
section
variable (K : PySem.W.Frag)
def RunN (P : Hp) (m : Option (Ob × Hm)) (G : Hp) (ρ : List Addr) (Q : VK) : Prop :=
  ∃ ob h', m = some (ob, h') ∧ ∀ G' ρ' H' p o, Sub G G' → Pre ρ ρ' → RelH K P G' ρ' h' H' → H' p = none → RelO K G' ρ' ob o → Q (.ref p) (upd H' p o)
def tDN (d : Fr → Hm → Option (Ob × Hm)) : TE := fun τ H Q => ∃ P G ρ σ h, RelH K P G ρ h H ∧ RelF K G ρ σ τ ∧ RunN K P (d σ h) G ρ Q
end
section
variable {X : Cx} {K : PySem.W.Frag} {P G H : Hp} {ρ : List Addr} {h : Hm} {σ : Fr} {τ : L2.St} {l r q : Expr} {da db dc : Fr → Hm → Option (Val × Hm)} {pos p0 : Pos}
theorem peN {t : TE} {x : Expr} {d : Fr → Hm → Option (Ob × Hm)} (p : PE X x t) (h : ∀ (P G : Hp) (ρ : List Addr) (σ : Fr) (h : Hm) (τ : L2.St) (H : Hp) (Q : VK), At K P G ρ σ h τ H → RunN K P (d σ h) G ρ Q → t τ H Q) : PE X x (tDN K d) :=
  PE.imp p fun τ H Q ⟨P, G, ρ, σ, hh, rh, rf, r⟩ => h P G ρ σ hh τ H Q ⟨rh, rf⟩ r
/-- a new object, for RunN -/
abbrev NewO (K : PySem.W.Frag) (G : Hp) (ρ : List Addr) (ob : Ob) (H : Hp) (Q : VK) : Prop := ∀ p o, H p = none → RelO K G ρ ob o → Q (.ref p) (upd H p o)
theorem RunN.now {ob : Ob} {Q : VK} (a : At K P G ρ σ h τ H) (r : RunN K P (some (ob, h)) G ρ Q) : NewO K G ρ ob H Q := by
  obtain ⟨ob', h', e, q⟩ := r
  cases e
  exact fun p o n ro => q G ρ H p o Sub.rfl (List.prefix_refl _) a.hp n ro
theorem RunN.not {Q : VK} {Z : Prop} (r : RunN K P none G ρ Q) : Z := by
  obtain ⟨_, _, e, _⟩ := r
  cases e
theorem RunN.stepE {d : Fr → Hm → Option (Val × Hm)} {f : Val × Hm → Option (Ob × Hm)} {Q Q' : VK} (a : At K P G ρ σ h τ H) (r : RunN K P ((d σ h).bind f) G ρ Q)
    (q : ∀ v h1 G1 ρ1 x H1, At K P G1 ρ1 σ h1 τ H1 → Sub G G1 → Pre ρ ρ1 → RelW K G1 ρ1 v x → d σ h = some (v, h1) → RunN K P (f (v, h1)) G1 ρ1 Q → Q' x H1) : tD K d τ H Q' := by
  obtain ⟨ob, h', e, z⟩ := r
  obtain ⟨⟨v, h1⟩, e1, e2⟩ := Option.bind_eq_some_iff.mp e
  exact tD.of a ⟨v, h1, e1, fun G1 ρ1 H1 x s p rh rx => q v h1 G1 ρ1 x H1 (a.next s p rh) s p rx e1 ⟨ob, h', e2, fun G2 ρ2 H2 pp o s2 p2 => z G2 ρ2 H2 pp o (s.trans s2) (p.trans p2)⟩⟩
theorem RunN.stepA {d : Fr → Hm → Option (List Val × Hm)} {f : List Val × Hm → Option (Ob × Hm)} {Q : VK} {Q' : List V → Hp → Prop} (a : At K P G ρ σ h τ H) (r : RunN K P ((d σ h).bind f) G ρ Q)
    (q : ∀ v h1 G1 ρ1 x H1, At K P G1 ρ1 σ h1 τ H1 → Sub G G1 → Pre ρ ρ1 → RelWs K G1 ρ1 v x → d σ h = some (v, h1) → RunN K P (f (v, h1)) G1 ρ1 Q → Q' x H1) : tDA K d τ H Q' := by
  obtain ⟨ob, h', e, z⟩ := r
  obtain ⟨⟨v, h1⟩, e1, e2⟩ := Option.bind_eq_some_iff.mp e
  exact tDA.of a ⟨v, h1, e1, fun G1 ρ1 H1 x s p rh rx => q v h1 G1 ρ1 x H1 (a.next s p rh) s p rx e1 ⟨ob, h', e2, fun G2 ρ2 H2 pp o s2 p2 => z G2 ρ2 H2 pp o (s.trans s2) (p.trans p2)⟩⟩
theorem RunN.stepO {d : Fr → Hm → Option (Option Int × Hm)} {f : Option Int × Hm → Option (Ob × Hm)} {Q : VK} {Q' : Option Int → Hp → Prop} (a : At K P G ρ σ h τ H) (r : RunN K P ((d σ h).bind f) G ρ Q)
    (q : ∀ v h1 G1 ρ1 H1, At K P G1 ρ1 σ h1 τ H1 → Sub G G1 → Pre ρ ρ1 → RunN K P (f (v, h1)) G1 ρ1 Q → Q' v H1) : tDO K d τ H Q' := by
  obtain ⟨ob, h', e, z⟩ := r
  obtain ⟨⟨v, h1⟩, e1, e2⟩ := Option.bind_eq_some_iff.mp e
  refine ⟨P, G, ρ, σ, h, a.hp, a.fr, v, h1, e1, fun G1 ρ1 H1 x s p rh rx => ?_⟩
  have ex : v = x := rx
  subst ex
  exact q v h1 G1 ρ1 H1 (a.next s p rh) s p ⟨ob, h', e2, fun G2 ρ2 H2 pp o s2 p2 => z G2 ρ2 H2 pp o (s.trans s2) (p.trans p2)⟩
theorem RunN.of_bind {α : Type} {m : Option α} {f : α → Option (Ob × Hm)} {Q : VK} (r : RunN K P (m.bind f) G ρ Q) : ∃ x, m = some x ∧ RunN K P (f x) G ρ Q := by
  cases m with
  | none => exact r.not
  | some x => exact ⟨x, rfl, r⟩
theorem RunN.of_map {α : Type} {m : Option α} {f : α → Ob × Hm} {Q : VK} (r : RunN K P (m.map f) G ρ Q) : ∃ x, m = some x ∧ RunN K P (some (f x)) G ρ Q := by
  cases m with
  | none => exact r.not
  | some x => exact ⟨x, rfl, r⟩
/-! ### a new object is frozen, or kept in Mi's heap -/
/-- what an expression gives may be locked for good -/
theorem pe_lk {x : Expr} {t : TE} (p : PE X x t) : PE X x (fun τ H Q => t τ H fun v H1 => Q v H1 ∨ ∃ b u, H1 b = some u ∧ Mut (some u) ∧ ∀ od, Q v (upd H1 b (.frz od u))) := by
  constructor
  intro pins s τ H Q I w
  refine thn (p.run pins s τ H _ I w) fun u s1 k => ?_
  obtain ⟨v, H1, I1, rv, k⟩ := k
  rcases k with k | ⟨b, o, hb, mu, k⟩
  · exact ⟨v, H1, I1, rv, k⟩
  · obtain ⟨od, I2⟩ := I1.lock hb mu
    exact ⟨v, _, I2, rv, k od⟩
theorem datsK_rel : ∀ {kvs : List (PyData × Val)} {ks : List (Key × V)} {ds : List (PyData × PyData)}, datsK kvs = some ds → Paired (fun (p : PyData × Val) (q : Key × V) => p.1 = kyD q.1 ∧ RelW K G ρ p.2 q.2) kvs ks → RelKs G ds ks
  | [], _, ds, e, r => by
    cases r
    unfold datsK mapO at e
    cases e
    unfold RelKs; rfl
  | (k, v) :: kvs, _, ds, e, r => by
    cases r with
    | cons r1 r2 =>
      rename_i q ks
      obtain ⟨y, t, e1, e2, rfl⟩ := mapO_cons e
      cases v with
      | dat d =>
        cases e1
        unfold RelKs
        exact ⟨q.1, q.2, ks, rfl, r1.1, r1.2, datsK_rel e2 r2⟩
      | ref n => cases e1
      | scr ns => cases e1
theorem fz_run {d : Fr → Hm → Option (Ob × Hm)} {Q : VK} (hd : ∀ ob h', d σ h = some (ob, h') → ∃ vs, ob = .lst vs) (a : At K P G ρ σ h τ H) (r : RunV K P ((d σ h).bind fun p => match p.1 with | .lst vs => (dats vs).map fun ds => (vl ds, p.2) | .dct kvs => (datsK kvs).map fun ks => (.dat (.dict ks), p.2) | _ => none) G ρ Q) : RunN K P (d σ h) G ρ Q := by
    obtain ⟨v, h', e, z⟩ := r
    obtain ⟨⟨ob, h1⟩, e1, e2⟩ := Option.bind_eq_some_iff.mp e
    obtain ⟨vs, rfl⟩ := hd ob h1 e1
    refine ⟨_, h1, e1, fun G' ρ' H' p o s pr rh n ro => ?_⟩
    obtain ⟨ds, e3, e4⟩ := Option.map_eq_some_iff.mp (show (dats vs).map (fun ds => (vl ds, h1)) = some (v, h') from e2)
    cases e4
    obtain ⟨xs, rfl, hz, q⟩ := ro
    have rd := dats_rel e3 q
    have n' := rh.sub.fresh n
    refine z (upd G' p (.lst xs)) ρ' _ _ (s.trans (Sub.new n')) pr (rh.frozen n) ?_
    show RelD _ (.list ds) _
    unfold RelD
    exact ⟨p, xs, rfl, upd_same, hz, RelDs.keep (Sub.new n').keeps rd⟩
theorem nw_run {d : Fr → Hm → Option (Ob × Hm)} {Q : VK} (a : At K P G ρ σ h τ H) (r : RunV K P ((d σ h).map fun p => (.ref p.2.length, p.2 ++ [p.1])) G ρ Q) : RunN K P (d σ h) G ρ Q := by
    obtain ⟨v, h', e, z⟩ := r
    obtain ⟨⟨ob, h1⟩, e1, e2⟩ := Option.map_eq_some_iff.mp e
    cases e2
    refine ⟨ob, h1, e1, fun G' ρ' H' p o s pr rh n ro => ?_⟩
    refine z G' (ρ' ++ [p]) _ _ s (pr.trans (List.prefix_append _ _)) (rh.made n ro) ⟨p, ?_, rfl⟩
    rw [← rh.len, List.getElem?_append_right (Nat.le_refl _)]; simp
theorem upd_two {p : Addr} {o o' : HO} : upd (upd H p o) p o' = upd H p o' := by
  funext b
  by_cases hb : b = p
  · subst hb; rw [upd_same, upd_same]
  · rw [upd_ne hb, upd_ne hb, upd_ne hb]
theorem sFz {x : Expr} {d : Fr → Hm → Option (Ob × Hm)} (p : PE X x (tDN K d)) : PE X x (tD K fun σ h => (d σ h).bind fun p => match p.1 with | .lst vs => (dats vs).map fun ds => (vl ds, p.2) | .dct kvs => (datsK kvs).map fun ks => (.dat (.dict ks), p.2) | _ => none) :=
  peD (pe_lk p) fun P G ρ σ h τ H Q a r => by
    obtain ⟨v, h', e, z⟩ := r
    obtain ⟨⟨ob, h1⟩, e1, e2⟩ := Option.bind_eq_some_iff.mp e
    refine ⟨P, G, ρ, σ, h, a.hp, a.fr, ob, h1, e1, fun G' ρ' H' p o s pr rh n ro => ?_⟩
    split at e2
    · rename_i vs hob
      have hob' : ob = .lst vs := hob
      subst hob'
      obtain ⟨ds, e3, e4⟩ := Option.map_eq_some_iff.mp e2
      cases e4
      obtain ⟨xs, rfl, hz, q⟩ := ro
      have rd := dats_rel e3 q
      have n' := rh.sub.fresh n
      refine .inl (z (upd G' p (.lst xs)) ρ' _ _ (s.trans (Sub.new n')) pr (rh.frozen n) ?_)
      show RelD _ (.list ds) _
      unfold RelD
      exact ⟨p, xs, rfl, upd_same, hz, RelDs.keep (Sub.new n').keeps rd⟩
    · rename_i kvs hob
      have hob' : ob = .dct kvs := hob
      subst hob'
      obtain ⟨ds, e3, e4⟩ := Option.map_eq_some_iff.mp e2
      cases e4
      obtain ⟨ks, rfl, hz, q⟩ := ro
      have rd := datsK_rel e3 q
      have n' := rh.sub.fresh n
      refine .inr ⟨p, .dK ks, upd_same, trivial, fun od => ?_⟩
      rw [upd_two]
      refine z (upd G' p (.frz od (.dK ks))) ρ' _ _ (s.trans (Sub.new n')) pr (rh.frozen n) ?_
      show RelD _ (.dict ds) _
      unfold RelD
      exact ⟨p, od, ks, rfl, upd_same, hz, RelKs.keep (Sub.new n').keeps rd⟩
    · cases e2
theorem sNw {x : Expr} {d : Fr → Hm → Option (Ob × Hm)} (p : PE X x (tDN K d)) : PE X x (tD K fun σ h => (d σ h).map fun p => (.ref p.2.length, p.2 ++ [p.1])) :=
  peD p fun P G ρ σ h τ H Q a r => by
    obtain ⟨v, h', e, z⟩ := r
    obtain ⟨⟨ob, h1⟩, e1, e2⟩ := Option.map_eq_some_iff.mp e
    cases e2
    refine ⟨P, G, ρ, σ, h, a.hp, a.fr, ob, h1, e1, fun G' ρ' H' p o s pr rh n ro => ?_⟩
    refine z G' (ρ' ++ [p]) _ _ s (pr.trans (List.prefix_append _ _)) (rh.made n ro) ⟨p, ?_, rfl⟩
    rw [← rh.len, List.getElem?_append_right (Nat.le_refl _), Nat.sub_self]; rfl
/-! ### the rules -/
theorem nLst {es : List Expr} {de : Fr → Hm → Option (List Val × Hm)} (ha : PA X es (tDA X.K de)) : PE X (.List es pos) (tDN X.K fun σ h => (de σ h).bind fun p => if p.1.length ≤ sizeLine then some (.lst p.1, p.2) else none) :=
  peN (pe_lst ha) fun P G ρ σ h τ H Q a r => RunN.stepA a r fun vs h1 G1 ρ1 xs H1 a1 s p rxs _ r1 => by
    split at r1
    · rename_i hz
      have hl : vs.length = xs.length := Paired.length rxs
      exact ⟨by dsimp only at hz; omega, fun p n => r1.now a1 p _ n (relL (by dsimp only at hz; omega) rxs)⟩
    · exact r1.not
theorem nList (hg : Gl X "list") (hm : X.mg "list" = none) (hp : plainB l = true) (ha : PE X l (tD X.K da)) : PE X (.Call (.Name "list" p0) [l] [] pos) (tDN X.K fun σ h => (da σ h).bind fun p => (items p.2 p.1).map fun vs => (.lst vs, p.2)) :=
  peN (pe_callTy call_list_of hg hm (by decide +kernel) (pa_cons ha pa_nil (star_cons hp)) (by decide) (by decide) (star_cons hp) rfl) fun P G ρ σ h τ H Q a r => RunN.stepE a r fun v h1 G1 ρ1 x H1 a1 s p rx _ r1 => by
    obtain ⟨vs, e, r2⟩ := r1.of_map
    obtain ⟨b, xs, rfl, z, q, hs⟩ := items_rel a1.hp rx e
    exact ⟨b, xs, rfl, hs.elim (fun y => .inl y.2) (fun y => .inr y.2), fun p n => r2.now a1 p _ n (relL z q)⟩
theorem nListR (B : BiOk X) (hg : Gl X "list") (hm : X.mg "list" = none) (hg2 : Gl X "range") (hm2 : X.mg "range" = none) {p1 p2 : Pos} (h1 : plainB l = true) (h2 : plainB r = true) (ha : PE X l (tD X.K da)) (hb : PE X r (tD X.K db)) :
    PE X (.Call (.Name "list" p0) [.Call (.Name "range" p1) [l, r] [] p2] [] pos) (tDN X.K fun σ h => (da σ h).bind fun p => (db σ p.2).bind fun q => match p.1, q.1 with
      | .dat (.int i), .dat (.int j) => if -(2 ^ 62) ≤ i ∧ i < 2 ^ 62 ∧ j < 2 ^ 62 ∧ -(2 ^ 62) ≤ j ∧ (j - i).toNat ≤ sizeLine then some (.lst ((List.range (j - i).toNat).map fun (k : Nat) => vi (i + (k : Int))), q.2) else none
      | _, _ => none) :=
  peN (pe_listRg B.calm hg hm (prg_2 hg2 hm2 ha hb (star_cons h1) (star_cons h2) (back_any (by rw [List.all_cons, h2]; rfl))) rfl) fun P G ρ σ h τ H Q a r => RunN.stepE a r fun v h1 G1 ρ1 x H1 a1 s p rx _ r1 => RunN.stepE a1 r1 fun w h2 G2 ρ2 y H2 a2 s2 p2 ry _ r2 => by
    dsimp only at r2
    split at r2
    · rename_i i j hv hw
      split at r2
      · rename_i hc
        refine ⟨i, j, dInt (rx.mono s2 p2), dInt ry, ⟨hc.1, hc.2.1, hc.2.2.2.1, hc.2.2.1, hc.2.2.2.2⟩, fun p n => r2.now a2 p _ n (relL (by rw [rgV_length]; exact hc.2.2.2.2) ?_)⟩
        unfold rgV
        generalize (List.range (j - i).toNat) = ks
        induction ks with
        | nil => exact .nil
        | cons k ks ih => exact .cons rwInt ih
      · exact r2.not
    · exact r2.not
theorem sorted_uniq {ns ms : List Int} (hp : ms.Perm ns) (hs : ms.Pairwise (· ≤ ·)) : ms = ns.mergeSort (fun a b => decide (a ≤ b)) := by
  have h1 : (ns.mergeSort (fun a b => decide (a ≤ b))).Pairwise (fun a b => decide (a ≤ b) = true) := List.pairwise_mergeSort (fun a b c h1 h2 => by simp at *; omega) (fun a b => by simp; omega) ns
  have h2 : (ns.mergeSort (fun a b => decide (a ≤ b))).Perm ns := List.mergeSort_perm _ _
  refine List.Perm.eq_of_pairwise (le := fun a b : Int => a ≤ b) (fun a b _ _ h1 h2 => Int.le_antisymm h1 h2) hs (h1.imp fun h => by simpa using h) (hp.trans h2.symm)
theorem nSorted (hg : Gl X "sorted") (hm : X.mg "sorted" = none) (hp : plainB l = true) (ha : PE X l (tD X.K da)) : PE X (.Call (.Name "sorted" p0) [l] [] pos) (tDN X.K fun σ h => (da σ h).bind fun p => if isLst p.2 p.1 then (items p.2 p.1).bind fun vs => (intsV vs).map fun ns => (.lst ((ns.mergeSort (fun a b => decide (a ≤ b))).map vi), p.2) else none) :=
  peN (pe_callB cr_sortedI hg hm (by decide +kernel) (pa_cons ha pa_nil (star_cons hp)) (by decide) (by decide) (star_cons hp) rfl) fun P G ρ σ h τ H Q a r => RunN.stepE a r fun v h1 G1 ρ1 x H1 a1 s p rx _ r1 => by
    split at r1
    · rename_i hl
      obtain ⟨vs, e, r2⟩ := r1.of_bind
      obtain ⟨ns, e2, r3⟩ := r2.of_map
      obtain ⟨b, xs, rfl, z, q, hs⟩ := items_rel a1.hp rx e
      have ex := ints_rel e2 q
      subst ex
      rcases hs with ⟨_, hs⟩ | ⟨hn, _⟩
      · refine ⟨b, ns, rfl, hs, fun ms p hp hsrt n => ?_⟩
        have em := sorted_uniq hp hsrt
        subst em
        refine r3.now a1 p _ n (relL ?_ ?_)
        · rw [List.length_map] at z ⊢; rw [hp.length_eq]; exact z
        · generalize (ns.mergeSort (fun a b => decide (a ≤ b))) = ks
          induction ks with
          | nil => exact .nil
          | cons k ks ih => exact .cons rwInt ih
      · dsimp only at hl; rw [hl] at hn; cases hn
    · exact r1.not
theorem lsOf_rel {v : Val} {x : V} {vs : List Val} (rh : RelH K P G ρ h H) (rx : RelW K G ρ v x) (e : lsOf h v = some vs) : ∃ a xs, x = .ref a ∧ H a = some (.lst xs) ∧ xs.length ≤ sizeLine ∧ RelWs K G ρ vs xs := by
  unfold lsOf at e
  split at e
  · cases e
    obtain ⟨a, us, rfl, q, z, r⟩ := dLst rh rx
    exact ⟨a, us, rfl, q, z, r.ws⟩
  · split at e
    · rename_i hv
      cases e
      obtain ⟨p, ep, rfl⟩ := rx
      obtain ⟨p', xs, ep', hp, z, q⟩ := rh.lst hv
      rw [ep] at ep'; cases ep'
      exact ⟨p, xs, rfl, hp, z, q⟩
    · cases e
  · cases e
theorem nAdd (ha : PE X l (tD X.K da)) (hb : PE X r (tD X.K db)) : PE X (.BinOp l .Add r pos) (tDN X.K fun σ h => (da σ h).bind fun p => (db σ p.2).bind fun q => (lsOf q.2 p.1).bind fun xs => (lsOf q.2 q.1).bind fun ys => if xs.length + ys.length ≤ sizeLine then some (.lst (xs ++ ys), q.2) else none) :=
  peN (pe_op op_cat ha hb) fun P G ρ σ h τ H Q a r => RunN.stepE a r fun v h1 G1 ρ1 x H1 a1 s p rx _ r1 => RunN.stepE a1 r1 fun w h2 G2 ρ2 y H2 a2 s2 p2 ry _ r2 => by
    obtain ⟨vs, e1, r3⟩ := r2.of_bind
    obtain ⟨ws, e2, r4⟩ := r3.of_bind
    obtain ⟨b, xs, rfl, hb, z, q⟩ := lsOf_rel a2.hp (rx.mono s2 p2) e1
    obtain ⟨c, ys, rfl, hc, z', q'⟩ := lsOf_rel a2.hp ry e2
    have l1 : vs.length = xs.length := Paired.length q
    have l2 : ws.length = ys.length := Paired.length q'
    split at r4
    · exact ⟨b, c, xs, ys, rfl, rfl, hb, hc, by omega, fun p n => r4.now a2 p _ n (relL (by rw [List.length_append]; omega) (Paired.app q q'))⟩
    · exact r4.not
theorem nRep (ha : PE X l (tD X.K da)) (hb : PE X r (tD X.K db)) : PE X (.BinOp l .Mult r pos) (tDN X.K fun σ h => (da σ h).bind fun p => (db σ p.2).bind fun q => match q.1 with
      | .dat (.int k) => (lsOf q.2 p.1).bind fun xs => if -(2 ^ 63) ≤ k ∧ k < 2 ^ 63 ∧ xs.length * k.toNat ≤ sizeLine then some (.lst (List.replicate k.toNat xs).flatten, q.2) else none
      | _ => none) :=
  peN (pe_op op_rep ha hb) fun P G ρ σ h τ H Q a r => RunN.stepE a r fun v h1 G1 ρ1 x H1 a1 s p rx _ r1 => RunN.stepE a1 r1 fun w h2 G2 ρ2 y H2 a2 s2 p2 ry _ r2 => by
    split at r2
    · rename_i k hk
      have ek : w = vi k := hk
      subst ek
      obtain ⟨vs, e1, r3⟩ := r2.of_bind
      obtain ⟨b, xs, rfl, hb, z, q⟩ := lsOf_rel a2.hp (rx.mono s2 p2) e1
      have l1 : vs.length = xs.length := Paired.length q
      split at r3
      · rename_i hc
        have hlen : (List.replicate k.toNat xs).flatten.length = xs.length * k.toNat := by
          rw [List.length_flatten, List.map_replicate, List.sum_replicate_nat, Nat.mul_comm]
        rw [l1] at hc
        exact ⟨b, k, xs, rfl, dInt ry, hb, hc.1, hc.2.1, hc.2.2, fun p n => r3.now a2 p _ n (relL (by rw [hlen]; exact hc.2.2) (Paired.rep q _))⟩
      · exact r3.not
    · exact r2.not
theorem nSlc {lo hi : Option Expr} {dl dh : Fr → Hm → Option (Option Int × Hm)} {p2 : Pos} (ha : PE X l (tD X.K da)) (hl : PO X lo (tDO X.K dl)) (hh : PO X hi (tDO X.K dh)) :
    PE X (.Subscript l (.Slice lo hi none p2) pos) (tDN X.K fun σ h => (da σ h).bind fun p => (dl σ p.2).bind fun q => (dh σ q.2).bind fun r => if isLst r.2 p.1 then (items r.2 p.1).map fun xs => (.lst (cutL xs q.1 r.1), r.2) else none) :=
  peN (pe_slice sl_list ha hl hh) fun P G ρ σ h τ H Q a r => RunN.stepE a r fun v h1 G1 ρ1 x H1 a1 s p rx _ r1 => RunN.stepO a1 r1 fun lo h2 G2 ρ2 H2 a2 s2 p2 r2 => RunN.stepO a2 r2 fun hi h3 G3 ρ3 H3 a3 s3 p3 r3 => by
    split at r3
    · rename_i hk
      obtain ⟨vs, e1, r4⟩ := r3.of_map
      obtain ⟨b, xs, rfl, z, q, hs⟩ := items_rel a3.hp (rx.mono (s2.trans s3) (p2.trans p3)) e1
      rcases hs with ⟨_, hs⟩ | ⟨hn, _⟩
      · exact ⟨b, xs, rfl, hs, fun p n => r4.now a3 p _ n (relL (Nat.le_trans (cutV_length _ _ _) z) (cut_relW q _ _))⟩
      · dsimp only at hk; rw [hk] at hn; cases hn
    · exact r3.not
theorem nDict0 : PE X (.Dict [] [] pos) (tDN X.K fun _ h => some (.dct [], h)) :=
  peN pe_dnewK fun P G ρ σ h τ H Q a r p n => r.now a p _ n ⟨[], rfl, Nat.zero_le _, .nil⟩
end
end Mi
end
/-! ## MiE -/
section
set_option maxHeartbeats 1000000
/-! MiE: enumerate(v) over a tuple. -/
namespace Mi
open PySem PySem.Spec PyProof.Rows L2
open Sem (wp)
abbrev enumObj (i : Addr) : Obj := { cls := .type "enumerate", data := .fields #[.none, .bool false, .ref i, rawInt 0, .none, .none] }
theorem enumNew1 {v : Value} {o : Obj} {Hh : Heap → Prop} (B : Begins v o Hh) : Meets (Builtin.«enumerate.__new__» ⟨[.type "enumerate", v], []⟩) (fun _ R s => Hh s.heap ∧ R (.ok (.ret (.ref (s.heap.push o).objs.size))) { s with heap := (s.heap.push o).push (enumObj s.heap.objs.size) }) := by
  refine .of_wp fun prog w A R s w0 => ?_
  obtain ⟨hp, gs, dr, tk, os⟩ := s
  obtain ⟨hb, w0⟩ := w0
  have hsub := sub_enumerate
  have it : ∀ {A' : Around} {E : Value → Shared → Prop} {Q : Value → Shared → Prop}, Q (.ref hp.objs.size) ⟨hp.push o, gs, dr, tk, os⟩ → wpAny (model prog w) A' (pyIter v) Q E ⟨hp, gs, dr, tk, os⟩ := fun q => B.iter prog w _ _ _ _ hb q
  wp_walk using it
  refine wpAny_stack_any fun st => wpAny_pure ?_
  split
  · rename_i cl _ _ _ _ _
    cases (cl == Value.type "enumerate") <;> (wp_walk using it) <;> exact ⟨_, rfl, w0⟩
  · wp_walk using it
    exact ⟨_, rfl, w0⟩
section
variable {prog : Program} {w : World} {A : Around} {E : Value → Shared → Prop} {s : Shared}
theorem enumCall {v : Value} {o : Obj} {Hh : Heap → Prop} {Q : Value → Shared → Prop} (B : Begins v o Hh) (hb : Hh s.heap)
    (q : ∀ h', IsEnum h' (s.heap.objs.size + 1) s.heap.objs.size 0 .none → h'.get? s.heap.objs.size = some o → (∀ b o, s.heap.get? b = some o → h'.get? b = some o) → Q (.ref (s.heap.objs.size + 1)) { s with heap := h' }) :
    wpAny (model prog w) A (call (.type "enumerate") [v]) Q E s := by
  refine callType_new F.called_enumerate (by decide) (F.typeCall_enumerate_1 _) (F.newCall_enumerate_1 _) (fun obj => F.args_object_init_2 obj _) F.entry_enumerate_new (enumNew1 B) ⟨hb, ?_⟩
  have hz : (s.heap.push o).objs.size = s.heap.objs.size + 1 := Heap.size_push ..
  have he : IsEnum ((s.heap.push o).push (enumObj s.heap.objs.size)) (s.heap.objs.size + 1) s.heap.objs.size 0 .none := by
    have g := Heap.get?_push_size (s.heap.push o) (o := enumObj s.heap.objs.size) rfl
    rw [hz] at g
    exact g
  rw [hz]
  exact ⟨⟨_, he, rfl⟩, q _ he (Heap.get?_push_of_some _ (Heap.get?_push_size _ B.free)) fun b o x => Heap.get?_push_of_some _ (Heap.get?_push_of_some _ x)⟩
end
/-- a tuple's items by their numbers -/
def ItE (K : PySem.W.Frag) (a : Addr) : It :=
  ⟨fun i H => ∃ xs x, SqT K H a xs ∧ xs[i]? = some x, fun i H v H' => ∃ T x, v = .ref T ∧ H T = none ∧ H' = upd H T (.tup [.int (i : Nat), x]) ∧ ∀ xs, SqT K H a xs → xs[i]? = some x, fun i H => ∃ xs : List V, SqT K H a xs ∧ xs.length ≤ i⟩
theorem turnE {P : Program} {w : World} {K : PySem.W.Frag} {elts : List Expr} {kk : Nat} {tpos : Pos} (a e it : Addr) :
    Turn P w K (.Tuple elts kk tpos) (ItE K a) [e, it] e (fun i h => (∃ old, IsEnum h e it ((i : Nat) : Int) old) ∧ h.IsTupleIter it a i ∧ e ≠ it) := by
  have two : ∀ {b : Addr}, b ∈ [e, it] → b = e ∨ b = it := fun hb => by simpa using hb
  refine ⟨by simp, ?_, ?_, ?_, ?_, ?_⟩
  · rintro i h ⟨⟨old, he⟩, ⟨o, ho, hc, hd⟩, _⟩ b hb
    rcases two hb with rfl | rfl
    · exact ⟨_, he, fun v q => nomatch q⟩
    · exact ⟨o, ho, fun v q => by rw [hd] at q; cases q⟩
  · rintro i h h' ⟨⟨old, he⟩, hi, hne⟩ k
    exact ⟨⟨old, k e (by simp) _ he⟩, hi.at fun o q => k it (by simp) o q, hne⟩
  · intro X hP hw hK hc i pins s τ H E I hf st hg
    subst hP hw hK
    obtain ⟨⟨old, he⟩, hit, hne⟩ := st
    obtain ⟨xs, x, hq, hx⟩ := hg
    obtain ⟨its, rv, p, hz⟩ := I.tuple hq
    obtain ⟨u, hu, ru⟩ := rv.get hx
    have hel : e < s.heap.objs.size := Heap.lt_size he
    have hil : it < s.heap.objs.size := by obtain ⟨_, y, _⟩ := hit; exact Heap.lt_size y
    have nta : a ≠ it := by
      rintro rfl
      obtain ⟨o, g, c, _⟩ := p
      obtain ⟨o', g', c', _⟩ := hit
      rw [g] at g'; cases g'
      rw [c] at c'; exact absurd c' (by decide)
    have nea : e ≠ a := by
      rintro rfl
      obtain ⟨o, g, c, _⟩ := p
      have g' : s.heap.get? e = some _ := he
      rw [g] at g'; cases g'
      exact absurd (show Value.type "enumerate" = Value.type "tuple" from c) (by decide)
    have hlt : i < its.toArray.size := by rw [List.size_toArray]; exact (List.getElem?_eq_some_iff.mp hu).1
    have D := Draws.tuple (prog := X.prog) (w := X.w) (A := X.A.in1) (show X.A.in1.handled = none from I.ok.hd hc) it a nta its.toArray
    refine wpAny_pyNext_enum_itemC D he ⟨hit, p⟩ hlt hne (by simp; exact ⟨hne, nea⟩) fun y h' tk hy ho hst' hT hsz hk => ?_
    have ey : y = u := by
      have : its[i]? = some y := by simpa using hy
      rw [hu] at this; exact (Option.some.inj this).symm
    subst ey
    refine ⟨_, rfl, wpAny_letOwnedTupleGo_enum (s := { s with heap := h', toks := tk + 1 }) ho fun h2 he2 sb => ?_⟩
    have hT2 : h2.get? s.heap.objs.size = some { cls := .type "tuple", data := .seq #[.int i tk, y] } := (sb.2 _ (Nat.ne_of_gt hel)).trans hT
    have new : ObjOk X.prog X.w (upd H s.heap.objs.size (.tup [.int (i : Nat), x])) h2 s.heap.objs.size (.tup [.int (i : Nat), x]) :=
      ⟨(show 2 ≤ sizeLine by decide), [.int i tk, y], .cons ⟨_, rfl⟩ (.cons ru .nil), ⟨_, hT2, rfl, _, rfl⟩⟩
    have I1 : Inv X pins τ (upd H s.heap.objs.size (.tup [.int (i : Nat), x])) { s with heap := h2, toks := tk + 1 } := by
      refine I.turnedNew (ch := [e, it]) (fun b ob hb q => ?_) hf (Nat.le_refl _) new
      have n1 : b ≠ e := fun z => hb (by simp [z])
      have n2 : b ≠ it := fun z => hb (by simp [z])
      exact (sb.2 b n1).trans (hk b ob n1 n2 q)
    refine ⟨.ref s.heap.objs.size, _, I1, rfl, ⟨_, x, rfl, I.hok.fresh (Nat.le_refl _), rfl, fun ys hy => by rw [I.tuple_inj hy hq]; exact hx⟩, ⟨⟨y, ?_⟩, hst'.1.at fun o q => (sb.2 it (Ne.symm hne)).trans q, hne⟩, fun b hb => ?_⟩
    · have e1 : ((i + 1 : Nat) : Int) = (i : Int) + 1 := by omega
      rw [e1]; exact he2
    · have hb' : b < s.heap.objs.size := by rcases two hb with rfl | rfl <;> assumption
      rw [upd_ne (Nat.ne_of_lt hb')]
      exact (hf b hb).1
  · intro X hP hw hK hc i pins s τ H E I hf st hg
    subst hP hw hK
    obtain ⟨⟨old, he⟩, hit, hne⟩ := st
    obtain ⟨xs, hq, hx⟩ := hg
    obtain ⟨its, rv, p, hz⟩ := I.tuple hq
    obtain ⟨f0, f1, f2, f3, f4, f5⟩ := hf it (by simp)
    have hl := rv.length
    have nta : a ≠ it := by
      rintro rfl
      obtain ⟨o, g, c, _⟩ := p
      obtain ⟨o', g', c', _⟩ := hit
      rw [g] at g'; cases g'
      rw [c] at c'; exact absurd c' (by decide)
    have hh : X.A.in1.handled = none := I.ok.hd hc
    have D : Draws X.prog X.w X.A.in1 it [it, a] i (fun _ _ => True) (fun j h => j = i ∧ h.IsTupleIter it a j ∧ h.IsTuple a its.toArray) := by
      refine ⟨fun j h st => ?_, fun j h h' st k => ?_, fun j s Q E hj st q => absurd st.1 (Nat.ne_of_lt hj), fun s Q E st q => ?_⟩
      · obtain ⟨o, ho, _⟩ := st.2.1; exact ⟨o, ho⟩
      · exact ⟨st.1, st.2.1.at fun o g => k it (by simp) o g, st.2.2.at fun o g => k a (by simp) o g⟩
      · exact wpAny_nextOf_tuple_end hh st.2.1 st.2.2 (by rw [Array.getElem?_eq_none]; rw [List.size_toArray]; omega) q
    exact wpAny_pyNext_enum_endD D he ⟨rfl, hit, p⟩ fun h' eb => ⟨rfl, I.turned (t' := s.toks) (fun b o hb q => eb b o hb q) f0 f1 f3 f4 f5⟩
  · rintro A i s Q E ⟨⟨_, he⟩, _⟩ q
    exact wpAny_pyIter_enum he q
def iEnT (K : PySem.W.Frag) (ta : TA) : TI := fun τ H R => ta τ H fun vs H1 => ∃ a xs, vs = [.ref a] ∧ SqT K H1 a xs ∧ R (ItE K a) H1
theorem piEnT {X : Cx} {e : Expr} {ta : TA} {p pos tpos : Pos} {elts : List Expr} {kk : Nat} (hg : Gl X "enumerate") (hm : X.mg "enumerate" = none) (ha : PA X [e] ta) (hs : starEach [e] X.env = [(false, eval e X.env)]) :
    PI X (.Tuple elts kk tpos) (.Call (.Name "enumerate" p) [e] [] pos) (iEnT X.K ta) := by
  constructor
  intro pins s τ H R I w
  refine Call_ (ld_blt I hg hm boot_enumerate ?_)
  refine PyProof.Rows.callWith_type1 (thn (ha.run pos pins s τ H _ I w) ?_) hs rfl
  rintro us s1 ⟨vs, H1, I1, r1, a, xs, ex, hq, q⟩
  subst ex
  cases r1 with | cons r rr =>
  cases rr; cases r
  obtain ⟨its, rv, p', hz⟩ := I1.tuple hq
  refine enumCall (begins_tuple a its.toArray) p' fun h' he hit hk => wpAny_pyIter_enum he ?_
  have I2 : Inv X pins τ H1 { s1 with heap := h' } := I1.kept (t' := s1.toks) hk
  refine ⟨s1.heap.objs.size + 1, [s1.heap.objs.size + 1, s1.heap.objs.size], _, _, H1, rfl, I2, turnE a (s1.heap.objs.size + 1) s1.heap.objs.size, ⟨⟨.none, he⟩, ⟨_, hit, rfl, rfl⟩, Nat.succ_ne_self _⟩, fun b hb => ?_, q⟩
  have hle : s1.heap.objs.size ≤ b := by
    have e' : b = s1.heap.objs.size + 1 ∨ b = s1.heap.objs.size := by simpa using hb
    rcases e' with rfl | rfl
    · exact Nat.le_succ _
    · exact Nat.le_refl _
  exact I1.fpOk hle (I1.hok.fresh hle)
end Mi
end
/-! ## MiS7 -/
section
set_option maxHeartbeats 1000000
/-! MiS7: targets, what is walked, comprehensions. -/
namespace Mi
open PySem PySem.Spec PyProof.Rows L2
section
variable (K : PySem.W.Frag)
def RelItm (G : Hp) (ρ : List Addr) (H : Hp) : Itm → V → Prop
  | .one v, x => RelW K G ρ v x
  | .many ds, x => ∃ T vs, x = .ref T ∧ H T = some (.tup vs) ∧ RelDs G ds vs
theorem wipe_setN {τ : L2.St} {i : Nat} {x : Option V} : ∀ {vs : List Nat}, i ∉ vs → wipe (τ.set i x) vs = (wipe τ vs).set i x
  | [], _ => rfl
  | v :: vs, h => by
    have h1 : i ≠ v := fun e => h (by rw [e]; exact List.mem_cons_self)
    have h2 : i ∉ vs := fun e => h (List.mem_cons_of_mem _ e)
    show (wipe (τ.set i x) vs).set v none = ((wipe τ vs).set v none).set i x
    rw [wipe_setN h2, List.set_comm _ _ h1]
theorem wipe_setI {τ : L2.St} {i : Nat} {x : Option V} : ∀ {vs : List Nat}, i ∈ vs → wipe (τ.set i x) vs = wipe τ vs
  | v :: vs, h => by
    show (wipe (τ.set i x) vs).set v none = (wipe τ vs).set v none
    by_cases hi : i ∈ vs
    · rw [wipe_setI hi]
    · rcases List.mem_cons.mp h with e | e
      · subst e
        rw [wipe_setN hi, List.set_set]
      · exact absurd e hi
/-- a target is set: nothing of the heap changes -/
def tDG (t : Tg) : TG := fun x τ H Q => ∃ P G ρ σ h it σ', RelH K P G ρ h H ∧ RelF K G ρ σ τ ∧ RelItm K G ρ H it x ∧ tgItm t it σ = some σ' ∧ ∀ τ', RelF K G ρ σ' τ' → (∀ vs, tgIn vs t = true → wipe τ' vs = wipe τ vs) → Q τ' H
def tDGs (ts : List Tg) : TGs := fun xs τ H Q => ∃ P G ρ σ h ds σ', RelH K P G ρ h H ∧ RelF K G ρ σ τ ∧ RelDs G ds xs ∧ tgSet.tgs ts ds σ = some σ' ∧ ∀ τ', RelF K G ρ σ' τ' → (∀ vs, tgIns vs ts = true → wipe τ' vs = wipe τ vs) → Q τ' H
/-- an iterator gives these items, while g holds -/
def Srv (P G0 : Hp) (ρ0 : List Addr) (J : It) (is : List Itm) (g : Gd) : Prop := is.length ≤ sizeLine ∧ ∀ P' G ρ h H, True → Sub G0 G → Pre ρ0 ρ → RelH K P' G ρ h H → g.ok h = true →
  (∀ (i : Nat) it, is[i]? = some it → J.go i H ∧ ∀ x H', J.yld i H x H' → ∃ G', Sub G G' ∧ RelH K P' G' ρ h H' ∧ RelItm K G' ρ H' it x) ∧ J.stop is.length H
def RunI (P : Hp) (m : Option ((List Itm × Gd) × Hm)) (G : Hp) (ρ : List Addr) (R : It → Hp → Prop) (is : List Itm) (g : Gd) (h' : Hm) : Prop :=
  m = some ((is, g), h') ∧ ∀ G' ρ' H' J, Sub G G' → Pre ρ ρ' → RelH K P G' ρ' h' H' → Srv K P G' ρ' J is g → R J H'
def tDI (d : Fr → Hm → Option ((List Itm × Gd) × Hm)) : TI := fun τ H R => ∃ P G ρ σ h is g h', RelH K P G ρ h H ∧ RelF K G ρ σ τ ∧ RunI K P (d σ h) G ρ R is g h'
end
section
variable {X : Cx} {K : PySem.W.Frag} {P G H : Hp} {ρ : List Addr} {h : Hm} {σ : Fr} {τ : L2.St} {l r q : Expr} {da db dc : Fr → Hm → Option (Val × Hm)} {pos p0 : Pos}
theorem PG.imp {x : Expr} {t t' : TG} (p : PG X x t) (h : ∀ v σ H Q, t' v σ H Q → t v σ H Q) : PG X x t' := ⟨fun pins s σ H v u Q I r w => p.run pins s σ H v u Q I r (h _ _ _ _ w)⟩
theorem PGs.imp {x : List Expr} {t t' : TGs} (p : PGs X x t) (h : ∀ v σ H Q, t' v σ H Q → t v σ H Q) : PGs X x t' := ⟨fun pins s σ H v u Q I r w => p.run pins s σ H v u Q I r (h _ _ _ _ w)⟩
theorem RelF.set (rf : RelF K G ρ σ τ) {v : Val} {x : V} (rx : RelW K G ρ v x) (i : Nat) : RelF K G ρ (σ.set i (some v)) (τ.set i (some x)) := Paired.setP (show RelFo K G ρ (some v) (some x) from ⟨x, rfl, rx⟩) i rf
theorem gNm {i : Nat} {y : Str} (hN : X.N.Nodup) (hi : X.N[i]? = some y) (hx : Loc X.env.scope y) (hf : X.fn y = true ∨ X.env.scope.names.lookup y = some .local) : PG X (.Name y pos) (tDG X.K (.name i)) :=
  PG.imp (pg_name hN hi hx hf) fun x τ H Q ⟨P, G, ρ, σ, h, it, σ', rh, rf, ri, e, q⟩ => by
    cases it with
    | one v => cases e; exact q _ (RelF.set rf ri i) fun vs hv => wipe_setI (of_decide_eq_true hv)
    | many ds => cases e
/-- targets are no stars -/
theorem each_cons {e : Expr} {es : List Expr} {env : PySem.Env} (h : plainB e = true) : assignEach (e :: es) env = (false, assign e env) :: assignEach es env := by
  cases e <;> first | rfl | cases h
theorem each_len {env : PySem.Env} : ∀ {es : List Expr}, es.all plainB = true → (assignEach es env).length = es.length ∧ (assignEach es env).findIdx? (·.1) = none
  | [], _ => ⟨rfl, rfl⟩
  | e :: es, h => by
    rw [List.all_cons, Bool.and_eq_true] at h
    obtain ⟨h1, h2⟩ := each_len (env := env) h.2
    rw [each_cons h.1]
    exact ⟨by rw [List.length_cons, List.length_cons, h1], by rw [List.findIdx?_cons, h2]; rfl⟩
theorem tgs_len : ∀ {ts : List Tg} {ds : List PyData} {σ σ' : Fr}, tgSet.tgs ts ds σ = some σ' → ts.length = ds.length
  | [], [], _, _, _ => rfl
  | [], _ :: _, _, _, e => by unfold tgSet.tgs at e; cases e
  | _ :: _, [], _, _, e => by unfold tgSet.tgs at e; cases e
  | t :: ts, d :: ds, σ, σ', e => by
    unfold tgSet.tgs at e
    obtain ⟨σ1, _, e2⟩ := Option.bind_eq_some_iff.mp e
    rw [List.length_cons, List.length_cons, tgs_len e2]
theorem gNl : PGs X [] (tDGs X.K []) := PGs.imp pgs_nil fun xs τ H Q ⟨P, G, ρ, σ, h, ds, σ', rh, rf, rd, e, q⟩ => by
  cases ds with
  | nil =>
    unfold tgSet.tgs at e
    cases e
    unfold RelDs at rd
    exact ⟨rd, q _ rf fun _ _ => rfl⟩
  | cons _ _ => unfold tgSet.tgs at e; cases e
theorem gCn {e : Expr} {es : List Expr} {t : Tg} {ts : List Tg} (hp : plainB e = true) (h1 : PG X e (tDG X.K t)) (h2 : PGs X es (tDGs X.K ts)) : PGs X (e :: es) (tDGs X.K (t :: ts)) :=
  PGs.imp (pgs_cons h1 h2 (by rw [each_cons hp]; rfl)) fun xs τ H Q ⟨P, G, ρ, σ, h, ds, σ', rh, rf, rd, e, q⟩ => by
    cases ds with
    | nil => unfold tgSet.tgs at e; cases e
    | cons d ds =>
      unfold tgSet.tgs at e
      obtain ⟨σ1, e1, e2⟩ := Option.bind_eq_some_iff.mp e
      unfold RelDs at rd
      obtain ⟨v, vr, rfl, r1, r2⟩ := rd
      have e1' : tgItm t (.one (.dat d)) σ = some σ1 := by cases t <;> exact e1
      exact ⟨v, vr, rfl, P, G, ρ, σ, h, .one (.dat d), σ1, rh, rf, r1, e1', fun τ1 rf1 w1 => ⟨P, G, ρ, σ1, h, ds, σ', rh, rf1, r2, e2, fun τ2 rf2 w2 => q τ2 rf2 fun vs hv => by
        have hv' := (Bool.and_eq_true _ _).mp (show (tgIn vs t && tgIns vs ts) = true from hv)
        exact (w2 vs hv'.2).trans (w1 vs hv'.1)⟩⟩
theorem tgSet_tup {ts : List Tg} {v : Val} {σ' : Fr} (e : tgSet (.tup ts) v σ = some σ') : ∃ ds, v = vt ds ∧ tgSet.tgs ts ds σ = some σ' := by
  cases v with
  | dat d => cases d with
    | tuple ds => unfold tgSet at e; exact ⟨ds, rfl, e⟩
    | _ => unfold tgSet at e; cases e
  | ref n => unfold tgSet at e; cases e
  | scr ns => unfold tgSet at e; cases e
theorem gTp {es : List Expr} {ts : List Tg} {k : Nat} (hc : X.calm = true) (hp : es.all plainB = true) (hl : ts.length = es.length) (hs : PGs X es (tDGs X.K ts)) : PG X (.Tuple es k pos) (tDG X.K (.tup ts)) := by
  obtain ⟨l1, l2⟩ := each_len (env := X.env) hp
  refine PG.imp (pg_tup hc hs l1 l2) fun x τ H Q ⟨P, G, ρ, σ, h, it, σ', rh, rf, ri, e, q⟩ => ?_
  have fin : ∀ {ds : List PyData} {vs : List V}, RelDs G ds vs → tgSet.tgs ts ds σ = some σ' → vs.length = es.length ∧ tDGs X.K ts vs τ H Q := fun {ds vs} rd e => by
    have := tgs_len e
    have := rd.len
    exact ⟨by omega, P, G, ρ, σ, h, ds, σ', rh, rf, rd, e, q⟩
  cases it with
  | one v =>
    obtain ⟨ds, rfl, e'⟩ := tgSet_tup e
    obtain ⟨a, vs, rfl, hq2, _, rd⟩ := dTup rh ri
    obtain ⟨f1, f2⟩ := fin rd e'
    exact ⟨a, vs, rfl, hq2, f1, f2⟩
  | many ds =>
    obtain ⟨T, vs, rfl, hT, rd⟩ := ri
    obtain ⟨f1, f2⟩ := fin rd e
    exact ⟨T, vs, rfl, .inl (.inl hT), f1, f2⟩
/-! ### what is walked -/
theorem PI.imp {tg x : Expr} {t t' : TI} (p : PI X tg x t) (h : ∀ σ H R, t' σ H R → t σ H R) : PI X tg x t' := ⟨fun pins s σ H R I w => p.run pins s σ H R I (h _ _ _ w)⟩
theorem PI.or {tg x : Expr} {t t' : TI} (p : PI X tg x t) (p' : PI X tg x t') : PI X tg x (fun σ H R => t σ H R ∨ t' σ H R) := ⟨fun pins s σ H R I w => w.elim (p.run pins s σ H R I) (p'.run pins s σ H R I)⟩
theorem piD {tg x : Expr} {t : TI} {d : Fr → Hm → Option ((List Itm × Gd) × Hm)} (p : PI X tg x t) (hh : ∀ (P G : Hp) (ρ : List Addr) (σ : Fr) (h : Hm) (τ : L2.St) (H : Hp) (R : It → Hp → Prop) is g h', At K P G ρ σ h τ H → RunI K P (d σ h) G ρ R is g h' → t τ H R) : PI X tg x (tDI K d) :=
  PI.imp p fun τ H R ⟨P, G, ρ, σ, h, is, g, h', rh, rf, r⟩ => hh P G ρ σ h τ H R is g h' ⟨rh, rf⟩ r
theorem RunI.stepE {d : Fr → Hm → Option (Val × Hm)} {f : Val × Hm → Option ((List Itm × Gd) × Hm)} {R : It → Hp → Prop} {Q' : VK} {is : List Itm} {g : Gd} {h' : Hm} (a : At K P G ρ σ h τ H) (r : RunI K P ((d σ h).bind f) G ρ R is g h')
    (q : ∀ v h1 G1 ρ1 x H1, At K P G1 ρ1 σ h1 τ H1 → Sub G G1 → Pre ρ ρ1 → RelW K G1 ρ1 v x → d σ h = some (v, h1) → RunI K P (f (v, h1)) G1 ρ1 R is g h' → Q' x H1) : tD K d τ H Q' := by
  obtain ⟨e, z⟩ := r
  obtain ⟨⟨v, h1⟩, e1, e2⟩ := Option.bind_eq_some_iff.mp e
  exact tD.of a ⟨v, h1, e1, fun G1 ρ1 H1 x s p rh rx => q v h1 G1 ρ1 x H1 (a.next s p rh) s p rx e1 ⟨e2, fun G2 ρ2 H2 J s2 p2 => z G2 ρ2 H2 J (s.trans s2) (p.trans p2)⟩⟩
theorem RunI.now {R : It → Hp → Prop} {is is' : List Itm} {g g' : Gd} {h' : Hm} {J : It} (a : At K P G ρ σ h τ H) (r : RunI K P (some ((is', g'), h)) G ρ R is g h') (s : Srv K P G ρ J is' g') : R J H := by
  obtain ⟨e, z⟩ := r
  cases e
  exact z G ρ H J Sub.rfl (List.prefix_refl _) a.hp s
theorem RunI.not {R : It → Hp → Prop} {is : List Itm} {g : Gd} {h' : Hm} {Z : Prop} (r : RunI K P none G ρ R is g h') : Z := by cases r.1
/-- from a walk of the layer -/
theorem srv_of {J : It} {n : Nat} {Gw : Hp → Prop} {Y : Nat → Hp → V → Hp → Prop} {is : List Itm} {g : Gd} (w : Walk J n Gw Y) (hn : is.length = n) (hz : n ≤ sizeLine)
    (h1 : ∀ P' G' ρ' h H, True → Sub G G' → Pre ρ ρ' → RelH K P' G' ρ' h H → g.ok h = true → Gw H)
    (h2 : ∀ P' G' ρ' h H i it x H', True → Sub G G' → Pre ρ ρ' → RelH K P' G' ρ' h H → g.ok h = true → is[i]? = some it → Y i H x H' → ∃ G2, Sub G' G2 ∧ RelH K P' G2 ρ' h H' ∧ RelItm K G2 ρ' H' it x) : Srv K P G ρ J is g := by
  refine ⟨hn ▸ hz, ?_⟩
  intro P' G' ρ' h H sp s p rh ok
  have gw := h1 P' G' ρ' h H sp s p rh ok
  refine ⟨fun i it ei => ?_, hn ▸ w.stops H gw⟩
  have hi : i < n := by rw [← hn]; exact (List.getElem?_eq_some_iff.mp ei).1
  exact ⟨w.goes i H hi gw, fun x H' y => h2 P' G' ρ' h H i it x H' sp s p rh ok ei (w.yields i H x H' hi gw y)⟩
theorem itm_at {vs : List Val} {xs : List V} {i : Nat} {it : Itm} {x : V} (r : RelWs K G ρ vs xs) (e : (vs.map Itm.one)[i]? = some it) (ex : xs[i]? = some x) : RelItm K G ρ H it x := by
  rw [List.getElem?_map] at e
  obtain ⟨v, e1, rfl⟩ := Option.map_eq_some_iff.mp e
  obtain ⟨y, ey, ry⟩ := Paired.getL r e1
  rw [ex] at ey; cases ey
  exact ry
/-- a list or tuple that stands -/
theorem srvL {b : Addr} {xs : List V} {vs : List Val} (hz : xs.length ≤ sizeLine) (hq : SqL K G b xs) (r : RelWs K G ρ vs xs) : Srv K P G ρ (Itl K b) (vs.map .one) none :=
  srv_of walk_list (by rw [List.length_map]; exact Paired.length r) hz (fun P' G' ρ' h H _ s p rh _ => sqSub (s.trans rh.sub) hq) fun P' G' ρ' h H i it x H' _ s p rh _ e y => by
    obtain ⟨rfl, ex⟩ := y
    exact ⟨G', Sub.rfl, rh, itm_at (RelWs.mono s p r) e ex⟩
theorem sqtSub {G' : Hp} {a : Addr} {xs : List V} (s : Sub G G') (q : SqT K G a xs) : SqT K G' a xs := by
  rcases q with q | q
  · exact .inl (rdSub s q)
  · exact .inr q
theorem srvT {b : Addr} {xs : List V} {vs : List Val} (hz : xs.length ≤ sizeLine) (hq : SqT K G b xs) (r : RelWs K G ρ vs xs) : Srv K P G ρ (Itt K b) (vs.map .one) none :=
  srv_of walk_tup (by rw [List.length_map]; exact Paired.length r) hz (fun P' G' ρ' h H _ s p rh _ => sqtSub (s.trans rh.sub) hq) fun P' G' ρ' h H i it x H' _ s p rh _ e y => by
    obtain ⟨rfl, ex⟩ := y
    exact ⟨G', Sub.rfl, rh, itm_at (RelWs.mono s p r) e ex⟩
/-- a list of Mi's heap, while it stands -/
theorem srvR {n : Nat} {b : Addr} {vs : List Val} (hz : vs.length ≤ sizeLine) (e : ρ[n]? = some b) : Srv K P G ρ (Itl K b) (vs.map .one) (some (n, vs)) := by
  refine ⟨by rw [List.length_map]; exact hz, ?_⟩
  intro P' G' ρ' h H _ s p rh ok
  have ok' : h[n]? = some (.lst vs) := of_decide_eq_true ok
  obtain ⟨b', xs, eb, hb, z, r⟩ := rh.lst ok'
  rw [p.get e] at eb; cases eb
  have hl : vs.length = xs.length := Paired.length r
  refine ⟨fun i it ei => ?_, ⟨xs, .of hb, by rw [List.length_map]; omega⟩⟩
  have hi : i < xs.length := by
    have := (List.getElem?_eq_some_iff.mp ei).1
    rw [List.length_map] at this; omega
  refine ⟨⟨xs, xs[i], .of hb, List.getElem?_eq_getElem hi⟩, fun x H' y => ?_⟩
  obtain ⟨rfl, ex⟩ := y
  exact ⟨G', Sub.rfl, rh, itm_at r ei (ex xs (.of hb))⟩
theorem srvRg {lo : Int} {n : Nat} (hz : n ≤ sizeLine) : Srv K P G ρ (Itr lo n) ((List.range n).map fun (k : Nat) => Itm.one (vi (lo + (k : Int)))) none :=
  srv_of walk_range (by rw [List.length_map, List.length_range]) hz (fun _ _ _ _ _ _ _ _ _ _ => trivial) fun P' G' ρ' h H i it x H' _ s p rh _ e y => by
    obtain ⟨rfl, rfl⟩ := y
    rw [List.getElem?_map] at e
    obtain ⟨k, e1, rfl⟩ := Option.map_eq_some_iff.mp e
    obtain ⟨hk, e2⟩ := List.getElem?_eq_some_iff.mp e1
    rw [List.getElem_range] at e2
    subst e2
    exact ⟨G', Sub.rfl, rh, rwInt (K := K) (G := G') (ρ := ρ') (i := lo + (i : Int))⟩
/-- pairs that are new -/
theorem pair_ok {G' H' : Hp} {T : Addr} {x y : V} {d e : PyData} (rh : RelH K P G ρ h H) (n : H T = none) (r1 : RelD G d x) (r2 : RelD G e y) : ∃ G2, Sub G G2 ∧ RelH K P G2 ρ h (upd H T (.tup [x, y])) ∧ RelItm K G2 ρ (upd H T (.tup [x, y])) (.many [d, e]) (.ref T) := by
  have n' := rh.sub.fresh n
  refine ⟨upd G T (.tup [x, y]), Sub.new n', rh.frozen n, T, [x, y], rfl, upd_same, ?_⟩
  have k := (Sub.new (o := .tup [x, y]) n').keeps
  unfold RelDs
  refine ⟨x, [y], rfl, r1.keep k, ?_⟩
  unfold RelDs
  refine ⟨y, [], rfl, r2.keep k, ?_⟩
  unfold RelDs; rfl
theorem pairI_get : ∀ (ds : List PyData) (k i : Nat) (it : Itm), (pairI k ds)[i]? = some it → ∃ d, ds[i]? = some d ∧ it = .many [.int ((k + i : Nat) : Int), d]
  | [], _, _, _, e => by unfold pairI at e; simp at e
  | d :: ds, k, 0, it, e => by unfold pairI at e; simp at e; exact ⟨d, rfl, e.symm⟩
  | d :: ds, k, i + 1, it, e => by
    unfold pairI at e
    rw [List.getElem?_cons_succ] at e
    obtain ⟨d', e1, e2⟩ := pairI_get ds (k + 1) i it e
    exact ⟨d', by simpa using e1, by rw [e2, show k + 1 + i = k + (i + 1) by omega]⟩
theorem pairI_len : ∀ (ds : List PyData) (k : Nat), (pairI k ds).length = ds.length
  | [], _ => rfl
  | d :: ds, k => by unfold pairI; rw [List.length_cons, List.length_cons, pairI_len ds]
theorem RelDs.getD {ds : List PyData} {xs : List V} {i : Nat} {d : PyData} {x : V} (r : RelDs G ds xs) (e : ds[i]? = some d) (ex : xs[i]? = some x) : RelD G d x := by
  obtain ⟨y, ey, ry⟩ := Paired.getL (RelDs.pair.mp r) e
  rw [ex] at ey; cases ey
  exact ry
theorem srvEL {b : Addr} {xs : List V} {ds : List PyData} (hz : xs.length ≤ sizeLine) (hq : SqL K G b xs) (r : RelDs G ds xs) : Srv K P G ρ (Ite K b) (pairI 0 ds) none :=
  srv_of walk_enum (by rw [pairI_len]; exact r.len) hz (fun P' G' ρ' h H _ s p rh _ => sqSub (s.trans rh.sub) hq) fun P' G' ρ' h H i it x H' _ s p rh _ e y => by
    obtain ⟨T, y1, y2, rfl, n, rfl, e1, e2⟩ := y
    obtain ⟨d, ed, rfl⟩ := pairI_get ds 0 i it e
    cases e1
    rw [Nat.zero_add]
    exact pair_ok (G' := G') (H' := H) rh n rdInt ((r.keep s.keeps).getD ed e2)
theorem srvET {b : Addr} {xs : List V} {ds : List PyData} (hz : xs.length ≤ sizeLine) (hq : SqT K G b xs) (r : RelDs G ds xs) : Srv K P G ρ (ItE K b) (pairI 0 ds) none := by
  refine ⟨by rw [pairI_len, r.len]; exact hz, ?_⟩
  intro P' G' ρ' h H _ s p rh _
  have hb := sqtSub (s.trans rh.sub) hq
  have hl := r.len
  refine ⟨fun i it ei => ?_, ⟨xs, hb, by rw [pairI_len]; omega⟩⟩
  obtain ⟨d, ed, rfl⟩ := pairI_get ds 0 i it ei
  have hi : i < xs.length := by have := (List.getElem?_eq_some_iff.mp ed).1; omega
  refine ⟨⟨xs, xs[i], hb, List.getElem?_eq_getElem hi⟩, fun x H' y => ?_⟩
  obtain ⟨T, y2, rfl, n, rfl, e2⟩ := y
  rw [Nat.zero_add]
  exact pair_ok (G' := G') (H' := H) rh n rdInt ((r.keep s.keeps).getD ed (e2 xs hb))
end
end Mi
end
/-! ## MiZ -/
section
set_option maxHeartbeats 1000000
/-! MiZ: zip of a tuple with a list: any two iterators of which each step is known. -/
namespace MiZ
open PySem PySem.Spec PyProof.Rows L2
/-- what stands at all other places stands there -/
def Kp (bad : List Addr) (h h' : Heap) : Prop := ∀ c o, c ∉ bad → h.get? c = some o → h'.get? c = some o
theorem Kp.of1 {a : Addr} {bad : List Addr} {h h' : Heap} (e : Heap.ExtBut a h h') (m : a ∈ bad) : Kp bad h h' := fun c o n q => e c o (fun z => n (z ▸ m)) q
theorem Kp.tr {bad : List Addr} {h1 h2 h3 : Heap} (a : Kp bad h1 h2) (b : Kp bad h2 h3) : Kp bad h1 h3 := fun c o n q => b c o n (a c o n q)
theorem Kp.wk {bad bad' : List Addr} {h1 h2 : Heap} (a : Kp bad h1 h2) (m : ∀ c ∈ bad, c ∈ bad') : Kp bad' h1 h2 := fun c o n q => a c o (fun z => n (m c z)) q
/-- an iterator whose next step gives v and leads from S to T -/
def Stp (prog : Program) (w : World) (it : Addr) (S T : Heap → Prop) (v : Value) : Prop := ∀ (A : Around) (E : Value → Shared → Prop) (s : Shared) (Q : Value → Shared → Prop), S s.heap →
  (∀ g, T g → Heap.SameBut it s.heap g → Q v { s with heap := g }) → wpAny (model prog w) A (Builtin.SmallTypes.nextOf (.ref it)) Q E s
/-- an iterator that ends -/
def Ens (prog : Program) (w : World) (it : Addr) (S : Heap → Prop) : Prop := ∀ (A : Around) (E : Value → Shared → Prop) (s : Shared) (Q : Value → Shared → Prop), A.handled = none → S s.heap →
  (∀ g x, Heap.ExtBut it s.heap g → (∃ o, g.get? x = some o ∧ o.cls = .type "StopIteration") → E (.ref x) { s with heap := g }) → wpAny (model prog w) A (Builtin.SmallTypes.nextOf (.ref it)) Q E s
section
variable {prog : Program} {w : World} {A : Around} {E : Value → Shared → Prop} {s : Shared} {zz ins out j1 j2 : Addr} {u0 v0 u v : Value} {S1 T1 S2 T2 : Heap → Prop}
structure Ap (zz ins out j1 j2 : Addr) : Prop where
  a1 : ins ≠ zz
  a2 : out ≠ zz
  a3 : j1 ≠ zz
  a4 : j2 ≠ zz
  a5 : ins ≠ out
  a6 : out ≠ j1
  a7 : out ≠ j2
  a8 : j1 ≠ j2
theorem nextItem {Q : Value → Shared → Prop} (D : Ap zz ins out j1 j2) (iz : IsZip s.heap zz ins out .none) (pin : IsPair s.heap ins (.ref j1) (.ref j2)) (pout : IsPair s.heap out u0 v0)
    (st1 : Stp prog w j1 S1 T1 u) (st2 : Stp prog w j2 S2 T2 v) (k1 : ∀ g g', Kp [zz, out, j2] g g' → S1 g → S1 g') (k1' : ∀ g g', Kp [zz, out, j2] g g' → T1 g → T1 g') (k2 : ∀ g g', Kp [zz, out, j1] g g' → S2 g → S2 g') (k2' : ∀ g g', Kp [zz, out, j1] g g' → T2 g → T2 g')
    (i1 : S1 s.heap) (i2 : S2 s.heap)
    (q : ∀ g, IsZip g zz ins out (rawInt s.heap.objs.size) → IsPair g out u v → T1 g → T2 g → IsPair g s.heap.objs.size u v → g.objs.size = s.heap.objs.size + 1 → Kp [zz, out, j1, j2] s.heap g → Q (.ref s.heap.objs.size) { s with heap := g }) :
    wpAny (model prog w) A (Builtin.«zip.__next__» ⟨[.ref zz], []⟩) (fun f t => ∃ y, f = .done (.ret y) ∧ Q y t) E s := by
  show wpAny _ _ (field (.ref zz) 2 >>= _) _ _ _
  refine wpAny_bind (wpAny_field iz rfl (x := .bool false) rfl ?_)
  show wpAny _ _ (field (.ref zz) 3 >>= _) _ _ _
  refine wpAny_bind (wpAny_field iz rfl (x := .ref ins) rfl ?_)
  refine wpAny_bind (wpAny_seqItems pin rfl ?_)
  show wpAny _ _ (Builtin.SmallTypes.ownedTupleIsFree (.ref zz) >>= _) _ _ _
  refine wpAny_bind ?_
  unfold Builtin.SmallTypes.ownedTupleIsFree
  refine wpAny_bind (wpAny_field iz rfl (x := .none) rfl (wpAny_pure ?_))
  simp only [if_true]
  refine wpAny_bind (wpAny_rule ?_)
  refine wpAny_bind (wpAny_field iz rfl (x := .ref out) rfl ?_)
  refine wpAny_bind (wpAny_setField_rec iz (by simp) fun ga iza ea => ?_)
  replace iza : IsZip ga zz ins out .ellipsis := iza
  refine wpAny_bind ?_
  simp only [List.zipIdx_cons, List.zipIdx_nil, List.forIn_cons, List.forIn_nil]
  have ka : Kp [zz, out, j1, j2] s.heap ga := .of1 ea.extBut (by simp)
  refine wpAny_bind (wpAny_bind (wpAny_onRaise ?_))
  show wpAny _ _ (Builtin.SmallTypes.nextOf (.ref j1) >>= _) _ _ _
  refine wpAny_bind (st1 _ _ { s with heap := ga } _ (k1 _ _ (.of1 ea.extBut (by simp)) i1) fun gb tb eb => wpAny_pure ?_)
  have poutb : IsPair gb out u0 v0 := eb.extBut _ _ D.a6 (ea.extBut _ _ D.a2 pout)
  refine wpAny_bind (wpAny_seqItems poutb rfl ?_)
  refine wpAny_bind (wpAny_updateSeq_pair poutb fun gc poutc ec => ?_)
  replace poutc : IsPair gc out u v0 := poutc
  refine wpAny_bind (wpAny_letGo (wpAny_pure ?_))
  refine wpAny_bind (wpAny_bind (wpAny_onRaise ?_))
  show wpAny _ _ (Builtin.SmallTypes.nextOf (.ref j2) >>= _) _ _ _
  refine wpAny_bind (st2 _ _ { s with heap := gc } _ (k2 _ _ ((Kp.of1 ea.extBut (by simp)).tr ((Kp.of1 eb.extBut (by simp)).tr (.of1 ec.extBut (by simp)))) i2) fun gd td ed => wpAny_pure ?_)
  have poutd : IsPair gd out u v0 := ed.extBut _ _ D.a7 poutc
  refine wpAny_bind (wpAny_seqItems poutd rfl ?_)
  refine wpAny_bind (wpAny_updateSeq_pair poutd fun ge poute ee => ?_)
  replace poute : IsPair ge out u v := poute
  refine wpAny_bind (wpAny_letGo (wpAny_pure (wpAny_pure ?_)))
  refine wpAny_bind (wpAny_seqItems poute rfl ?_)
  refine wpAny_bind (wpAny_newTuple ?_)
  have sz : ge.objs.size = s.heap.objs.size := by rw [ee.1, ed.1, ec.1, eb.1, ea.1]
  have ize : IsZip ge zz ins out .ellipsis := ee.extBut _ _ D.a2.symm (ed.extBut _ _ D.a4.symm (ec.extBut _ _ D.a2.symm (eb.extBut _ _ D.a3.symm iza)))
  have ke : Kp [zz, out, j1, j2] s.heap ge := ka.tr ((Kp.of1 eb.extBut (by simp)).tr ((Kp.of1 ec.extBut (by simp)).tr ((Kp.of1 ed.extBut (by simp)).tr (.of1 ee.extBut (by simp)))))
  have te1 : T1 ge := k1' _ _ ((Kp.of1 ec.extBut (by simp)).tr ((Kp.of1 ed.extBut (by simp)).tr (.of1 ee.extBut (by simp)))) tb
  have te2 : T2 ge := k2' _ _ (.of1 ee.extBut (by simp)) td
  have zlt : zz < ge.objs.size := Heap.lt_size ize
  show wpAny _ _ (Builtin.SmallTypes.ownedTupleHandOut (.ref zz) (.ref ge.objs.size) >>= _) _ _ _
  refine wpAny_bind ?_
  unfold Builtin.SmallTypes.ownedTupleHandOut
  have izf : IsZip (ge.push { cls := .type "tuple", data := .seq #[u, v] }) zz ins out .ellipsis := Heap.get?_push_of_some _ ize
  refine wpAny_bind (wpAny_setField_rec izf (by simp) fun gg izg eg => ?_)
  replace izg : IsZip gg zz ins out (rawInt ge.objs.size) := izg
  refine wpAny_setField_rec izg (by simp) fun gh izh eh => ?_
  replace izh : IsZip gh zz ins out (rawInt ge.objs.size) := izh
  have lift : ∀ c o, c ≠ zz → ge.get? c = some o → gh.get? c = some o := fun c o n x => eh.extBut _ _ n (eg.extBut _ _ n (Heap.get?_push_of_some _ x))
  have newP : IsPair gh ge.objs.size u v := eh.extBut _ _ (Nat.ne_of_gt zlt) (eg.extBut _ _ (Nat.ne_of_gt zlt) (Heap.get?_push_size _ rfl))
  have szh : gh.objs.size = ge.objs.size + 1 := by rw [eh.1, eg.1, Heap.size_push]
  rw [sz] at izh newP szh
  refine wpAny_pure ⟨_, rfl, ?_⟩
  show Q (.ref ge.objs.size) _
  rw [sz]
  have kl : ∀ (bad : List Addr), zz ∈ bad → Kp bad ge gh := fun bad m c o n x => lift c o (fun z => n (z ▸ m)) x
  exact q gh izh (lift _ _ D.a2 poute) (k1' _ _ (kl _ (by simp)) te1) (k2' _ _ (kl _ (by simp)) te2) newP szh (ke.tr (kl _ (by simp)))
theorem nextEnd {Q : Fin → Shared → Prop} (hh : A.handled = none) (D : Ap zz ins out j1 j2) (iz : IsZip s.heap zz ins out .none) (pin : IsPair s.heap ins (.ref j1) (.ref j2)) (pout : IsPair s.heap out u0 v0)
    (st : Ens prog w j1 S1 ∨ (Stp prog w j1 S1 T1 u ∧ Ens prog w j2 S2)) (k1 : ∀ g g', Kp [zz, out, j2] g g' → S1 g → S1 g') (k2 : ∀ g g', Kp [zz, out, j1] g g' → S2 g → S2 g') (i1 : S1 s.heap) (i2 : S2 s.heap)
    (q : ∀ g x, Kp [zz, out, j1, j2] s.heap g → (∃ o, g.get? x = some o ∧ o.cls = .type "StopIteration") → E (.ref x) { s with heap := g }) :
    wpAny (model prog w) A (Builtin.«zip.__next__» ⟨[.ref zz], []⟩) Q E s := by
  show wpAny _ _ (field (.ref zz) 2 >>= _) _ _ _
  refine wpAny_bind (wpAny_field iz rfl (x := .bool false) rfl ?_)
  show wpAny _ _ (field (.ref zz) 3 >>= _) _ _ _
  refine wpAny_bind (wpAny_field iz rfl (x := .ref ins) rfl ?_)
  refine wpAny_bind (wpAny_seqItems pin rfl ?_)
  show wpAny _ _ (Builtin.SmallTypes.ownedTupleIsFree (.ref zz) >>= _) _ _ _
  refine wpAny_bind ?_
  unfold Builtin.SmallTypes.ownedTupleIsFree
  refine wpAny_bind (wpAny_field iz rfl (x := .none) rfl (wpAny_pure ?_))
  simp only [if_true]
  refine wpAny_bind (wpAny_rule ?_)
  refine wpAny_bind (wpAny_field iz rfl (x := .ref out) rfl ?_)
  refine wpAny_bind (wpAny_setField_rec iz (by simp) fun ga iza ea => ?_)
  replace iza : IsZip ga zz ins out .ellipsis := iza
  refine wpAny_bind ?_
  simp only [List.zipIdx_cons, List.zipIdx_nil, List.forIn_cons, List.forIn_nil]
  have ka : Kp [zz, out, j1, j2] s.heap ga := .of1 ea.extBut (by simp)
  refine wpAny_bind (wpAny_bind (wpAny_onRaise ?_))
  show wpAny _ _ (Builtin.SmallTypes.nextOf (.ref j1) >>= _) _ _ _
  rcases st with st1 | ⟨st1, st2⟩
  · refine wpAny_bind (st1 _ _ { s with heap := ga } _ hh (k1 _ _ (.of1 ea.extBut (by simp)) i1) fun gb x eb hx => ?_)
    obtain ⟨ox, hox, hcx⟩ := hx
    have izb : IsZip gb zz ins out .ellipsis := eb _ _ D.a3.symm iza
    have nx : x ≠ zz := fun e => by subst e; rw [izb] at hox; cases hox; simp at hcx
    refine wpAny_setField_rec izb (by simp) fun gc _ ec => q gc x (ka.tr ((Kp.of1 eb (by simp)).tr (.of1 ec.extBut (by simp)))) ⟨ox, ec.extBut _ _ nx hox, hcx⟩
  · refine wpAny_bind (st1 _ _ { s with heap := ga } _ (k1 _ _ (.of1 ea.extBut (by simp)) i1) fun gb tb eb => wpAny_pure ?_)
    have poutb : IsPair gb out u0 v0 := eb.extBut _ _ D.a6 (ea.extBut _ _ D.a2 pout)
    refine wpAny_bind (wpAny_seqItems poutb rfl ?_)
    refine wpAny_bind (wpAny_updateSeq_pair poutb fun gc poutc ec => ?_)
    refine wpAny_bind (wpAny_letGo (wpAny_pure ?_))
    refine wpAny_bind (wpAny_bind (wpAny_onRaise ?_))
    show wpAny _ _ (Builtin.SmallTypes.nextOf (.ref j2) >>= _) _ _ _
    refine wpAny_bind (st2 _ _ { s with heap := gc } _ hh (k2 _ _ ((Kp.of1 ea.extBut (by simp)).tr ((Kp.of1 eb.extBut (by simp)).tr (.of1 ec.extBut (by simp)))) i2) fun gd x ed hx => ?_)
    obtain ⟨ox, hox, hcx⟩ := hx
    have izd : IsZip gd zz ins out .ellipsis := ed _ _ D.a4.symm (ec.extBut _ _ D.a2.symm (eb.extBut _ _ D.a3.symm iza))
    have nx : x ≠ zz := fun e => by subst e; rw [izd] at hox; cases hox; simp at hcx
    refine wpAny_setField_rec izd (by simp) fun ge _ ee => q ge x (ka.tr ((Kp.of1 eb.extBut (by simp)).tr ((Kp.of1 ec.extBut (by simp)).tr ((Kp.of1 ed (by simp)).tr (.of1 ee.extBut (by simp)))))) ⟨ox, ee.extBut _ _ nx hox, hcx⟩
end
/-- the tuple at a and the list at b as they stand at each turn, the items in new pairs -/
def ItzM (K : PySem.W.Frag) (a b : Addr) : It :=
  ⟨fun i H => ∃ (xs ys : List V) (x y : V), SqT K H a xs ∧ SqL K H b ys ∧ xs[i]? = some x ∧ ys[i]? = some y,
    fun i H v H' => ∃ T x y, v = .ref T ∧ H T = none ∧ H' = upd H T (.tup [x, y]) ∧ (∀ xs, SqT K H a xs → xs[i]? = some x) ∧ ∀ ys, SqL K H b ys → ys[i]? = some y,
    fun i H => ∃ xs ys : List V, SqT K H a xs ∧ SqL K H b ys ∧ (xs.length ≤ i ∨ ys.length ≤ i)⟩
/-- all that is known of the zip's five objects -/
structure Zst (zz ins out j1 j2 a b : Addr) (i : Nat) (h : Heap) : Prop where
  iz : IsZip h zz ins out .none
  pin : IsPair h ins (.ref j1) (.ref j2)
  pout : ∃ x y, IsPair h out x y
  t1 : h.IsTupleIter j1 a i
  t2 : h.IsListIter j2 b i
theorem nin3 {c x y z : Addr} (h1 : c ≠ x) (h2 : c ≠ y) (h3 : c ≠ z) : c ∉ [x, y, z] := by simp [h1, h2, h3]
theorem kT {bad : List Addr} {j l : Addr} {i : Nat} (n1 : j ∉ bad) : ∀ g g', Kp bad g g' → g.IsTupleIter j l i → g'.IsTupleIter j l i := fun g g' k t => t.at fun o q => k j o n1 q
theorem kL {bad : List Addr} {j l : Addr} {i : Nat} (n1 : j ∉ bad) : ∀ g g', Kp bad g g' → g.IsListIter j l i → g'.IsListIter j l i := fun g g' k t => t.at fun o q => k j o n1 q
theorem kTt {bad : List Addr} {l : Addr} {xs : Array Value} (n1 : l ∉ bad) : ∀ g g', Kp bad g g' → g.IsTuple l xs → g'.IsTuple l xs := fun g g' k ⟨o, ho, r⟩ => ⟨o, k l o n1 ho, r⟩
theorem kLl {bad : List Addr} {l : Addr} {xs : Array Value} (n1 : l ∉ bad) : ∀ g g', Kp bad g g' → g.IsList l xs → g'.IsList l xs := fun g g' k ⟨o, ho, r⟩ => ⟨o, k l o n1 ho, r⟩
theorem ap_of {zz ins out j1 j2 a b : Addr} (D : ZipApart zz ins out j1 j2 a b) : Ap zz ins out j1 j2 := ⟨D.TIz, D.TOz, D.i1z, D.i2z, D.TITO, D.TOi1, D.TOi2, D.i12⟩
theorem turnM {P : Program} {w : World} {K : PySem.W.Frag} {elts : List Expr} {kk : Nat} {tpos : Pos} {a b zz ins out j1 j2 : Addr} (D : ZipApart zz ins out j1 j2 a b) :
    Turn P w K (.Tuple elts kk tpos) (ItzM K a b) [zz, ins, out, j1, j2] zz (Zst zz ins out j1 j2 a b) where
  mem := List.mem_cons_self
  obj := fun i h st c hc => by
    obtain ⟨x, y, po⟩ := st.pout
    obtain ⟨o1, g1, _, d1⟩ := st.t1
    obtain ⟨o2, g2, _, d2⟩ := st.t2
    simp only [List.mem_cons, List.not_mem_nil, or_false] at hc
    rcases hc with rfl | rfl | rfl | rfl | rfl
    · exact ⟨_, st.iz, fun _ e => by cases e⟩
    · exact ⟨_, st.pin, fun _ e => by cases e⟩
    · exact ⟨_, po, fun _ e => by cases e⟩
    · exact ⟨o1, g1, fun _ e => by rw [d1] at e; cases e⟩
    · exact ⟨o2, g2, fun _ e => by rw [d2] at e; cases e⟩
  keep := fun i h h' st k => by
    obtain ⟨x, y, po⟩ := st.pout
    exact ⟨k zz (by simp) _ st.iz, k ins (by simp) _ st.pin, ⟨x, y, k out (by simp) _ po⟩, st.t1.at fun o e => k j1 (by simp) o e, st.t2.at fun o e => k j2 (by simp) o e⟩
  item := by
    intro X hP hw hK hc i pins s σ H E I hf st hg
    subst hP hw hK
    obtain ⟨u0, v0, po⟩ := st.pout
    obtain ⟨xs, ys, x, y, hqx, hqy, hx, hy⟩ := hg
    obtain ⟨its, rv, p1, _⟩ := I.tuple hqx
    obtain ⟨its2, rv2, p2, _⟩ := I.list hqy
    obtain ⟨u, hu, ru⟩ := rv.get hx
    obtain ⟨v, hv, rw2⟩ := rv2.get hy
    have zl : zz < s.heap.objs.size := Heap.lt_size st.iz
    have ty : s.TypeIs (.ref zz) "zip" := ⟨_, st.iz, rfl⟩
    unfold pyNext
    refine wpAny_bind (wpAny_attempt (wpAny_callSpecial?_slot (name := Str.ofString "__next__") ty F.slot_zip_next (wpAny_call_entry F.slot_zip_next ty F.entry_zip_next
      (nextItem (S1 := fun g => g.IsTupleIter j1 a i ∧ g.IsTuple a its.toArray) (T1 := fun g => g.IsTupleIter j1 a (i + 1)) (S2 := fun g => g.IsListIter j2 b i ∧ g.IsList b its2.toArray) (T2 := fun g => g.IsListIter j2 b (i + 1))
        (u := u) (v := v) (ap_of D) st.iz st.pin po (fun A E s Q S q => RZ.nextOf_tuple_item S.1 S.2 (by simpa using hu) q) (fun A E s Q S q => wpAny_nextOf_list_item S.1 S.2 (by simpa using hv) q)
        (fun g g' k S => ⟨kT (nin3 D.i1z D.TOi1.symm D.i12) _ _ k S.1, kTt (nin3 D.l1z D.l1TO D.l1i2) _ _ k S.2⟩) (kT (nin3 D.i1z D.TOi1.symm D.i12))
        (fun g g' k S => ⟨kL (nin3 D.i2z D.TOi2.symm D.i12.symm) _ _ k S.1, kLl (nin3 D.l2z D.l2TO D.l2i1) _ _ k S.2⟩) (kL (nin3 D.i2z D.TOi2.symm D.i12.symm))
        ⟨st.t1, p1⟩ ⟨st.t2, p2.isList⟩ (Q := fun r s1 => wpAny (model X.prog X.w) X.A (pure (some r)) _ E s1) fun g z1 z2 z3 z4 z5 z6 kp => wpAny_pure ?_) (F.args_zip_next_1 _))))
    refine ⟨_, rfl, wpAny_letOwnedTupleGo_zip (s := { s with heap := g }) z1 fun g' z1' sb => ?_⟩
    have hT2 : g'.get? s.heap.objs.size = some { cls := .type "tuple", data := .seq #[u, v] } := (sb.2 _ (Nat.ne_of_gt zl)).trans z5
    have new : ObjOk X.prog X.w (upd H s.heap.objs.size (.tup [x, y])) g' s.heap.objs.size (.tup [x, y]) :=
      ⟨show 2 ≤ sizeLine by decide, [u, v], .cons ru (.cons rw2 .nil), ⟨_, hT2, rfl, _, rfl⟩⟩
    have I1 : Inv X pins σ (upd H s.heap.objs.size (.tup [x, y])) { s with heap := g' } :=
      I.turnedNew (t' := s.toks) (ch := [zz, ins, out, j1, j2]) (fun c o nb e => (sb.2 c (fun e' => nb (by simp [e']))).trans (kp c o (fun m => nb (by simp at m ⊢; rcases m with m | m | m | m <;> simp [m])) e)) hf (Nat.le_refl _) new
    refine ⟨.ref s.heap.objs.size, _, I1, rfl, ⟨_, x, y, rfl, I.hok.fresh (Nat.le_refl _), rfl, fun l hl => by rw [I.tuple_inj hl hqx]; exact hx, fun l hl => by rw [I.list_inj hl hqy]; exact hy⟩, ⟨z1', ?_, ⟨u, v, ?_⟩, ?_, ?_⟩, fun c hcm => ?_⟩
    · exact (sb.2 _ D.TIz).trans (kp _ _ (by simp [D.TIz, D.TITO, D.TIi1, D.TIi2]) st.pin)
    · exact (sb.2 _ D.TOz).trans z2
    · exact z3.at fun o e => (sb.2 _ D.i1z).trans e
    · exact z4.at fun o e => (sb.2 _ D.i2z).trans e
    · have lt : c < s.heap.objs.size := by
        obtain ⟨_, g1, _⟩ := st.t1
        obtain ⟨_, g2, _⟩ := st.t2
        simp only [List.mem_cons, List.not_mem_nil, or_false] at hcm
        rcases hcm with rfl | rfl | rfl | rfl | rfl
        · exact zl
        · exact Heap.lt_size st.pin
        · exact Heap.lt_size po
        · exact Heap.lt_size g1
        · exact Heap.lt_size g2
      rw [upd_ne (Nat.ne_of_lt lt)]
      exact (hf c hcm).1
  done := by
    intro X hP hw hK hc i pins s σ H E I hf st hg
    subst hP hw hK
    obtain ⟨u0, v0, po⟩ := st.pout
    obtain ⟨xs, ys, hqx, hqy, he⟩ := hg
    obtain ⟨its, rv, p1, _⟩ := I.tuple hqx
    obtain ⟨its2, rv2, p2, _⟩ := I.list hqy
    have l1 := rv.length
    have l2 := rv2.length
    have ty : s.TypeIs (.ref zz) "zip" := ⟨_, st.iz, rfl⟩
    unfold pyNext
    refine wpAny_bind (wpAny_attempt (wpAny_callSpecial?_slot (name := Str.ofString "__next__") ty F.slot_zip_next (wpAny_call_entry F.slot_zip_next ty F.entry_zip_next
      (nextEnd (S1 := fun g => g.IsTupleIter j1 a i ∧ g.IsTuple a its.toArray) (T1 := fun g => g.IsTupleIter j1 a (i + 1)) (S2 := fun g => g.IsListIter j2 b i ∧ g.IsList b its2.toArray) (u := its.getD i .none)
        (I.ok.hd hc) (ap_of D) st.iz st.pin po ?_
        (fun g g' k S => ⟨kT (nin3 D.i1z D.TOi1.symm D.i12) _ _ k S.1, kTt (nin3 D.l1z D.l1TO D.l1i2) _ _ k S.2⟩)
        (fun g g' k S => ⟨kL (nin3 D.i2z D.TOi2.symm D.i12.symm) _ _ k S.1, kLl (nin3 D.l2z D.l2TO D.l2i1) _ _ k S.2⟩)
        ⟨st.t1, p1⟩ ⟨st.t2, p2.isList⟩ fun g x kp hx => ?_) (F.args_zip_next_1 _))))
    · by_cases h : i < its.length
      · refine .inr ⟨fun A E s Q S q => RZ.nextOf_tuple_item S.1 S.2 (by simp [h]) q, fun A E s Q hh S q => wpAny_nextOf_list_end hh S.1 S.2 ?_ q⟩
        simp
        omega
      · refine .inl fun A E s Q hh S q => RZ.nextOf_tuple_end hh S.1 S.2 ?_ q
        simp
        omega
    · obtain ⟨o, ho, hcl⟩ := hx
      refine wpAny_bind (wpAny_isInstance (T := "StopIteration") (b := true) ⟨o, ho, hcl⟩ isSubtype_stop (wpAny_pure ⟨rfl, ?_⟩))
      exact I.turnedL (t' := s.toks) (ch := [zz, ins, out, j1, j2]) (fun c o nb e => kp c o (fun m => nb (by simp at m ⊢; rcases m with m | m | m | m <;> simp [m])) e) hf
  self := fun A i s Q E st h => wpAny_pyIter_zip st.iz h
/-! the call -/
abbrev hp1 (h : Heap) (a : Addr) : Heap := h.push { cls := .type "tuple_iterator", data := .fields #[.ref a, .int 0 0] }
abbrev hp2 (h : Heap) (a b : Addr) : Heap := (hp1 h a).push { cls := .type "list_iterator", data := .fields #[.ref b, .int 0 0] }
abbrev hp3 (h : Heap) (a b : Addr) : Heap := (hp2 h a b).push { cls := .type "tuple", data := .seq #[.ref h.objs.size, .ref (hp1 h a).objs.size] }
abbrev hp4 (h : Heap) (a b : Addr) : Heap := (hp3 h a b).push { cls := .type "tuple", data := .seq #[.none, .none] }
abbrev hp5 (h : Heap) (a b : Addr) : Heap := (hp4 h a b).push { cls := .type "zip", data := .fields #[.none, .bool false, .bool false, .ref (hp2 h a b).objs.size, .ref (hp3 h a b).objs.size] }
theorem meetsM (a b : Addr) (xs ys : Array Value) :
    Meets (Builtin.«zip.__new__» ⟨[.type "zip", .ref a, .ref b], []⟩) (fun _ R s => s.heap.IsTuple a xs ∧ s.heap.IsList b ys ∧ R (.ok (.ret (.ref (hp4 s.heap a b).objs.size))) { s with heap := hp5 s.heap a b }) :=
  .of_wp fun prog w A R s h => by
    obtain ⟨hp, g, d, tk, os⟩ := s; obtain ⟨i1, i2, h⟩ := h
    have hsub := sub_zip
    have j1 : Heap.IsTuple (Shared.heap ⟨hp, g, d, tk, os⟩) a xs := i1
    have j2 : Heap.IsList (Shared.heap ⟨hp.push { cls := .type "tuple_iterator", data := .fields #[.ref a, .int 0 0] }, g, d, tk, os⟩) b ys := Heap.IsList.push i2 _
    wp_walk using wpAny_pyIter_tuple j1, wpAny_pyIter_list j2
    exact ⟨_, rfl, h⟩
theorem callM {prog : Program} {w : World} {A : Around} {E : Value → Shared → Prop} {s : Shared} {a b : Addr} {xs ys : Array Value} {Q : Value → Shared → Prop} (i1 : s.heap.IsTuple a xs) (i2 : s.heap.IsList b ys)
    (q : ∀ g, Zst (s.heap.objs.size + 4) (s.heap.objs.size + 2) (s.heap.objs.size + 3) s.heap.objs.size (s.heap.objs.size + 1) a b 0 g → (∀ c o, s.heap.get? c = some o → g.get? c = some o) → Q (.ref (s.heap.objs.size + 4)) { s with heap := g }) :
    wpAny (model prog w) A (call (.type "zip") [.ref a, .ref b]) Q E s := by
  refine callType_new F.called_zip (by decide) (F.typeCall_zip_2 _ _) (F.newCall_zip_2 _ _) (fun obj => F.args_object_init_3 obj _ _) F.entry_zip_new (meetsM a b xs ys) ⟨i1, i2, ?_⟩
  have s1 : (hp1 s.heap a).objs.size = s.heap.objs.size + 1 := Heap.size_push ..
  have s2 : (hp2 s.heap a b).objs.size = s.heap.objs.size + 2 := by rw [Heap.size_push, s1]
  have s3 : (hp3 s.heap a b).objs.size = s.heap.objs.size + 3 := by rw [Heap.size_push, s2]
  have s4 : (hp4 s.heap a b).objs.size = s.heap.objs.size + 4 := by rw [Heap.size_push, s3]
  have up2 : ∀ c o, (hp1 s.heap a).get? c = some o → (hp5 s.heap a b).get? c = some o := fun c o e => Heap.get?_push_of_some _ (Heap.get?_push_of_some _ (Heap.get?_push_of_some _ (Heap.get?_push_of_some _ e)))
  have e5 : (hp5 s.heap a b).get? (hp4 s.heap a b).objs.size = some _ := Heap.get?_push_size _ rfl
  have e4 : (hp5 s.heap a b).get? (hp3 s.heap a b).objs.size = some _ := Heap.get?_push_of_some _ (Heap.get?_push_size _ rfl)
  have e3 : (hp5 s.heap a b).get? (hp2 s.heap a b).objs.size = some _ := Heap.get?_push_of_some _ (Heap.get?_push_of_some _ (Heap.get?_push_size _ rfl))
  have e2 : (hp5 s.heap a b).get? (hp1 s.heap a).objs.size = some _ := Heap.get?_push_of_some _ (Heap.get?_push_of_some _ (Heap.get?_push_of_some _ (Heap.get?_push_size _ rfl)))
  have e1 : (hp5 s.heap a b).get? s.heap.objs.size = some _ := up2 _ _ (Heap.get?_push_size _ rfl)
  show _ ∧ _
  rw [s2, s3, s4] at e5
  rw [s1, s2] at e3
  rw [s3] at e4
  rw [s1] at e2
  rw [s4]
  exact ⟨⟨_, e5, rfl⟩, q _ ⟨e5, e3, ⟨_, _, e4⟩, ⟨_, e1, rfl, rfl⟩, ⟨_, e2, rfl, rfl⟩⟩ fun c o e => up2 c o (Heap.get?_push_of_some _ e)⟩
abbrev fp5 (s1 : Shared) : List Addr := [s1.heap.objs.size + 4, s1.heap.objs.size + 2, s1.heap.objs.size + 3, s1.heap.objs.size, s1.heap.objs.size + 1]
/-- zip of two lists, of two tuples, of a tuple and a list -/
def iZip3 (K : PySem.W.Frag) (ta : TA) : TI := fun σ H R => ta σ H fun vs H1 => ∃ a b xs ys, vs = [.ref a, .ref b] ∧
  ((SqL K H1 a xs ∧ SqL K H1 b ys ∧ R (Itz K a b) H1) ∨ (SqT K H1 a xs ∧ SqT K H1 b ys ∧ R (RZ.ItzT K a b) H1) ∨ (SqT K H1 a xs ∧ SqL K H1 b ys ∧ R (ItzM K a b) H1))
theorem pi_zip3 {X : Cx} {e e2 : Expr} {ta : TA} {p pos tpos : Pos} {elts : List Expr} {kk : Nat} (hg : Gl X "zip") (hm : X.mg "zip" = none) (ha : PA X [e, e2] ta)
    (h1 : starEach [e, e2] X.env = (false, eval e X.env) :: starEach [e2] X.env := by rfl) (h2 : (backTo pos (starEach [e2] X.env)).any (·.1) = false := by rfl) :
    PI X (.Tuple elts kk tpos) (.Call (.Name "zip" p) [e, e2] [] pos) (iZip3 X.K ta) := by
  refine ⟨fun pins s σ H R I h => ?_⟩
  refine Call_ (ld_blt I hg hm PyProof.Rows.boot_zip (PyProof.Rows.callWith_type1 (thn (ha.run pos pins s σ H _ I h) fun us s1 ⟨vs, H1, I1, r1, q1⟩ => ?_) h1 h2))
  obtain ⟨a, b, xs, ys, ex, q1⟩ := q1
  subst ex
  obtain ⟨rfl⟩ : ∃ (_ : us = [.ref a, .ref b]), True := by
    cases r1 with
    | cons r rr => cases rr with
      | cons r' rr =>
        cases rr
        cases r
        cases r'
        exact ⟨rfl, trivial⟩
  · skip
    have fp : ∀ c, c ∈ [s1.heap.objs.size + 4, s1.heap.objs.size + 2, s1.heap.objs.size + 3, s1.heap.objs.size, s1.heap.objs.size + 1] → FpOk X pins H1 c := fun c m => by
      have le : s1.heap.objs.size ≤ c := by
        simp only [List.mem_cons, List.not_mem_nil, or_false] at m
        rcases m with rfl | rfl | rfl | rfl | rfl <;> first | exact Nat.le_refl _ | exact Nat.le_add_right _ _
      exact I1.fpOk le (I1.hok.fresh le)
    rcases q1 with ⟨qx, qy, q⟩ | ⟨qx, qy, q⟩ | ⟨qx, qy, q⟩
    · obtain ⟨its, rv, p1, _⟩ := I1.list qx
      obtain ⟨its2, rv2, p2, _⟩ := I1.list qy
      refine call_zip_2 p1.isList p2.isList fun g z1 z2 z3 z4 z5 z6 kp => wpAny_pyIter_zip z1 ⟨s1.heap.objs.size + 4, fp5 s1, _, _, H1, rfl, I1.kept (t' := s1.toks) kp, turn_zip (PySem.W.ktu_apart s1.heap.objs.size a b p1.lt p2.lt), ⟨z1, z2, ⟨_, _, z3⟩, z4, z5⟩, fp, q⟩
    · obtain ⟨its, rv, p1, _⟩ := I1.tuple qx
      obtain ⟨its2, rv2, p2, _⟩ := I1.tuple qy
      have t1 : s1.heap.IsTuple a its.toArray := p1
      have t2 : s1.heap.IsTuple b its2.toArray := p2
      obtain ⟨o1, g1, _⟩ := id t1
      obtain ⟨o2, g2, _⟩ := id t2
      refine RZ.call_zipT t1 t2 fun g z1 z2 z3 z4 z5 z6 kp => wpAny_pyIter_zip z1 ⟨s1.heap.objs.size + 4, fp5 s1, _, _, H1, rfl, I1.kept (t' := s1.toks) kp, RZ.turn_zipT (PySem.W.ktu_apart s1.heap.objs.size a b (Heap.lt_size g1) (Heap.lt_size g2)), ⟨z1, z2, ⟨_, _, z3⟩, z4, z5⟩, fp, q⟩
    · obtain ⟨its, rv, p1, _⟩ := I1.tuple qx
      obtain ⟨its2, rv2, p2, _⟩ := I1.list qy
      have t1 : s1.heap.IsTuple a its.toArray := p1
      obtain ⟨o1, g1, _⟩ := id t1
      refine callM t1 p2.isList fun g z kp => wpAny_pyIter_zip z.iz ⟨s1.heap.objs.size + 4, fp5 s1, _, _, H1, rfl, I1.kept (t' := s1.toks) kp, turnM (PySem.W.ktu_apart s1.heap.objs.size a b (Heap.lt_size g1) p2.lt), z, fp, q⟩
end MiZ
end
/-! ## MiS8 -/
section
set_option maxHeartbeats 1000000
/-! MiS8: iterables, comprehensions. -/
namespace Mi
open PySem PySem.Spec PyProof.Rows L2
section
variable {X : Cx} {K : PySem.W.Frag} {P G H : Hp} {ρ : List Addr} {h : Hm} {σ : Fr} {τ : L2.St} {l r q tg : Expr} {da db dc : Fr → Hm → Option (Val × Hm)} {pos p0 : Pos}
theorem map_one (ds : List PyData) : (ds.map fun d => Itm.one (.dat d)) = (ds.map Val.dat).map Itm.one := by rw [List.map_map]; rfl
theorem map_one' (ns : List Int) : (ns.map fun d => Itm.one (vi d)) = (ns.map vi).map Itm.one := by rw [List.map_map]; rfl
theorem scr_ws {ns : List Int} : RelWs K G ρ (ns.map vi) (ns.map V.int) := by
  induction ns with
  | nil => exact .nil
  | cons n ns ih => exact .cons (rwInt (K := K)) ih
theorem iE (ha : PE X l (tD X.K da)) : PI X tg l (tDI X.K fun σ h => (da σ h).bind fun p => match p.1 with
      | .dat (.list ds) => some ((ds.map fun d => .one (.dat d), none), p.2)
      | .dat (.tuple ds) => some ((ds.map fun d => .one (.dat d), none), p.2)
      | .scr ns => some ((ns.map fun i => .one (vi i), none), p.2)
      | .ref a => match p.2[a]? with
        | some (.lst vs) => some ((vs.map .one, some (a, vs)), p.2)
        | _ => none
      | _ => none) :=
  piD (PI.or (pi_list ha) (pi_tup ha)) fun P G ρ σ h τ H R is g h' a r => by
    obtain ⟨⟨v, h1⟩, e1, e2⟩ := Option.bind_eq_some_iff.mp r.1
    cases v with
    | dat d => cases d with
      | list ds => exact .inl (RunI.stepE a r fun v h1 G1 ρ1 x H1 a1 s p rx e r1 => by
          rw [e1] at e; cases e
          have rd : RelD G1 (.list ds) x := rx
          unfold RelD at rd
          obtain ⟨b, vs, rfl, gb, z, rd⟩ := rd
          refine ⟨b, rfl, ⟨vs, .of (a1.hp.sub _ _ gb)⟩, r1.now a1 ?_⟩
          rw [map_one]
          exact srvL z (.of gb) rd.ws)
      | tuple ds => exact .inr (RunI.stepE a r fun v h1 G1 ρ1 x H1 a1 s p rx e r1 => by
          rw [e1] at e; cases e
          have rd : RelD G1 (.tuple ds) x := rx
          unfold RelD at rd
          obtain ⟨b, o, vs, rfl, gb, d0, z, rd⟩ := rd
          have hq : SqT X.K G1 b vs := .inl (.inr ⟨o, gb⟩)
          refine ⟨b, rfl, ⟨vs, sqtSub a1.hp.sub hq⟩, r1.now a1 ?_⟩
          rw [map_one]
          exact srvT z hq rd.ws)
      | _ => cases e2
    | scr ns => exact .inl (RunI.stepE a r fun v h1 G1 ρ1 x H1 a1 s p rx e r1 => by
        rw [e1] at e; cases e
        obtain ⟨b, rfl, hq, z⟩ := rx
        refine ⟨b, rfl, ⟨_, sqSub a1.hp.sub hq⟩, r1.now a1 ?_⟩
        rw [map_one']
        exact srvL (by rw [List.length_map]; exact z) hq scr_ws)
    | ref n => exact .inl (RunI.stepE a r fun v h1 G1 ρ1 x H1 a1 s p rx e r1 => by
        rw [e1] at e; cases e
        obtain ⟨b, eb, rfl⟩ := rx
        have e2' : (match h1[n]? with | some (.lst vs) => some ((vs.map Itm.one, (some (n, vs) : Gd)), h1) | _ => none) = some ((is, g), h') := e2
        cases hn : h1[n]? with
        | none => rw [hn] at e2'; cases e2'
        | some ob => cases ob with
          | lst vs =>
            obtain ⟨b', xs, eb', hb, z, rl⟩ := a1.hp.lst hn
            rw [eb] at eb'; cases eb'
            have r1' : RunI X.K P (match h1[n]? with | some (.lst vs) => some ((vs.map Itm.one, (some (n, vs) : Gd)), h1) | _ => none) G1 ρ1 R is g h' := r1
            rw [hn] at r1'
            exact ⟨b, rfl, ⟨xs, .of hb⟩, RunI.now (is' := vs.map .one) (g' := some (n, vs)) a1 r1' (srvR (by rw [Paired.length rl]; exact z) eb)⟩
          | _ => rw [hn] at e2'; cases e2')
theorem RunI.stepA {d : Fr → Hm → Option (List Val × Hm)} {f : List Val × Hm → Option ((List Itm × Gd) × Hm)} {R : It → Hp → Prop} {Q' : List V → Hp → Prop} {is : List Itm} {g : Gd} {h' : Hm} (a : At K P G ρ σ h τ H) (r : RunI K P ((d σ h).bind f) G ρ R is g h')
    (q : ∀ v h1 G1 ρ1 x H1, At K P G1 ρ1 σ h1 τ H1 → Sub G G1 → Pre ρ ρ1 → RelWs K G1 ρ1 v x → d σ h = some (v, h1) → RunI K P (f (v, h1)) G1 ρ1 R is g h' → Q' x H1) : tDA K d τ H Q' := by
  obtain ⟨e, z⟩ := r
  obtain ⟨⟨v, h1⟩, e1, e2⟩ := Option.bind_eq_some_iff.mp e
  exact tDA.of a ⟨v, h1, e1, fun G1 ρ1 H1 x s p rh rx => q v h1 G1 ρ1 x H1 (a.next s p rh) s p rx e1 ⟨e2, fun G2 ρ2 H2 J s2 p2 => z G2 ρ2 H2 J (s.trans s2) (p.trans p2)⟩⟩
/-- one argument -/
def d1 (da : Fr → Hm → Option (Val × Hm)) : Fr → Hm → Option (List Val × Hm) := fun σ h => (da σ h).bind fun p => (some ([], p.2) : Option (List Val × Hm)).map fun q => (p.1 :: q.1, q.2)
def d2 (da db : Fr → Hm → Option (Val × Hm)) : Fr → Hm → Option (List Val × Hm) := fun σ h => (da σ h).bind fun p => (d1 db σ p.2).map fun q => (p.1 :: q.1, q.2)
theorem d1_eq {β : Type} (da : Fr → Hm → Option (Val × Hm)) (σ : Fr) (h : Hm) (f : Val × Hm → Option β) : (da σ h).bind f = (d1 da σ h).bind fun p => match p.1 with | [v] => f (v, p.2) | _ => none := by
  unfold d1
  cases da σ h <;> rfl
theorem d2_eq {β : Type} (da db : Fr → Hm → Option (Val × Hm)) (σ : Fr) (h : Hm) (f : Val × Hm → Val × Hm → Option β) (hf : ∀ v h1 h2 q, f (v, h1) q = f (v, h2) q) : ((da σ h).bind fun p => (db σ p.2).bind fun q => f p q) = (d2 da db σ h).bind fun p => match p.1 with | [v, w] => f (v, p.2) (w, p.2) | _ => none := by
  unfold d2
  cases ea : da σ h with
  | none => rfl
  | some p =>
    unfold d1
    show (db σ p.2).bind _ = ((((db σ p.2).bind _).map _).bind _)
    cases eb : db σ p.2 with
    | none => rfl
    | some q => exact hf _ _ _ _
theorem sA1 (hp : plainB l = true) (ha : PE X l (tD X.K da)) : PA X [l] (tDA X.K (d1 da)) := sCons hp ha sNil
theorem sA2 (hp : plainB l = true) (hp2 : plainB r = true) (ha : PE X l (tD X.K da)) (hb : PE X r (tD X.K db)) : PA X [l, r] (tDA X.K (d2 da db)) := sCons hp ha (sA1 hp2 hb)
theorem PI.of_eq {d d' : Fr → Hm → Option ((List Itm × Gd) × Hm)} (e : ∀ σ h, d' σ h = d σ h) (p : PI X tg l (tDI K d)) : PI X tg l (tDI K d') := by
  rw [show d' = d from funext fun σ => funext fun h => e σ h]; exact p
theorem iRange1 (hg : Gl X "range") (hm : X.mg "range" = none) (hp : plainB l = true) (ha : PE X l (tD X.K da)) : PI X tg (.Call (.Name "range" p0) [l] [] pos) (tDI X.K fun σ h => (da σ h).bind fun p => match p.1 with
      | .dat (.int j) => if -(2 ^ 62) ≤ j ∧ j.toNat ≤ sizeLine then some (((List.range j.toNat).map fun (k : Nat) => .one (vi (k : Int)), none), p.2) else none
      | _ => none) :=
  PI.of_eq (fun σ h => d1_eq da σ h _) <| piD (pi_range1 hg hm (sA1 hp ha) (by rw [star_cons hp]; rfl)) fun P G ρ σ h τ H R is g h' a r => RunI.stepA a r fun v h1 G1 ρ1 x H1 a1 s p rx e r1 => by
    obtain ⟨e2, z⟩ := r1
    split at e2
    · rename_i _ w hw
      have hw' : v = [w] := hw
      subst hw'
      split at e2
      · rename_i _ j hj
        have hj' : w = vi j := hj
        subst hj'
        split at e2
        · rename_i hjj
          cases rx with
          | cons rx rr =>
            cases rr
            cases dInt rx
            refine ⟨j, rfl, hjj.1, ?_, ?_⟩
            · have h2 := hjj.2
              have h3 : sizeLine < 2 ^ 62 := by decide
              omega
            · cases e2
              refine z G1 ρ1 H1 _ Sub.rfl (List.prefix_refl _) a1.hp ?_
              have := srvRg (K := X.K) (P := P) (G := G1) (ρ := ρ1) (lo := 0) hjj.2
              simpa using this
        · cases e2
      · cases e2
    · cases e2
def fRg2 : Val × Hm → Val × Hm → Option ((List Itm × Gd) × Hm) := fun p q => match p.1, q.1 with
      | .dat (.int i), .dat (.int j) => if -(2 ^ 62) ≤ i ∧ i < 2 ^ 62 ∧ j < 2 ^ 62 ∧ -(2 ^ 62) ≤ j ∧ (j - i).toNat ≤ sizeLine then some (((List.range (j - i).toNat).map fun (k : Nat) => .one (vi (i + (k : Int))), none), q.2) else none
      | _, _ => none
def fZip : Val × Hm → Val × Hm → Option ((List Itm × Gd) × Hm) := fun p q => match p.1, q.1 with
      | .dat (.list xs), .dat (.list ys) => some ((List.zipWith (fun x y => .many [x, y]) xs ys, none), q.2)
      | .dat (.tuple xs), .dat (.tuple ys) => some ((List.zipWith (fun x y => .many [x, y]) xs ys, none), q.2)
      | .dat (.tuple xs), .dat (.list ys) => some ((List.zipWith (fun x y => .many [x, y]) xs ys, none), q.2)
      | _, _ => none
theorem iRange2 (hg : Gl X "range") (hm : X.mg "range" = none) (hp : plainB l = true) (hp2 : plainB r = true) (ha : PE X l (tD X.K da)) (hb : PE X r (tD X.K db)) : PI X tg (.Call (.Name "range" p0) [l, r] [] pos) (tDI X.K fun σ h => (da σ h).bind fun p => (db σ p.2).bind fun q => match p.1, q.1 with
      | .dat (.int i), .dat (.int j) => if -(2 ^ 62) ≤ i ∧ i < 2 ^ 62 ∧ j < 2 ^ 62 ∧ -(2 ^ 62) ≤ j ∧ (j - i).toNat ≤ sizeLine then some (((List.range (j - i).toNat).map fun (k : Nat) => .one (vi (i + (k : Int))), none), q.2) else none
      | _, _ => none) :=
  PI.of_eq (fun σ h => d2_eq da db σ h fRg2 fun _ _ _ _ => rfl) <| piD (pi_range2 hg hm (sA2 hp hp2 ha hb) (by rw [star_cons hp, star_cons hp2]; rfl) (by rw [star_cons hp2]; rfl)) fun P G ρ σ h τ H R is g h' a r => RunI.stepA a r fun v h1 G1 ρ1 x H1 a1 s p rx e r1 => by
    obtain ⟨e2, z⟩ := r1
    split at e2
    · rename_i _ w w' hw
      have hw' : v = [w, w'] := hw
      subst hw'
      unfold fRg2 at e2
      split at e2
      · rename_i _ _ i j hi hj
        have hi' : w = vi i := hi
        have hj' : w' = vi j := hj
        subst hi' hj'
        split at e2
        · rename_i hjj
          cases rx with
          | cons rx rr =>
            cases rr with
            | cons rx' rr =>
              cases rr
              cases dInt rx
              cases dInt rx'
              refine ⟨i, j, rfl, ⟨hjj.1, hjj.2.1, hjj.2.2.2.1, hjj.2.2.1⟩, ?_⟩
              cases e2
              exact z G1 ρ1 H1 _ Sub.rfl (List.prefix_refl _) a1.hp (srvRg hjj.2.2.2.2)
        · cases e2
      · cases e2
    · cases e2
theorem iEnum' {elts : List Expr} {kk : Nat} {tpos : Pos} (hg : Gl X "enumerate") (hm : X.mg "enumerate" = none) (hp : plainB l = true) (ha : PE X l (tD X.K da)) : PI X (.Tuple elts kk tpos) (.Call (.Name "enumerate" p0) [l] [] pos) (tDI X.K fun σ h => (da σ h).bind fun p => match p.1 with
      | .dat (.list ds) => some ((pairI 0 ds, none), p.2)
      | .dat (.tuple ds) => some ((pairI 0 ds, none), p.2)
      | _ => none) :=
  PI.of_eq (fun σ h => d1_eq da σ h _) <| piD (PI.or (pi_enum hg hm (sA1 hp ha) (by rw [star_cons hp]; rfl)) (piEnT hg hm (sA1 hp ha) (by rw [star_cons hp]; rfl))) fun P G ρ σ h τ H R is g h' a r => by
    obtain ⟨⟨vs, h1⟩, e1, e2⟩ := Option.bind_eq_some_iff.mp r.1
    split at e2
    · rename_i _ w hw
      have hw' : vs = [w] := hw
      subst hw'
      split at e2
      · rename_i _ ds hd
        have hd' : w = vl ds := hd
        subst hd'
        refine .inl (RunI.stepA a r fun v h1 G1 ρ1 x H1 a1 s p rx e r1 => ?_)
        rw [e1] at e; cases e
        cases rx with
        | cons rx rr =>
          cases rr
          have rd : RelD G1 (.list ds) _ := rx
          unfold RelD at rd
          obtain ⟨b, vs, rfl, gb, z, rd⟩ := rd
          exact ⟨b, vs, rfl, .of (a1.hp.sub _ _ gb), r1.now a1 (srvEL z (.of gb) rd)⟩
      · rename_i _ ds hd
        have hd' : w = vt ds := hd
        subst hd'
        refine .inr (RunI.stepA a r fun v h1 G1 ρ1 x H1 a1 s p rx e r1 => ?_)
        rw [e1] at e; cases e
        cases rx with
        | cons rx rr =>
          cases rr
          have rd : RelD G1 (.tuple ds) _ := rx
          unfold RelD at rd
          obtain ⟨b, o, vs, rfl, gb, d0, z, rd⟩ := rd
          have hq : SqT X.K G1 b vs := .inl (.inr ⟨o, gb⟩)
          exact ⟨b, vs, rfl, sqtSub a1.hp.sub hq, r1.now a1 (srvET z hq rd)⟩
      · cases e2
    · cases e2
/-! ### zip -/
abbrev zipI (xs ys : List PyData) : List Itm := List.zipWith (fun x y => Itm.many [x, y]) xs ys
theorem zip_get {xs ys : List PyData} {i : Nat} {it : Itm} (e : (zipI xs ys)[i]? = some it) : ∃ x y, xs[i]? = some x ∧ ys[i]? = some y ∧ it = .many [x, y] := by
  rw [List.getElem?_zipWith] at e
  split at e
  · rename_i x y e1 e2
    cases e
    exact ⟨x, y, e1, e2, rfl⟩
  · cases e
theorem srvZL {b c : Addr} {xs ys : List V} {ds es : List PyData} (hz : xs.length ≤ sizeLine) (hq : SqL K G b xs) (hq2 : SqL K G c ys) (r : RelDs G ds xs) (r2 : RelDs G es ys) : Srv K P G ρ (Itz K b c) (zipI ds es) none := by
  have l1 := r.len
  have l2 := r2.len
  refine ⟨by rw [List.length_zipWith]; omega, ?_⟩
  intro P' G' ρ' h H _ s p rh _
  have hb := sqSub (s.trans rh.sub) hq
  have hc := sqSub (s.trans rh.sub) hq2
  refine ⟨fun i it ei => ?_, ⟨xs, ys, hb, hc, by rw [List.length_zipWith]; omega⟩⟩
  obtain ⟨d, e, e1, e2, rfl⟩ := zip_get ei
  have hi : i < xs.length := by have := (List.getElem?_eq_some_iff.mp e1).1; omega
  have hj : i < ys.length := by have := (List.getElem?_eq_some_iff.mp e2).1; omega
  refine ⟨⟨xs, ys, xs[i], ys[i], hb, hc, List.getElem?_eq_getElem hi, List.getElem?_eq_getElem hj⟩, fun x H' y => ?_⟩
  obtain ⟨T, y1, y2, rfl, n, rfl, k1, k2⟩ := y
  exact pair_ok (G' := G') (H' := H) rh n ((r.keep s.keeps).getD e1 (k1 xs hb)) ((r2.keep s.keeps).getD e2 (k2 ys hc))
theorem srvZT {b c : Addr} {xs ys : List V} {ds es : List PyData} (hz : xs.length ≤ sizeLine) (hq : SqT K G b xs) (hq2 : SqT K G c ys) (r : RelDs G ds xs) (r2 : RelDs G es ys) : Srv K P G ρ (RZ.ItzT K b c) (zipI ds es) none := by
  have l1 := r.len
  have l2 := r2.len
  refine ⟨by rw [List.length_zipWith]; omega, ?_⟩
  intro P' G' ρ' h H _ s p rh _
  have hb := sqtSub (s.trans rh.sub) hq
  have hc := sqtSub (s.trans rh.sub) hq2
  refine ⟨fun i it ei => ?_, ⟨xs, ys, hb, hc, by rw [List.length_zipWith]; omega⟩⟩
  obtain ⟨d, e, e1, e2, rfl⟩ := zip_get ei
  have hi : i < xs.length := by have := (List.getElem?_eq_some_iff.mp e1).1; omega
  have hj : i < ys.length := by have := (List.getElem?_eq_some_iff.mp e2).1; omega
  refine ⟨⟨xs, ys, xs[i], ys[i], hb, hc, List.getElem?_eq_getElem hi, List.getElem?_eq_getElem hj⟩, fun x H' y => ?_⟩
  obtain ⟨T, y1, y2, rfl, n, rfl, k1, k2⟩ := y
  exact pair_ok (G' := G') (H' := H) rh n ((r.keep s.keeps).getD e1 (k1 xs hb)) ((r2.keep s.keeps).getD e2 (k2 ys hc))
theorem srvZM {b c : Addr} {xs ys : List V} {ds es : List PyData} (hz : xs.length ≤ sizeLine) (hq : SqT K G b xs) (hq2 : SqL K G c ys) (r : RelDs G ds xs) (r2 : RelDs G es ys) : Srv K P G ρ (MiZ.ItzM K b c) (zipI ds es) none := by
  have l1 := r.len
  have l2 := r2.len
  refine ⟨by rw [List.length_zipWith]; omega, ?_⟩
  intro P' G' ρ' h H _ s p rh _
  have hb := sqtSub (s.trans rh.sub) hq
  have hc := sqSub (s.trans rh.sub) hq2
  refine ⟨fun i it ei => ?_, ⟨xs, ys, hb, hc, by rw [List.length_zipWith]; omega⟩⟩
  obtain ⟨d, e, e1, e2, rfl⟩ := zip_get ei
  have hi : i < xs.length := by have := (List.getElem?_eq_some_iff.mp e1).1; omega
  have hj : i < ys.length := by have := (List.getElem?_eq_some_iff.mp e2).1; omega
  refine ⟨⟨xs, ys, xs[i], ys[i], hb, hc, List.getElem?_eq_getElem hi, List.getElem?_eq_getElem hj⟩, fun x H' y => ?_⟩
  obtain ⟨T, y1, y2, rfl, n, rfl, k1, k2⟩ := y
  exact pair_ok (G' := G') (H' := H) rh n ((r.keep s.keeps).getD e1 (k1 xs hb)) ((r2.keep s.keeps).getD e2 (k2 ys hc))
theorem iZip' {elts : List Expr} {kk : Nat} {tpos : Pos} (hg : Gl X "zip") (hm : X.mg "zip" = none) (hp : plainB l = true) (hp2 : plainB r = true) (ha : PE X l (tD X.K da)) (hb : PE X r (tD X.K db)) : PI X (.Tuple elts kk tpos) (.Call (.Name "zip" p0) [l, r] [] pos) (tDI X.K fun σ h => (da σ h).bind fun p => (db σ p.2).bind fun q => match p.1, q.1 with
      | .dat (.list xs), .dat (.list ys) => some ((List.zipWith (fun x y => .many [x, y]) xs ys, none), q.2)
      | .dat (.tuple xs), .dat (.tuple ys) => some ((List.zipWith (fun x y => .many [x, y]) xs ys, none), q.2)
      | .dat (.tuple xs), .dat (.list ys) => some ((List.zipWith (fun x y => .many [x, y]) xs ys, none), q.2)
      | _, _ => none) :=
  PI.of_eq (fun σ h => d2_eq da db σ h fZip fun _ _ _ _ => rfl) <| piD (MiZ.pi_zip3 hg hm (sA2 hp hp2 ha hb) (by rw [star_cons hp]) (by rw [star_cons hp2]; rfl)) fun P G ρ σ h τ H R is g h' a r => RunI.stepA a r fun v h1 G1 ρ1 x H1 a1 s p rx e r1 => by
    obtain ⟨e2, z⟩ := r1
    split at e2
    · rename_i _ w w' hw
      have hw' : v = [w, w'] := hw
      subst hw'
      cases rx with
      | cons rx rr =>
        cases rr with
        | cons rx' rr =>
          cases rr
          unfold fZip at e2
          split at e2
          · rename_i _ _ ds es hi hj
            have hi' : w = vl ds := hi
            have hj' : w' = vl es := hj
            subst hi' hj'
            cases e2
            have rd : RelD G1 (.list ds) _ := rx
            have rd' : RelD G1 (.list es) _ := rx'
            unfold RelD at rd rd'
            obtain ⟨b, vs, rfl, gb, zz, rd⟩ := rd
            obtain ⟨b', vs', rfl, gb', zz', rd'⟩ := rd'
            exact ⟨b, b', vs, vs', rfl, .inl ⟨.of (a1.hp.sub _ _ gb), .of (a1.hp.sub _ _ gb'), z G1 ρ1 H1 _ Sub.rfl (List.prefix_refl _) a1.hp (srvZL zz (.of gb) (.of gb') rd rd')⟩⟩
          · rename_i _ _ ds es hi hj
            have hi' : w = vt ds := hi
            have hj' : w' = vt es := hj
            subst hi' hj'
            cases e2
            have rd : RelD G1 (.tuple ds) _ := rx
            have rd' : RelD G1 (.tuple es) _ := rx'
            unfold RelD at rd rd'
            obtain ⟨b, o, vs, rfl, gb, d0, zz, rd⟩ := rd
            obtain ⟨b', o', vs', rfl, gb', d0', zz', rd'⟩ := rd'
            have hq : SqT X.K G1 b vs := .inl (.inr ⟨o, gb⟩)
            have hq' : SqT X.K G1 b' vs' := .inl (.inr ⟨o', gb'⟩)
            exact ⟨b, b', vs, vs', rfl, .inr (.inl ⟨sqtSub a1.hp.sub hq, sqtSub a1.hp.sub hq', z G1 ρ1 H1 _ Sub.rfl (List.prefix_refl _) a1.hp (srvZT zz hq hq' rd rd')⟩)⟩
          · rename_i _ _ ds es hi hj
            have hi' : w = vt ds := hi
            have hj' : w' = vl es := hj
            subst hi' hj'
            cases e2
            have rd : RelD G1 (.tuple ds) _ := rx
            have rd' : RelD G1 (.list es) _ := rx'
            unfold RelD at rd rd'
            obtain ⟨b, o, vs, rfl, gb, d0, zz, rd⟩ := rd
            obtain ⟨b', vs', rfl, gb', zz', rd'⟩ := rd'
            have hq : SqT X.K G1 b vs := .inl (.inr ⟨o, gb⟩)
            exact ⟨b, b', vs, vs', rfl, .inr (.inr ⟨sqtSub a1.hp.sub hq, .of (a1.hp.sub _ _ gb'), z G1 ρ1 H1 _ Sub.rfl (List.prefix_refl _) a1.hp (srvZM zz hq (.of gb') rd rd')⟩)⟩
          · cases e2
    · cases e2
end
end Mi
end
/-! ## MiS9 -/
section
set_option maxHeartbeats 1000000
/-! MiS9: comprehensions. -/
namespace Mi
open PySem PySem.Spec PyProof.Rows L2
section
variable {X : Cx} {K : PySem.W.Frag} {P G H : Hp} {ρ : List Addr} {h : Hm} {σ : Fr} {τ : L2.St} {l r q tg : Expr} {da db dc : Fr → Hm → Option (Val × Hm)} {pos p0 : Pos}
/-! ### one object more that is none of Mi's -/
def del (H : Hp) (D : Addr) : Hp := fun b => if b = D then none else H b
theorem del_self {D : Addr} : del H D D = none := by unfold del; rw [if_pos rfl]
theorem del_ne {D b : Addr} (n : b ≠ D) : del H D b = H b := by unfold del; rw [if_neg n]
theorem upd_del {D : Addr} {o : HO} (e : H D = some o) : upd (del H D) D o = H := by
  funext b
  by_cases hb : b = D
  · subst hb; rw [upd_same, e]
  · rw [upd_ne hb, del_ne hb]
theorem RelH.prot (r : RelH K P G ρ h H) {D : Addr} {o : HO} (n : H D = none) : RelH K (upd P D o) G ρ h (upd H D o) := by
  have np := r.notin n
  have ng := r.sub.fresh n
  refine ⟨r.kp.both, fun b u e => ?_, fun b u e => ?_, r.len, r.nd, r.off, fun i ob e => ?_⟩
  · by_cases hb : b = D
    · subst hb; exact ⟨ng, np⟩
    · rw [upd_ne hb] at e; exact r.apart b u e
  · rw [upd_ne (ne_of_none (r.sub b u e) n)]; exact r.sub b u e
  · obtain ⟨p', o', e1, e2, q⟩ := r.obj i ob e
    exact ⟨p', o', e1, by rw [upd_ne (ne_of_none e2 n)]; exact e2, q⟩
/-- it is written -/
theorem RelH.reprot {D : Addr} {o o' : HO} (r : RelH K (upd P D o) G ρ h H) : RelH K (upd P D o') G ρ h (upd H D o') := by
  obtain ⟨ng, np⟩ := r.apart D o upd_same
  refine ⟨fun b u e => ?_, fun b u e => ?_, fun b u e => ?_, r.len, r.nd, r.off, fun i ob e => ?_⟩
  · by_cases hb : b = D
    · subst hb; rw [upd_same] at e ⊢; exact e
    · rw [upd_ne hb] at e ⊢; exact r.kp b u (by rw [upd_ne hb]; exact e)
  · by_cases hb : b = D
    · subst hb; exact ⟨ng, np⟩
    · rw [upd_ne hb] at e; exact r.apart b u (by rw [upd_ne hb]; exact e)
  · have : b ≠ D := by rintro rfl; rw [ng] at e; cases e
    rw [upd_ne this]; exact r.sub b u e
  · obtain ⟨p', o2, e1, e2, q⟩ := r.obj i ob e
    have : p' ≠ D := by rintro rfl; exact np (List.mem_of_getElem? e1)
    exact ⟨p', o2, e1, by rw [upd_ne this]; exact e2, q⟩
theorem RelH.unprot {D : Addr} {o : HO} (r : RelH K (upd P D o) G ρ h H) (n : P D = none) : RelH K P G ρ h (del H D) := by
  obtain ⟨ng, np⟩ := r.apart D o upd_same
  refine ⟨fun b u e => ?_, fun b u e => ?_, fun b u e => ?_, r.len, r.nd, r.off, fun i ob e => ?_⟩
  · have hb : b ≠ D := by rintro rfl; rw [n] at e; cases e
    rw [del_ne hb]; exact r.kp b u (by rw [upd_ne hb]; exact e)
  · have hb : b ≠ D := by rintro rfl; rw [n] at e; cases e
    exact r.apart b u (by rw [upd_ne hb]; exact e)
  · have : b ≠ D := by rintro rfl; rw [ng] at e; cases e
    rw [del_ne this]; exact r.sub b u e
  · obtain ⟨p', o2, e1, e2, q⟩ := r.obj i ob e
    have : p' ≠ D := by rintro rfl; exact np (List.mem_of_getElem? e1)
    exact ⟨p', o2, e1, by rw [del_ne this]; exact e2, q⟩
theorem wipe_sub {τ : L2.St} {ws : List Nat} : ∀ {vs : List Nat}, (∀ v ∈ vs, v ∈ ws) → wipe (wipe τ vs) ws = wipe τ ws
  | [], _ => rfl
  | v :: vs, hs => by
    show wipe ((wipe τ vs).set v none) ws = _
    rw [wipe_setI (hs v List.mem_cons_self), wipe_sub fun w hw => hs w (List.mem_cons_of_mem _ hw)]
theorem RelF.wiped : ∀ {vs : List Nat}, RelF K G ρ σ τ → RelF K G ρ (wipeF σ vs) (wipe τ vs)
  | [], r => r
  | v :: vs, r => Paired.setP (show RelFo K G ρ none none from trivial) v (RelF.wiped r)
/-! ### tests -/
def tDC (K : PySem.W.Frag) (d : Fr → Hm → Option (Bool × Hm)) : TT := fun τ H Q => ∃ P G ρ σ h, RelH K P G ρ h H ∧ RelF K G ρ σ τ ∧ Run K P (fun _ _ (a b : Bool) => a = b) (d σ h) G ρ Q
theorem PTs.imp {ifs : List Expr} {t t' : TT} (p : PTs X ifs t) (h : ∀ σ H Q, t' σ H Q → t σ H Q) : PTs X ifs t' := ⟨fun pins s σ H Q I w => p.run pins s σ H Q I (h _ _ _ w)⟩
theorem cNone : PTs X [] (tDC X.K fun _ h => some (true, h)) := PTs.imp pts_nil fun τ H Q ⟨P, G, ρ, σ, h, rh, rf, r⟩ => r.now ⟨rh, rf⟩ rfl
theorem cSome (ha : PT X l (tDT X.K da)) : PTs X [l] (tDC X.K fun σ h => (da σ h).bind fun p => match p.1 with | .dat (.bool b) => some (b, p.2) | _ => none) :=
  PTs.imp (pts_one ha) fun τ H Q ⟨P, G, ρ, σ, h, rh, rf, r⟩ => by
    obtain ⟨b, h', e, z⟩ := r
    obtain ⟨⟨v, h1⟩, e1, e2⟩ := Option.bind_eq_some_iff.mp e
    split at e2
    · rename_i _ b' hb
      have hb' : v = vb b' := hb
      subst hb'
      cases e2
      exact ⟨P, G, ρ, σ, h, rh, rf, b, _, e1, fun G' ρ' H' s p rh' => z G' ρ' H' b s p rh' rfl⟩
    · cases e2
/-! ### the walk of a comprehension -/
def compF (t : Tg) (own : List Nat) (dC : Fr → Hm → Option (Bool × Hm)) (dE : Fr → Hm → Option (Val × Hm)) (σ : Fr) : Itm → Hm → Option (Option Val × Hm) :=
  fun x h => (tgItm t x (wipeF σ own)).bind fun σ' => (dC σ' h).bind fun q => if q.1 then (dE σ' q.2).map fun r => (some r.1, r.2) else some (none, q.2)
theorem compD_cons {g : Gd} {f : Itm → Hm → Option (Option Val × Hm)} {x : Itm} {xs : List Itm} {acc : List Val} {h : Hm} {z : List Val × Hm} (e : compD g f (x :: xs) acc h = some z) :
    g.ok h = true ∧ ∃ r, f x h = some r ∧ (match r.1 with | some v => compD g f xs (acc ++ [v]) r.2 | none => compD g f xs acc r.2) = some z := by
  unfold compD at e
  split at e
  · rename_i ok
    obtain ⟨r, e1, e2⟩ := Option.bind_eq_some_iff.mp e
    exact ⟨ok, r, e1, e2⟩
  · cases e
theorem compD_nil {g : Gd} {f : Itm → Hm → Option (Option Val × Hm)} {acc : List Val} {h : Hm} {z : List Val × Hm} (e : compD g f [] acc h = some z) : g.ok h = true ∧ z = (acc, h) := by
  unfold compD at e
  split at e
  · rename_i ok
    cases e
    exact ⟨ok, rfl⟩
  · cases e
theorem lcRun {t : Tg} {own : List Nat} {dI : Fr → Hm → Option ((List Itm × Gd) × Hm)} {dC : Fr → Hm → Option (Bool × Hm)} {dE : Fr → Hm → Option (Val × Hm)} {Q : VK} (hin : tgIn own t = true) (a : At K P G ρ σ h τ H)
    (r : RunN K P ((dI σ h).bind fun p => (compD p.1.2 (compF t own dC dE σ) p.1.1 [] p.2).map fun q => (.lst q.1, q.2)) G ρ Q) : tLc (tDI K dI) (tDG K t) (tDC K dC) (tD K dE) own τ H Q := by
  obtain ⟨ob, h', e, z⟩ := r
  obtain ⟨⟨⟨is, g⟩, h1⟩, e1, e2⟩ := Option.bind_eq_some_iff.mp e
  obtain ⟨⟨vs, h2⟩, e3, e4⟩ := Option.map_eq_some_iff.mp e2
  cases e4
  refine ⟨P, G, ρ, σ, h, is, g, h1, a.hp, a.fr, e1, fun G1 ρ1 H1 J s1 p1 rh1 sv D nD => ?_⟩
  have nP : P D = none := rh1.kp.fresh nD
  let W : Nat → Nat → Hp → Prop := fun i m H => i ≤ is.length ∧ m = is.length - i ∧ ∃ Gx ρx hx acc accV, Sub G1 Gx ∧ Pre ρ1 ρx ∧ RelH K (upd P D (.lst acc)) Gx ρx hx H ∧ acc.length ≤ i ∧ RelWs K Gx ρx accV acc ∧ compD g (compF t own dC dE σ) (is.drop i) accV hx = some (vs, h2)
  refine ⟨W, ⟨is.length, Nat.zero_le _, rfl, G1, ρ1, h1, [], [], Sub.rfl, List.prefix_refl _, rh1.prot nD, Nat.le_refl _, .nil, e3⟩, ?_⟩
  rintro i m H ⟨hi, rfl, Gx, ρx, hx, acc, accV, sx, px, rhx, hl, rw', ec⟩
  have sP : Sub P (upd P D (.lst acc)) := Sub.new nP
  by_cases hlt : i < is.length
  · rw [List.drop_eq_getElem_cons hlt] at ec
    obtain ⟨ok, r, ef, er⟩ := compD_cons ec
    obtain ⟨sv1, _⟩ := sv.2 _ Gx ρx hx H trivial sx px rhx ok
    obtain ⟨go, yl⟩ := sv1 i is[i] (List.getElem?_eq_getElem hlt)
    refine .inr ⟨go, fun H' => ∃ m', m' < is.length - i ∧ W (i + 1) m' H', fun H' n => n, fun x H' y => ?_⟩
    obtain ⟨G', sG, rh', ri⟩ := yl x H' y
    unfold compF at ef
    obtain ⟨σ', et, ef⟩ := Option.bind_eq_some_iff.mp ef
    obtain ⟨⟨b, h3⟩, ed, ef⟩ := Option.bind_eq_some_iff.mp ef
    have sxx := sx.trans sG
    have rf0 : RelF K G' ρx σ τ := a.fr.mono (s1.trans sxx) (p1.trans px)
    refine ⟨_, G', ρx, wipeF σ own, hx, is[i], σ', rh', RelF.wiped rf0, ri, et, fun τ2 rf2 w2 => ⟨(w2 own hin).trans (wipe_sub fun _ q => q), ?_⟩⟩
    refine ⟨_, G', ρx, σ', hx, rh', rf2, b, h3, ed, fun G3 ρ3 H3 b' s3 p3 rh3 eb => ?_⟩
    have eb' : b = b' := eb
    subst eb'
    cases b with
    | true =>
      simp only [↓reduceIte]
      obtain ⟨⟨v, h4⟩, ee, er2⟩ := Option.map_eq_some_iff.mp (show ((dE σ' h3).map fun r => (some r.1, r.2)) = some r from ef)
      cases er2
      refine ⟨_, G3, ρ3, σ', h3, rh3, rf2.mono s3 p3, v, h4, ee, fun G4 ρ4 H4 y s4 p4 rh4 ry => ?_⟩
      have hz := sv.1
      refine ⟨acc, rh4.kp D _ upd_same, by omega, is.length - (i + 1), by omega, hlt, rfl, G4, ρ4, h4, acc ++ [y], accV ++ [v], (sxx.trans s3).trans s4, (px.trans p3).trans p4, rh4.reprot, by rw [List.length_append, List.length_singleton]; omega, ?_, er⟩
      exact Paired.app (RelWs.mono ((sG.trans s3).trans s4) (p3.trans p4) rw') (.cons ry .nil)
    | false =>
      simp only [Bool.false_eq_true, ↓reduceIte]
      have ef' : some ((none : Option Val), h3) = some r := ef
      cases ef'
      exact ⟨is.length - (i + 1), by omega, hlt, rfl, G3, ρ3, h3, acc, accV, sxx.trans s3, px.trans p3, rh3, by omega, RelWs.mono (sG.trans s3) p3 rw', er⟩
  · have hi' : i = is.length := by omega
    subst hi'
    rw [List.drop_length] at ec
    obtain ⟨ok, ez⟩ := compD_nil ec
    cases ez
    obtain ⟨_, st⟩ := sv.2 _ Gx ρx h2 H trivial sx px rhx ok
    refine .inl ⟨st, ?_⟩
    have hD : H D = some (.lst acc) := rhx.kp D _ upd_same
    have := z Gx ρx (del H D) D (.lst acc) (s1.trans sx) (p1.trans px) (rhx.unprot nP) del_self (relL (by have := sv.1; omega) rw')
    rw [upd_del hD] at this
    exact this
theorem nComp {elt iter : Expr} {ifs : List Expr} {scope : Scope} {own : List (Str × Nat)} {t : Tg} {dI : Fr → Hm → Option ((List Itm × Gd) × Hm)} {dC : Fr → Hm → Option (Bool × Hm)} {dE : Fr → Hm → Option (Val × Hm)}
    (hc : X.calm = true) (hN : X.N.Nodup) (hin : tgIn (own.map (·.2)) t = true) (hi : PI X tg iter (tDI X.K dI)) (ok : BlkOk X.N X.env.scope scope own)
    (hg : ∀ (s : Shared) (H : Hp) (C : Addr) (cl : List (Str × Addr)) (fp : List Addr), PG (X.blk s H scope (compEnvC scope cl C X.env) fp) tg (tDG X.K t)) (ht : ∀ (s : Shared) (H : Hp) (C : Addr) (cl : List (Str × Addr)) (fp : List Addr), PTs (X.blk s H scope (compEnvC scope cl C X.env) fp) ifs (tDC X.K dC))
    (he : ∀ (s : Shared) (H : Hp) (C : Addr) (cl : List (Str × Addr)) (fp : List Addr), PE (X.blk s H scope (compEnvC scope cl C X.env) fp) elt (tD X.K dE)) (hs : ∀ x, foldedSetIterable iter X.env x = pure x) :
    PE X (.ListComp elt [⟨tg, iter, ifs, 0⟩] scope pos) (tDN X.K fun σ h => (dI σ h).bind fun p => (compD p.1.2 (compF t (own.map (·.2)) dC dE σ) p.1.1 [] p.2).map fun q => (.lst q.1, q.2)) :=
  peN (pe_lc hc hN hi ok hg ht he hs) fun P G ρ σ h τ H Q a r => lcRun hin a r
end
end Mi
end
/-! ## MiS10 -/
section
set_option maxHeartbeats 1000000
/-! MiS10: what a def of the text promises, where no guard of repr stands; its calls; the law's own call. -/
namespace Mi
open PySem PySem.Spec PyProof.Rows L2
/-- no exception at all -/
def cx0 : CXT := fun _ _ _ _ _ _ => False
def e0 : XK := fun _ _ _ => False
abbrev SpG := List V → Hp → VK → Prop
structure FnG (Pg : Program) (w : World) (K : PySem.W.Frag) (mg : Str → Option Value) (base : Heap) (k : Nat) (f : Addr) (fd : FuncData) (ps : List Str) (sp : SpG) : Prop where
  runs : ∀ (A : Around) (outer : List PySem.Env) (s : Shared) (H : Hp) (args : Args) (us : List Value) (vs : List V) (Q : VK), Room k A → A.guards = some [] → Env0 Pg w K mg base A outer s H →
    BindsTo s fd args (ps.zip us) → Vals vs us → vs.length = ps.length → sp vs H Q → codeAny (model Pg w) A (.call (.ref f) args) (CR cx0 outer Pg w H s Q e0) s
section
variable {Pg : Program} {w : World} {K : PySem.W.Frag} {mg : Str → Option Value} {base : Heap} {k : Nat} {f : Addr}
/-- from the body -/
theorem fnG_of {name qual : Str} {params : Arguments} {body : List Stmt} {scope : Scope} {dV kV doc pm cdv ct oc : Value} {an od : Option Addr} {osl : Array (Option Value)} {N ps : List Str} {sp : SpG}
    (at_f : K.lookup f = some ⟨oc, od, .func (PySem.W.fnOf name qual params body scope dV kV doc pm an cdv ct), osl⟩) (code : PySem.W.codeIn K cdv qual = true) (sc : FnScope N ps scope)
    (hb : ∀ (A : Around) (outer : List PySem.Env) (s : Shared) (H : Hp) (vs : List V) (Q : VK), Room k (A.deeper (envOfC qual scope s.heap.objs.size f cdv)) → A.guards = some [] → vs.length = ps.length → sp vs H Q →
      ∃ t, PSs (cxOf cx0 Pg w K mg base N qual scope f cdv A outer s H e0) body t ∧ t { nx := fun _ H' => Q .non H', rt := fun v H' => Q v H' } (start N vs) H) :
    FnG Pg w K mg base (k + 1) f (PySem.W.fnOf name qual params body scope dV kV doc pm an cdv ct) ps sp := by
  constructor
  intro A outer s H args us vs Q room gd env bind rel hlen hsp
  have inK : K.In s.heap := env.mod.kin.keeps fun b o z => (env.bs b o z).1
  have noLim : s.heap.NoLimit := env.mod.nolimit.keeps fun b o z => (env.bs b o z).1
  have kinds : ∀ y ∈ ps.zip us, scope.names.lookup y.1 = some .local ∨ (scope.names.lookup y.1 = some .cell ∧ ((cellsFrom (s.heap.objs.size + 1) scope.names []).lookup y.1).isSome = true) := by
    rintro ⟨n, v⟩ hy
    exact (sc.par n (List.of_mem_zip hy).1).imp id fun z => ⟨z, PySem.W.cellsFrom_some _ _ _ (.inl z)⟩
  obtain ⟨t, ht, hq⟩ := hb A outer s H vs Q (room.deeper _) gd hlen hsp
  refine codeAny_call_function room.depth (inK _ _ at_f) rfl sc.co sc.gen rfl (PySem.W.codeRec_of inK code) (bind _ _ _ _ ?_)
  refine wpAny_newFunctionEnv_cells sc.kind kinds ?_
  rintro _ rfl s1 inCall
  refine ⟨noLim.keeps inCall.toInCall.keep, codeAny_func ?_⟩
  have start_ok : Inv (cxOf cx0 Pg w K mg base N qual scope f cdv A outer s H e0) [] (start N vs) H s1 := inv_start sc room.hd env hlen rel inCall
  refine wpAny_mono (ht.run [] s1 (start N vs) H _ start_ok hq) ?_ fun _ _ z => z
  rintro fl s2 q2
  cases fl with
  | brk => obtain ⟨_, _, _, z⟩ := q2; exact z.elim
  | cont => obtain ⟨_, _, _, z⟩ := q2; exact z.elim
  | next => obtain ⟨_, H2, J, z⟩ := q2; exact ⟨.non, H2, J.os, J.bare, J.base, J.hok, rfl, z⟩
  | ret u => obtain ⟨v, _, H2, J, rv, z⟩ := q2; exact ⟨v, H2, J.os, J.bare, J.base, J.hok, rv, z⟩
end
section
variable {X : Cx} {K : PySem.W.Frag} {P G H : Hp} {ρ : List Addr} {h : Hm} {σ : Fr} {τ : L2.St} {l r q tg : Expr} {da db dc : Fr → Hm → Option (Val × Hm)} {pos p0 : Pos}
/-- a def, where it is called -/
structure FnIn (X : Cx) (y : Str) (np : Nat) (sp : SpG) : Prop where
  ex : ∃ (k : Nat) (f : Addr) (fd : FuncData) (ps : List Str), FnG X.prog X.w X.K X.mg X.base k f fd ps sp ∧ Room k X.A ∧ X.mg y = some (.ref f) ∧ PySem.W.keepIn X.K (.ref f) = true ∧ Binds X.K fd ps [] ∧ ps.length = np
theorem run_fnG {k : Nat} {f : Addr} {fd : FuncData} {ps : List Str} {sp : SpG} {pins : List (Addr × Obj)} {s : Shared} {Q : VK} {us : List Value} {vs : List V} (F : FnG X.prog X.w X.K X.mg X.base k f fd ps sp) (room : Room k X.A) (gd : X.A.guards = some []) (bi : Binds X.K fd ps [])
    (I : Inv X pins τ H s) (rel : Vals vs us) (hl : vs.length = ps.length) (w : sp vs H Q) : wpAny (model X.prog X.w) X.A (PySem.call (.ref f) us) (EP X pins τ Q) X.xe s := by
  have hb := bi s us I.kIn (by rw [List.append_nil, ← rel.length]; exact hl)
  rw [List.append_nil] at hb
  refine wpAny_call (codeAny_mono (F.runs X.A X.stack s H ⟨us, []⟩ us vs Q room gd I.env0 hb rel hl w) ?_)
  rintro (e | fl) s' z
  · exact z.elim
  · cases fl with
    | ret u => exact I.after z
    | _ => exact z.elim
/-- how a call of Mi is promised -/
def spM (K : PySem.W.Frag) (g : List Val → Hm → Option (Val × Hm)) : SpG := fun vs H Q => ∃ P G ρ h args, RelH K P G ρ h H ∧ RelWs K G ρ args vs ∧ RunV K P (g args h) G ρ Q
theorem sCall {y : Str} {np : Nat} {g : List Val → Hm → Option (Val × Hm)} {e : Expr} {es : List Expr} {de : Fr → Hm → Option (List Val × Hm)} (F : FnIn X y np (spM X.K g)) (gd : X.A.guards = some []) (hnp : ∀ args h r, g args h = some r → args.length = np) (hg : Gl X y) (hdb : (y == ("__debug__" : Str)) = false)
    (hp : (e :: es).all plainB = true) (ha : PA X (e :: es) (tDA X.K de)) : PE X (.Call (.Name y p0) (e :: es) [] pos) (tD X.K fun σ h => (de σ h).bind fun p => g p.1 p.2) := by
  obtain ⟨k, f, fd, ps, F, room, hm, hk, hb, hl⟩ := F
  constructor
  intro pins s τ H Q I w
  obtain ⟨P, G, ρ, σ, h, rh, rf, r⟩ := w
  rw [List.all_cons, Bool.and_eq_true] at hp
  refine wpAny_Call_Name_kw (ld_glob I hg hm ?_ hdb)
  have step := tDA.step (Q' := fun xs H1 => xs.length = np ∧ spM X.K g xs H1 Q) ⟨rh, rf⟩ r fun vs h1 G1 ρ1 xs H1 a1 _ _ rx _ r1 => by
    have r2 := r1
    obtain ⟨z, h2, e2, _⟩ := r2
    exact ⟨by rw [← Paired.length rx]; exact hnp _ _ _ e2, P, G1, ρ1, h1, vs, a1.hp, rx, r1⟩
  refine PySem.W.callWith_K (h₀ := X.base) I.ok.mod.kin hk (thn (ha.run pos pins s τ H _ I step) ?_) (star_cons hp.1) (back_any hp.2)
  rintro us s1 ⟨xs, H1, I1, rel, lx, q1⟩
  exact ⟨I1.kIn, run_fnG F room gd hb I1 rel (lx.trans hl.symm) q1⟩
theorem sCall0 {y : Str} {np : Nat} {g : List Val → Hm → Option (Val × Hm)} (F : FnIn X y np (spM X.K g)) (gd : X.A.guards = some []) (hnp : ∀ args h r, g args h = some r → args.length = np) (hg : Gl X y) (hdb : (y == ("__debug__" : Str)) = false) :
    PE X (.Call (.Name y p0) [] [] pos) (tD X.K fun _ h => g [] h) := by
  obtain ⟨k, f, fd, ps, F, room, hm, hk, hb, hl⟩ := F
  constructor
  intro pins s τ H Q I w
  obtain ⟨P, G, ρ, σ, h, rh, rf, r⟩ := w
  refine wpAny_Call_Name_kw (ld_glob I hg hm ?_ hdb)
  have lx : ([] : List V).length = ps.length := by
    obtain ⟨z, h2, e2, _⟩ := r
    rw [hl]; exact hnp _ _ _ e2
  exact PySem.W.callWith_K0 I.kIn hk (run_fnG (us := []) F room gd hb I .nil lx ⟨P, G, ρ, h, [], rh, .nil, r⟩)
end
end Mi
end
/-! ## MiS11 -/
section
set_option maxHeartbeats 2000000
/-! MiS11: the law's own call. -/
namespace Mi
open PySem PySem.Spec PyProof.Rows L2
section
variable {Pg : Program} {w : World} {K : PySem.W.Frag} {mg mb : Str → Option Value} {k : Nat} {fa a : Addr} {fd : FuncData} {x : Str} {sp : SpG} {s₁ : Shared} {vs : List Value} {ns : List Int}
/-- from one abstract heap -/
theorem law_at (H : Hp) (inK : K.In s₁.heap) (gl : s₁.heap.Ns mainGlobals mg) (bl : s₁.heap.Ns builtinsNs mb) (boot : ∀ x : Str, x ≠ "__name__" → mb x = bootBuiltins x) (nol : s₁.heap.NoLimit) (gens : s₁.gens = #[])
    (obj : s₁.heap.get? a = some { cls := .type "list", data := .seq vs.toArray }) (room : Room k callerA)
    (F : ∀ base : Heap, K.In base → base.Ns mainGlobals mg → FnG Pg w K mg base k fa fd [x] sp) (bind : ∀ (s : Shared) (u : Value), BindsTo s fd ⟨[u], []⟩ [(x, u)])
    (only : Only H) (ok : HOk Pg w H s₁.heap) (at_a : ∀ b, H b ≠ none → b = a) (notK : H a ≠ none → K.lookup a = none) (wish : sp [.ref a] H (fun v _ => v = .bl true)) :
    codeAny (model Pg w) callerA (.call (.ref fa) ⟨[.ref a], []⟩) (fun r s' => r = .ok (.ret (.bool true)) ∧ OldK s₁.heap s'.heap ∧ s'.os = s₁.os ∧ AllBare s'.gens) s₁ := by
  have eqA : ∀ {b : Addr} {u : HO}, H b = some u → b = a := fun {b u} z => at_a b (by rw [z]; exact fun n => nomatch n)
  -- no dict is tracked
  have dict_free : ∀ {b : Addr} {o : Obj} {es : Array DictEntry} {ep : Nat}, s₁.heap.get? b = some o → o.data = .dict es ep → H b = none := by
    intro b o es ep g d
    rcases hb : H b with _ | u
    · rfl
    · cases eqA hb
      rw [obj] at g
      cases g
      exact nomatch d
  have names : ∀ {b : Addr} {m : Str → Option Value}, s₁.heap.Ns b m → (hidT s₁.heap H).Ns b m := by
    rintro b m ⟨o, es, ep, g, d, rest⟩
    exact ⟨o, es, ep, hidT_get g (dict_free g d), d, rest⟩
  have inK' : K.In (hidT s₁.heap H) := by
    intro b o g
    refine hidT_get (inK b o g) ?_
    rcases hb : H b with _ | u
    · rfl
    · cases eqA hb
      rw [notK (by rw [hb]; exact fun n => nomatch n)] at g
      cases g
  obtain ⟨mc, lim1, lim2⟩ := nol
  have md : Mod K mg (hidT s₁.heap H) := ⟨inK', names gl, ⟨mb, names bl, boot⟩, mc, names lim1, lim2⟩
  have env : Env0 Pg w K mg (hidT s₁.heap H) callerA [] s₁ H := by
    refine ⟨rfl, md, fun b o z => of_hidT z, Nat.le_of_eq (hidT_size _ _), trivial, ?_, ok, .of_eq gens⟩
    intro b hb
    exact absurd (show b ∈ ([] : List Addr) from hb) (by simp)
  refine codeAny_mono ((F _ inK' (names gl)).runs callerA [] s₁ H ⟨[.ref a], []⟩ [.ref a] [.ref a] _ room rfl env (bind s₁ (.ref a)) (.cons rfl .nil) rfl wish) ?_
  rintro (e | fl) s2 z
  · exact z.elim
  cases fl with
  | ret u =>
    obtain ⟨v, H2, os, bare, un, ok2, rel, ev⟩ := z
    have ev' : v = .bl true := ev
    subst ev'
    obtain rfl : u = Value.bool true := rel
    refine ⟨rfl, OldK.of_keep ?_, os, bare⟩
    intro b o g
    rcases only b with n | ⟨ob, xs, z⟩
    · exact un.keep b o g n (fun q => absurd (show b ∈ ([] : List Addr) from q) (by simp)) (by simp)
    · have z2 := un.frzs b ob _ z
      obtain ⟨g1, _⟩ := ok b _ z
      obtain ⟨g2, _⟩ := ok2 b _ z2
      rw [g] at g1
      cases g1
      exact g2
  | _ => exact z.elim
/-- the script: an object of the module, or a list that is known to the object -/
theorem lawG (inK : K.In s₁.heap) (gl : s₁.heap.Ns mainGlobals mg) (bl : s₁.heap.Ns builtinsNs mb) (boot : ∀ x : Str, x ≠ "__name__" → mb x = bootBuiltins x) (nol : s₁.heap.NoLimit) (gens : s₁.gens = #[])
    (obj : s₁.heap.get? a = some { cls := .type "list", data := .seq vs.toArray }) (isI : IntsAre vs ns) (short : ns.length ≤ sizeLine) (room : Room k callerA)
    (F : ∀ base : Heap, K.In base → base.Ns mainGlobals mg → FnG Pg w K mg base k fa fd [x] sp) (bind : ∀ (s : Shared) (u : Value), BindsTo s fd ⟨[u], []⟩ [(x, u)])
    (wish : ∀ H : Hp, Only H → SqL K H a (ns.map V.int) → sp [.ref a] H (fun v _ => v = .bl true)) :
    codeAny (model Pg w) callerA (.call (.ref fa) ⟨[.ref a], []⟩) (fun r s' => r = .ok (.ret (.bool true)) ∧ OldK s₁.heap s'.heap ∧ s'.os = s₁.os ∧ AllBare s'.gens) s₁ := by
  have rel := vals_ints isI
  rcases ka : K.lookup a with _ | o
  · let H : Hp := upd (fun _ => none) a (.frz { cls := .type "list", data := .seq vs.toArray } (.lst (ns.map V.int)))
    have hA : H a = some (.frz { cls := .type "list", data := .seq vs.toArray } (.lst (ns.map V.int))) := upd_same
    have hN : ∀ {b : Addr}, b ≠ a → H b = none := fun {b} n => by
      show upd (fun _ => none) a _ b = none
      rw [upd_ne n]
    have only : Only H := by
      intro b
      by_cases e : b = a
      · subst e; exact .inr ⟨_, _, hA⟩
      · exact .inl (hN e)
    refine law_at H inK gl bl boot nol gens obj room F bind only ?_ ?_ (fun _ => ka) (wish H only (.inl (.inr ⟨_, hA⟩)))
    · intro b u z
      by_cases e : b = a
      · subst e
        rw [hA] at z
        cases z
        exact ⟨obj, by rw [List.length_map]; exact short, vs, _, rel, obj⟩
      · rw [hN e] at z; cases z
    · intro b z
      by_cases e : b = a
      · exact e
      · exact absurd (hN e) z
  · have g := inK a o ka
    rw [obj] at g
    cases g
    have len := isI.length
    refine law_at (fun _ => none) inK gl bl boot nol gens obj room F bind (fun _ => .inl rfl) (fun b u z => nomatch (show (none : Option HO) = some u from z)) (fun b z => absurd rfl z) (fun z => absurd rfl z) ?_
    refine wish _ (fun _ => .inl rfl) (.inr ⟨_, vs.toArray, _, ka, rfl, rfl, rfl, ?_, by simpa using rel⟩)
    rw [List.size_toArray, len]
    exact short
end
theorem walkG {l : PySem.W.OpenLaw} {n k : Nat} {q : Program} {loose : List Str} {XP : (Str → Option Value) → Heap → Prop} {YP : World → Heap → Prop} {d : DefRec} {x : Str}
    (most : l.most = some n) (hn : n ≤ sizeLine) (nodef : d.params.defaults = []) (room : Room k callerA)
    (F : ∀ (w : World) (mg : Str → Option Value) (fa : Addr) (h : Heap), YP w h → h.Ns mainGlobals mg → mg d.name = some (.ref fa) →
      ∃ (K : PySem.W.Frag) (fd : FuncData) (sp : SpG), K.In h ∧ (∀ (s : Shared) (u : Value), BindsTo s fd ⟨[u], []⟩ [(x, u)]) ∧
        (∀ (H : Hp) (a : Addr) (ns : List Int), ns.length ≤ n → Only H → SqL K H a (ns.map V.int) → sp [.ref a] H (fun v _ => v = .bl true)) ∧
        ∀ base : Heap, K.In base → base.Ns mainGlobals mg → FnG l.prog w K mg base k fa fd [x] sp) :
    PySem.W.WalkO q loose XP YP l.row.toRowW d [] (fun f vs => PySem.call f vs) := by
  refine Att.attach_call most nodef ?_
  intro w s₀ s₁ mg mb fa o pm cd doc a vs ns G Y ho hd hcd hmg obj isI len gens
  obtain ⟨K, fd, sp, inK, bind, wish, prom⟩ := F w mg fa _ Y G.T.g hmg
  exact lawG inK G.T.g G.T.b G.T.builtins G.T.nolimit gens obj isI (Nat.le_trans len hn) room prom bind fun H only sq => wish H a ns len only sq
end Mi
end
/-! ## MiS12 -/
section
set_option maxHeartbeats 1000000
/-! MiS12: statements. -/
namespace Mi
open PySem PySem.Spec PyProof.Rows L2
section
variable (K : PySem.W.Frag)
def endS (G : Hp) (ρ : List Addr) (D : Ends) : Fl → L2.St → Hp → Prop
  | .next, τ, H => D.nx τ H
  | .brk, τ, H => D.bk τ H
  | .cont, τ, H => D.ct τ H
  | .ret v, _, H => ∀ x, RelW K G ρ v x → D.rt x H
def RunS (P : Hp) (m : Res) (G : Hp) (ρ : List Addr) (D : Ends) : Prop :=
  ∃ fl σ' h', m = some ((fl, σ'), h') ∧ ∀ G' ρ' H' τ', Sub G G' → Pre ρ ρ' → RelH K P G' ρ' h' H' → RelF K G' ρ' σ' τ' → endS K G' ρ' D fl τ' H'
def tDS (d : Fr → Hm → Res) : TS := fun D τ H => ∃ P G ρ σ h, RelH K P G ρ h H ∧ RelF K G ρ σ τ ∧ RunS K P (d σ h) G ρ D
end
section
variable {X : Cx} {K : PySem.W.Frag} {P G H : Hp} {ρ : List Addr} {h : Hm} {σ : Fr} {τ : L2.St} {l r q tg : Expr} {da db dc de : Fr → Hm → Option (Val × Hm)} {pos p0 : Pos} {D : Ends}
theorem psD {x : Stmt} {t : TS} {d : Fr → Hm → Res} (p : PS X x t) (hh : ∀ (P G : Hp) (ρ : List Addr) (σ : Fr) (h : Hm) (τ : L2.St) (H : Hp) (D : Ends), At K P G ρ σ h τ H → RunS K P (d σ h) G ρ D → t D τ H) : PS X x (tDS K d) :=
  PS.imp p fun D τ H ⟨P, G, ρ, σ, h, rh, rf, r⟩ => hh P G ρ σ h τ H D ⟨rh, rf⟩ r
theorem pssD {x : List Stmt} {t : TS} {d : Fr → Hm → Res} (p : PSs X x t) (hh : ∀ (P G : Hp) (ρ : List Addr) (σ : Fr) (h : Hm) (τ : L2.St) (H : Hp) (D : Ends), At K P G ρ σ h τ H → RunS K P (d σ h) G ρ D → t D τ H) : PSs X x (tDS K d) :=
  PSs.imp p fun D τ H ⟨P, G, ρ, σ, h, rh, rf, r⟩ => hh P G ρ σ h τ H D ⟨rh, rf⟩ r
theorem RunS.not {Z : Prop} (r : RunS K P none G ρ D) : Z := by obtain ⟨_, _, _, e, _⟩ := r; cases e
theorem RunS.now {fl : Fl} {σ' : Fr} {τ' : L2.St} (a : At K P G ρ σ h τ H) (r : RunS K P (some ((fl, σ'), h)) G ρ D) (rf : RelF K G ρ σ' τ') : endS K G ρ D fl τ' H := by
  obtain ⟨_, _, _, e, z⟩ := r
  cases e
  exact z G ρ H τ' Sub.rfl (List.prefix_refl _) a.hp rf
theorem RunS.more {m : Res} {G' : Hp} {ρ' : List Addr} (s : Sub G G') (p : Pre ρ ρ') (r : RunS K P m G ρ D) : RunS K P m G' ρ' D := by
  obtain ⟨fl, σ', h', e, z⟩ := r
  exact ⟨fl, σ', h', e, fun G2 ρ2 H2 τ2 s2 p2 => z G2 ρ2 H2 τ2 (s.trans s2) (p.trans p2)⟩
theorem RunS.stepE {d : Fr → Hm → Option (Val × Hm)} {f : Val × Hm → Res} {Q' : VK} (a : At K P G ρ σ h τ H) (r : RunS K P ((d σ h).bind f) G ρ D)
    (q : ∀ v h1 G1 ρ1 x H1, At K P G1 ρ1 σ h1 τ H1 → Sub G G1 → Pre ρ ρ1 → RelW K G1 ρ1 v x → d σ h = some (v, h1) → RunS K P (f (v, h1)) G1 ρ1 D → Q' x H1) : tD K d τ H Q' := by
  obtain ⟨fl, σ', h', e, z⟩ := r
  obtain ⟨⟨v, h1⟩, e1, e2⟩ := Option.bind_eq_some_iff.mp e
  exact tD.of a ⟨v, h1, e1, fun G1 ρ1 H1 x s p rh rx => q v h1 G1 ρ1 x H1 (a.next s p rh) s p rx e1 (RunS.more s p ⟨fl, σ', h', e2, z⟩)⟩
theorem RunS.stepA {d : Fr → Hm → Option (List Val × Hm)} {f : List Val × Hm → Res} {Q' : List V → Hp → Prop} (a : At K P G ρ σ h τ H) (r : RunS K P ((d σ h).bind f) G ρ D)
    (q : ∀ v h1 G1 ρ1 x H1, At K P G1 ρ1 σ h1 τ H1 → Sub G G1 → Pre ρ ρ1 → RelWs K G1 ρ1 v x → d σ h = some (v, h1) → RunS K P (f (v, h1)) G1 ρ1 D → Q' x H1) : tDA K d τ H Q' := by
  obtain ⟨fl, σ', h', e, z⟩ := r
  obtain ⟨⟨v, h1⟩, e1, e2⟩ := Option.bind_eq_some_iff.mp e
  exact tDA.of a ⟨v, h1, e1, fun G1 ρ1 H1 x s p rh rx => q v h1 G1 ρ1 x H1 (a.next s p rh) s p rx e1 (RunS.more s p ⟨fl, σ', h', e2, z⟩)⟩
theorem RunS.stepT {d : Fr → Hm → Option (Val × Hm)} {f : Val × Hm → Res} {Q' : Bool → Hp → Prop} (hf : ∀ v h', (∀ b, v ≠ vb b) → f (v, h') = none) (a : At K P G ρ σ h τ H) (r : RunS K P ((d σ h).bind f) G ρ D)
    (q : ∀ b h1 G1 ρ1 H1, At K P G1 ρ1 σ h1 τ H1 → Sub G G1 → Pre ρ ρ1 → d σ h = some (vb b, h1) → RunS K P (f (vb b, h1)) G1 ρ1 D → Q' b H1) : tDT K d τ H Q' := by
  obtain ⟨fl, σ', h', e, z⟩ := r
  obtain ⟨⟨v, h1⟩, e1, e2⟩ := Option.bind_eq_some_iff.mp e
  by_cases hb : ∃ b, v = vb b
  · obtain ⟨b, rfl⟩ := hb
    exact tDT.of a ⟨b, h1, e1, fun G1 ρ1 H1 s p rh => q b h1 G1 ρ1 H1 (a.next s p rh) s p e1 (RunS.more s p ⟨fl, σ', h', e2, z⟩)⟩
  · rw [hf v h1 fun b e => hb ⟨b, e⟩] at e2; cases e2
theorem RunS.of_map {α : Type} {m : Option α} {f : α → (Fl × Fr) × Hm} (r : RunS K P (m.map f) G ρ D) : ∃ x, m = some x ∧ RunS K P (some (f x)) G ρ D := by
  cases m with
  | none => exact r.not
  | some x => exact ⟨x, rfl, r⟩
theorem RunS.of_bind {α : Type} {m : Option α} {f : α → Res} (r : RunS K P (m.bind f) G ρ D) : ∃ x, m = some x ∧ RunS K P (f x) G ρ D := by
  cases m with
  | none => exact r.not
  | some x => exact ⟨x, rfl, r⟩
/-! ### plain ones -/
theorem zPass : PS X (.Pass pos) (tDS X.K fun σ h => some ((.next, σ), h)) := psD ps_pass fun P G ρ σ h τ H D a r => RunS.now a r a.fr
theorem zBreak : PS X (.Break pos) (tDS X.K fun σ h => some ((.brk, σ), h)) := psD ps_break fun P G ρ σ h τ H D a r => RunS.now a r a.fr
theorem zCont : PS X (.Continue pos) (tDS X.K fun σ h => some ((.cont, σ), h)) := psD ps_continue fun P G ρ σ h τ H D a r => RunS.now a r a.fr
theorem zNever {x : Stmt} : PS X x (tDS K fun _ _ => none) := psD ps_never fun P G ρ σ h τ H D a r => r.not
theorem zExpr (he : PE X l (tD X.K de)) (hs : swapsWith l none pos.line X.env = pure false) : PS X (.Expr l pos) (tDS X.K fun σ h => (de σ h).map fun p => ((.next, σ), p.2)) :=
  psD (ps_expr he hs) fun P G ρ σ h τ H D a r => by
    rw [Option.map_eq_bind] at r
    exact RunS.stepE a r fun v h1 G1 ρ1 x H1 a1 s p rx _ r1 => RunS.now a1 r1 a1.fr
theorem zRet (he : PE X l (tD X.K de)) : PS X (.Return (some l) pos) (tDS X.K fun σ h => (de σ h).map fun p => ((.ret p.1, σ), p.2)) :=
  psD (ps_ret he) fun P G ρ σ h τ H D a r => by
    rw [Option.map_eq_bind] at r
    exact RunS.stepE a r fun v h1 G1 ρ1 x H1 a1 s p rx _ r1 => RunS.now a1 r1 a1.fr x rx
theorem tgItm_one {t : Tg} {v : Val} : tgItm t (.one v) σ = tgSet t v σ := by cases t <;> rfl
/-- a value for a target -/
theorem asg_ok {t : Tg} {v : Val} {x : V} (a : At K P G ρ σ h τ H) (rx : RelW K G ρ v x) (r : RunS K P ((tgSet t v σ).map fun σ' => ((.next, σ'), h)) G ρ D) : tDG K t x τ H D.nx := by
  obtain ⟨σ', e, r⟩ := r.of_map
  exact ⟨P, G, ρ, σ, h, .one v, σ', a.hp, a.fr, rx, by rw [tgItm_one]; exact e, fun τ' rf _ => RunS.now a r rf⟩
theorem zAsg {t : Tg} (he : PE X l (tD X.K de)) (hg : PG X tg (tDG X.K t)) (hs : swapsWithSole [tg] l pos.line X.env = pure false) (hw : swappedStores [tg] l X.env = pure none) (h1 : (assignEach [tg] X.env).map (·.2) = [assign tg X.env]) :
    PS X (.Assign [tg] l pos) (tDS X.K fun σ h => (de σ h).bind fun p => (tgSet t p.1 σ).map fun σ' => ((.next, σ'), p.2)) :=
  psD (ps_asg he hg hs hw h1) fun P G ρ σ h τ H D a r => RunS.stepE a r fun v h1 G1 ρ1 x H1 a1 s p rx _ r1 => asg_ok a1 rx r1
/-! ### o[i] = e -/
theorem set_ok {v w u : Val} {x y z : V} {h2 : Hm} {Q : Hp → Prop} (a : At K P G ρ σ h τ H) (rx : RelW K G ρ v x) (ry : RelW K G ρ w y) (rz : RelW K G ρ u z) (e : setSub h v w u = some h2) (q : ∀ H', RelH K P G ρ h2 H' → Q H') : rSetL x y z H Q := by
  unfold setSub at e
  split at e
  · rename_i _ _ _ n i
    cases hn : h[n]? with
    | none => rw [hn] at e; cases e
    | some ob => cases ob with
      | lst vs =>
        rw [hn] at e
        obtain ⟨k, ek, e2⟩ := Option.map_eq_some_iff.mp (show (ixN vs.length i).map _ = _ from e)
        obtain ⟨b, xs, eb, hb, zz, rl⟩ := a.hp.lst hn
        obtain ⟨b', eb', rfl⟩ := rx
        rw [eb] at eb'; cases eb'
        cases dInt ry
        subst e2
        refine ⟨b, xs, i, k, rfl, rfl, hb, ?_, q _ ?_⟩
        · rw [← Paired.length rl]; exact ek
        · exact a.hp.wrote eb (relL (by rw [List.length_set]; exact zz) (Paired.setP rz k rl))
      | _ => rw [hn] at e; cases e
  · cases e
theorem assign_sub {o i : Expr} (hi : ∀ a b c p, i ≠ .Slice a b c p) (v : Value) : assign (.Subscript o i pos) X.env v = (do
      let ov ← holding [v] (eval o X.env)
      let iv ← holding [v, ov] (eval i X.env)
      standAt pos
      holding [v, ov, iv] (setItem ov iv v)
      release [v, ov, iv] []) := by
  cases i <;> first | rfl | exact absurd rfl (hi _ _ _ _)
theorem zSset (he : PE X l (tD X.K de)) (ho : PE X r (tD X.K da)) (hi : PE X q (tD X.K db)) (hq : ∀ a b c p, q ≠ .Slice a b c p) (hs : swapsWithSole [.Subscript r q p0] l pos.line X.env = pure false) (hw : swappedStores [.Subscript r q p0] l X.env = pure none) :
    PS X (.Assign [.Subscript r q p0] l pos) (tDS X.K fun σ h => (de σ h).bind fun p => (da σ p.2).bind fun q => (db σ q.2).bind fun r => (setSub r.2 q.1 r.1 p.1).map fun h' => ((.next, σ), h')) :=
  psD (ps_asg he (pg_sub ho hi set_list (assign_sub hq)) hs hw rfl) fun P G ρ σ h τ H D a r => RunS.stepE a r fun v h1 G1 ρ1 x H1 a1 s p rx _ r1 =>
    RunS.stepE a1 r1 fun w h2 G2 ρ2 y H2 a2 s2 p2 ry _ r2 => RunS.stepE a2 r2 fun u h3 G3 ρ3 z H3 a3 s3 p3 rz _ r3 => by
      obtain ⟨h4, e4, r4⟩ := r3.of_map
      refine set_ok a3 (ry.mono s3 p3) rz ((rx.mono s2 p2).mono s3 p3) e4 fun H' rh => ?_
      exact RunS.now ⟨rh, a3.fr⟩ r4 a3.fr
end
end Mi
end
/-! ## MiS13 -/
section
set_option maxHeartbeats 1000000
/-! MiS13: statements that hold others; stores of several names. -/
namespace Mi
open PySem PySem.Spec PyProof.Rows L2
section
variable {X : Cx} {K : PySem.W.Frag} {P G H : Hp} {ρ : List Addr} {h : Hm} {σ : Fr} {τ : L2.St} {l r q tg : Expr} {da db dc de : Fr → Hm → Option (Val × Hm)} {pos p0 : Pos} {D : Ends}
/-! ### one after another -/
theorem zNil : PSs X [] (tDS X.K fun σ h => some ((.next, σ), h)) := pssD pss_nil fun P G ρ σ h τ H D a r => RunS.now a r a.fr
theorem zSeq {st : Stmt} {rest : List Stmt} {d d' : Fr → Hm → Res} (h1 : PS X st (tDS X.K d)) (h2 : PSs X rest (tDS X.K d')) : PSs X (st :: rest) (tDS X.K fun σ h => (d σ h).bind fun r => match r.1.1 with | .next => d' r.1.2 r.2 | _ => some r) :=
  pssD (pss_cons h1 h2) fun P G ρ σ h τ H D a r => by
    obtain ⟨fl, σ', h', e, z⟩ := r
    obtain ⟨⟨⟨f1, σ1⟩, h1⟩, e1, e2⟩ := Option.bind_eq_some_iff.mp e
    refine ⟨P, G, ρ, σ, h, a.hp, a.fr, f1, σ1, h1, e1, fun G1 ρ1 H1 τ1 s p rh rf => ?_⟩
    cases f1 with
    | next => exact ⟨P, G1, ρ1, σ1, h1, rh, rf, fl, σ', h', e2, fun G2 ρ2 H2 τ2 s2 p2 => z G2 ρ2 H2 τ2 (s.trans s2) (p.trans p2)⟩
    | brk => cases e2; exact z G1 ρ1 H1 τ1 s p rh rf
    | cont => cases e2; exact z G1 ρ1 H1 τ1 s p rh rf
    | ret v => cases e2; exact z G1 ρ1 H1 τ1 s p rh rf
theorem zIf {a b : List Stmt} {d d' : Fr → Hm → Res} (hc : PT X l (tDT X.K dc)) (ha : PSs X a (tDS X.K d)) (hb : PSs X b (tDS X.K d')) :
    PS X (.If l a b pos) (tDS X.K fun σ h => (dc σ h).bind fun p => match p.1 with | .dat (.bool true) => d σ p.2 | .dat (.bool false) => d' σ p.2 | _ => none) :=
  psD (ps_if hc ha hb) fun P G ρ σ h τ H D a r => RunS.stepT (fun v h' n => and_no n) a r fun b h1 G1 ρ1 H1 a1 s p _ r1 => by
    cases b with
    | true => exact ⟨P, G1, ρ1, σ, h1, a1.hp, a1.fr, r1⟩
    | false => exact ⟨P, G1, ρ1, σ, h1, a1.hp, a1.fr, r1⟩
/-! ### behind a turn -/
theorem below_rel {n : Nat} {v : Val} {x : V} (hb : v.below n = true) (r : RelW K G ρ v x) : RelW K G (ρ.take n) v x := by
  cases v with
  | dat d => exact r
  | scr ns => exact r
  | ref a =>
    obtain ⟨p, e, rfl⟩ := r
    have : a < n := of_decide_eq_true hb
    exact ⟨p, by rw [List.getElem?_take_of_lt this]; exact e, rfl⟩
theorem below_all {n : Nat} : ∀ {vs : List Val} {xs : List V}, vs.all (Val.below n) = true → RelWs K G ρ vs xs → RelWs K G (ρ.take n) vs xs
  | [], _, _, .nil => .nil
  | v :: vs, _, hb, .cons r rs => by
    rw [List.all_cons, Bool.and_eq_true] at hb
    exact .cons (below_rel hb.1 r) (below_all hb.2 rs)
theorem below_ks {n : Nat} : ∀ {vs : List (PyData × Val)} {xs : List (Key × V)}, vs.all (fun kv => kv.2.below n) = true → Paired (fun (p : PyData × Val) (q : Key × V) => p.1 = kyD q.1 ∧ RelW K G ρ p.2 q.2) vs xs → Paired (fun (p : PyData × Val) (q : Key × V) => p.1 = kyD q.1 ∧ RelW K G (ρ.take n) p.2 q.2) vs xs
  | [], _, _, .nil => .nil
  | v :: vs, _, hb, .cons r rs => by
    rw [List.all_cons, Bool.and_eq_true] at hb
    exact .cons ⟨r.1, below_rel hb.1 r.2⟩ (below_ks hb.2 rs)
theorem below_ob {n : Nat} {ob : Ob} {o : HO} (hb : ob.below n = true) (r : RelO K G ρ ob o) : RelO K G (ρ.take n) ob o := by
  cases ob with
  | lst vs => obtain ⟨xs, e, z, q⟩ := r; exact ⟨xs, e, z, below_all hb q⟩
  | dct kvs => obtain ⟨ks, e, z, q⟩ := r; exact ⟨ks, e, z, below_ks hb q⟩
  | dead => exact r
theorem cutH_some {n : Nat} {h' : Hm} (e : cutH n h = some h') : h' = h.take n ∧ ∀ ob ∈ h.take n, Ob.below n ob = true := by
  unfold cutH at e
  split at e
  · rename_i hb
    cases e
    exact ⟨rfl, fun ob ho => List.all_eq_true.mp hb ob ho⟩
  · cases e
theorem RelH.cut {n : Nat} {h' : Hm} (r : RelH K P G ρ h H) (e : cutH n h = some h') : RelH K P G (ρ.take n) h' H := by
  obtain ⟨rfl, hb⟩ := cutH_some e
  refine ⟨r.kp, fun b u z => ⟨(r.apart b u z).1, fun m => (r.apart b u z).2 (List.mem_of_mem_take m)⟩, r.sub, by rw [List.length_take, List.length_take, r.len], r.nd.sublist (List.take_sublist _ _), fun p hp => r.off p (List.mem_of_mem_take hp), fun i ob z => ?_⟩
  have hm := List.mem_of_getElem? z
  have hi : i < n := by
    have := (List.getElem?_eq_some_iff.mp z).1
    rw [List.length_take] at this; omega
  rw [List.getElem?_take_of_lt hi] at z
  obtain ⟨p, o, e1, e2, q⟩ := r.obj i ob z
  exact ⟨p, o, by rw [List.getElem?_take_of_lt hi]; exact e1, e2, below_ob (hb ob hm) q⟩
theorem RelF.dropped {n : Nat} : ∀ {σ : Fr} {τ : L2.St}, RelF K G ρ σ τ → RelF K G (ρ.take n) (dropF n σ) τ
  | _, _, .nil => .nil
  | o :: _, _, .cons r rs => by
    refine .cons ?_ (RelF.dropped rs)
    cases o with
    | none => exact trivial
    | some v =>
      obtain ⟨y, e, ry⟩ := r
      show RelFo K G (ρ.take n) (if v.below n then some v else none) _
      split
      · exact ⟨y, e, below_rel (by assumption) ry⟩
      · exact trivial
theorem turn_end {n : Nat} {rg : Bool} {ρ0 : List Addr} {σ' : Fr} {h' : Hm} (hn : ρ0.length = n) (p : Pre ρ0 ρ) (rh : RelH K P G ρ h H) (rf : RelF K G ρ σ τ) (e : endTurn rg n σ h = some (σ', h')) : ∃ ρ', Pre ρ0 ρ' ∧ RelH K P G ρ' h' H ∧ RelF K G ρ' σ' τ := by
  unfold endTurn at e
  split at e
  · obtain ⟨h2, e1, e2⟩ := Option.map_eq_some_iff.mp e
    cases e2
    refine ⟨ρ.take n, ?_, rh.cut e1, rf.dropped⟩
    obtain ⟨t, rfl⟩ := p
    rw [List.take_append_of_le_length (by omega), ← hn, List.take_length]
    exact List.prefix_refl _
  · cases e
    exact ⟨ρ, p, rh, rf⟩
/-! ### while -/
theorem zWhile {b : List Stmt} {d : Fr → Hm → Res} {rg : Bool} (hp : PassesOwn (model X.prog X.w) X.A X.env X.xe) (hc : PT X l (tDT X.K dc)) (hb : PSs X b (tDS X.K d)) :
    PS X (.While l b [] pos) (tDS X.K fun σ h => whileD rg h.length dc d wfuel σ h) :=
  psD (ps_while hp hc hb) fun P G ρ0 σ h τ H D a r => by
    obtain ⟨fl, σ', h', e, z⟩ := r
    have hn : ρ0.length = h.length := a.hp.len
    generalize h.length = n at e hn
    let W : Nat → L2.St → Hp → Prop := fun m τ H => ∃ Gx ρx σx hx, Sub G Gx ∧ Pre ρ0 ρx ∧ RelH X.K P Gx ρx hx H ∧ RelF X.K Gx ρx σx τ ∧ whileD rg n dc d m σx hx = some ((fl, σ'), h')
    refine ⟨W, ⟨wfuel, G, ρ0, σ, h, Sub.rfl, List.prefix_refl _, a.hp, a.fr, e⟩, ?_⟩
    rintro m τ H ⟨Gx, ρx, σx, hx, sx, px, rhx, rfx, ex⟩
    cases m with
    | zero => unfold whileD at ex; cases ex
    | succ m =>
      unfold whileD at ex
      obtain ⟨⟨v, h1⟩, e1, e2⟩ := Option.bind_eq_some_iff.mp ex
      by_cases hv : ∃ b, v = vb b
      · obtain ⟨b, rfl⟩ := hv
        refine tDT.of ⟨rhx, rfx⟩ ⟨b, h1, e1, fun G1 ρ1 H1 s1 p1 rh1 => ?_⟩
        have rf1 := rfx.mono s1 p1
        cases b with
        | true =>
          simp only [↓reduceIte]
          obtain ⟨⟨⟨f2, σ2⟩, h2⟩, e3, e4⟩ := Option.bind_eq_some_iff.mp (show ((d σx h1).bind _) = _ from e2)
          refine ⟨fun τ' H' => ∃ m', m' < m + 1 ∧ W m' τ' H', fun _ _ z => z, P, G1, ρ1, σx, h1, rh1, rf1, f2, σ2, h2, e3, fun G2 ρ2 H2 τ2 s2 p2 rh2 rf2 => ?_⟩
          have again : ((endTurn rg n σ2 h2).bind fun q => whileD rg n dc d m q.1 q.2) = some ((fl, σ'), h') → ∃ m', m' < m + 1 ∧ W m' τ2 H2 := fun ea => by
            obtain ⟨⟨σ3, h3⟩, e5, e6⟩ := Option.bind_eq_some_iff.mp ea
            obtain ⟨ρ3, p3, rh3, rf3⟩ := turn_end hn ((px.trans p1).trans p2) rh2 rf2 e5
            exact ⟨m, Nat.lt_succ_self _, G2, ρ3, σ3, h3, (sx.trans s1).trans s2, p3, rh3, rf3, e6⟩
          cases f2 with
          | next => exact again e4
          | cont => exact again e4
          | brk => cases e4; exact z G2 ρ2 H2 τ2 ((sx.trans s1).trans s2) ((px.trans p1).trans p2) rh2 rf2
          | ret v => cases e4; exact z G2 ρ2 H2 τ2 ((sx.trans s1).trans s2) ((px.trans p1).trans p2) rh2 rf2
        | false =>
          simp only [Bool.false_eq_true, ↓reduceIte]
          cases e2
          exact z G1 ρ1 H1 τ (sx.trans s1) (px.trans p1) rh1 rf1
      · exfalso
        split at e2
        · rename_i hq; exact hv ⟨true, hq⟩
        · rename_i hq; exact hv ⟨false, hq⟩
        · cases e2
/-! ### for -/
theorem forD_cons {g : Gd} {rg : Bool} {n : Nat} {f : Itm → Fr → Hm → Res} {x : Itm} {xs : List Itm} {z : (Fl × Fr) × Hm} (e : forD g rg n f (x :: xs) σ h = some z) :
    g.ok h = true ∧ ∃ r, f x σ h = some r ∧ (match r.1.1 with
    | .next => (endTurn rg n r.1.2 r.2).bind fun q => forD g rg n f xs q.1 q.2
    | .cont => (endTurn rg n r.1.2 r.2).bind fun q => forD g rg n f xs q.1 q.2
    | .brk => some ((.next, r.1.2), r.2)
    | .ret v => some ((.ret v, r.1.2), r.2)) = some z := by
  unfold forD at e
  split at e
  · rename_i ok
    obtain ⟨r, e1, e2⟩ := Option.bind_eq_some_iff.mp e
    exact ⟨ok, r, e1, e2⟩
  · cases e
theorem zFor {iter : Expr} {b : List Stmt} {t : Tg} {dI : Fr → Hm → Option ((List Itm × Gd) × Hm)} {d : Fr → Hm → Res} {rg : Bool} (hp : PassesOwn (model X.prog X.w) X.A X.env X.xe) (hc : X.calm = true) (hi : PI X tg iter (tDI X.K dI)) (hg : PG X tg (tDG X.K t)) (hb : PSs X b (tDS X.K d))
    (hs : ∀ x, foldedSetIterable iter X.env x = pure x) :
    PS X (.For tg iter b [] pos) (tDS X.K fun σ h => (dI σ h).bind fun p => forD p.1.2 rg p.2.length (fun x σ h => (tgItm t x σ).bind fun σ' => d σ' h) p.1.1 σ p.2) :=
  psD (ps_for hp hc hi hg hb hs) fun P G ρ σ h τ H D a r => by
    obtain ⟨fl, σ', h', e, z⟩ := r
    obtain ⟨⟨⟨is, g⟩, h1⟩, e1, e2⟩ := Option.bind_eq_some_iff.mp e
    refine ⟨P, G, ρ, σ, h, is, g, h1, a.hp, a.fr, e1, fun G0 ρ0 H1 J s1 p1 rh1 sv => ?_⟩
    have e2' : forD g rg h1.length (fun x σ h => (tgItm t x σ).bind fun σ' => d σ' h) is σ h1 = some ((fl, σ'), h') := e2
    have hn : ρ0.length = h1.length := rh1.len
    generalize h1.length = n at e2' hn
    let W : Nat → Nat → L2.St → Hp → Prop := fun i m τ H => i ≤ is.length ∧ m = is.length - i ∧ ∃ Gx ρx σx hx, Sub G0 Gx ∧ Pre ρ0 ρx ∧ RelH X.K P Gx ρx hx H ∧ RelF X.K Gx ρx σx τ ∧ forD g rg n (fun x σ h => (tgItm t x σ).bind fun σ' => d σ' h) (is.drop i) σx hx = some ((fl, σ'), h')
    refine ⟨W, ⟨is.length, Nat.zero_le _, rfl, G0, ρ0, σ, h1, Sub.rfl, List.prefix_refl _, rh1, a.fr.mono s1 p1, e2'⟩, ?_⟩
    rintro i m τ H ⟨hi, rfl, Gx, ρx, σx, hx, sx, px, rhx, rfx, ec⟩
    by_cases hlt : i < is.length
    · rw [List.drop_eq_getElem_cons hlt] at ec
      obtain ⟨ok, r, ef, er⟩ := forD_cons ec
      obtain ⟨sv1, _⟩ := sv.2 _ Gx ρx hx H trivial sx px rhx ok
      obtain ⟨go, yl⟩ := sv1 i is[i] (List.getElem?_eq_getElem hlt)
      refine .inr ⟨go, fun τ' H' => ∃ m', m' < is.length - i ∧ W (i + 1) m' τ' H', fun _ _ n => n, fun x H' y => ?_⟩
      obtain ⟨G', sG, rh', ri⟩ := yl x H' y
      obtain ⟨σ1, et, ed⟩ := Option.bind_eq_some_iff.mp ef
      refine ⟨P, G', ρx, σx, hx, is[i], σ1, rh', rfx.mono sG (List.prefix_refl _), ri, et, fun τ1 rf1 _ => ?_⟩
      obtain ⟨⟨f2, σ2⟩, h2⟩ := r
      refine ⟨P, G', ρx, σ1, hx, rh', rf1, f2, σ2, h2, ed, fun G2 ρ2 H2 τ2 s2 p2 rh2 rf2 => ?_⟩
      have again : ((endTurn rg n σ2 h2).bind fun q => forD g rg n (fun x σ h => (tgItm t x σ).bind fun σ' => d σ' h) (is.drop (i + 1)) q.1 q.2) = some ((fl, σ'), h') → ∃ m', m' < is.length - i ∧ W (i + 1) m' τ2 H2 := fun ea => by
        obtain ⟨⟨σ3, h3⟩, e5, e6⟩ := Option.bind_eq_some_iff.mp ea
        obtain ⟨ρ3, p3, rh3, rf3⟩ := turn_end hn (px.trans p2) rh2 rf2 e5
        exact ⟨is.length - (i + 1), by omega, hlt, rfl, G2, ρ3, σ3, h3, (sx.trans sG).trans s2, p3, rh3, rf3, e6⟩
      have ss := (s1.trans (sx.trans sG)).trans s2
      have pp := (p1.trans px).trans p2
      cases f2 with
      | next => exact again er
      | cont => exact again er
      | brk => cases er; exact z G2 ρ2 H2 τ2 ss pp rh2 rf2
      | ret v => cases er; exact z G2 ρ2 H2 τ2 ss pp rh2 rf2
    · have hi' : i = is.length := by omega
      subst hi'
      rw [List.drop_length] at ec
      unfold forD at ec
      split at ec
      · rename_i ok
        cases ec
        obtain ⟨_, st⟩ := sv.2 _ Gx ρx _ H trivial sx px rhx ok
        exact .inl ⟨st, z Gx ρx H τ (s1.trans sx) (p1.trans px) rhx rfx⟩
      · cases ec
end
end Mi
end
/-! ## MiS14 -/
section
set_option maxHeartbeats 1000000
/-! MiS14: several names at once, op=, a name for a comprehension. -/
namespace Mi
open PySem PySem.Spec PyProof.Rows L2
section
variable {X : Cx} {K : PySem.W.Frag} {P G H : Hp} {ρ : List Addr} {h : Hm} {σ : Fr} {τ : L2.St} {l r q tg : Expr} {da db dc de : Fr → Hm → Option (Val × Hm)} {pos p0 : Pos} {D : Ends}
def setV : List Nat → List V → L2.St → L2.St
  | i :: is, x :: xs, τ => setV is xs (τ.set i (some x))
  | _, _, τ => τ
def tNs (is : List Nat) : TGs := fun xs τ H Q => xs.length = is.length ∧ Q (setV is xs τ) H
theorem setAll_rel : ∀ {is : List Nat} {vs : List Val} {xs : List V} {σ σ' : Fr} {τ : L2.St}, setAll is vs σ = some σ' → RelWs K G ρ vs xs → RelF K G ρ σ τ → RelF K G ρ σ' (setV is xs τ) ∧ xs.length = is.length
  | [], [], _, σ, σ', τ, e, .nil, rf => by unfold setAll at e; cases e; exact ⟨rf, rfl⟩
  | [], _ :: _, _, _, _, _, e, _, _ => by unfold setAll at e; cases e
  | _ :: _, [], _, _, _, _, e, _, _ => by unfold setAll at e; cases e
  | i :: is, v :: vs, x :: xs, σ, σ', τ, e, .cons r rs, rf => by
    unfold setAll at e
    obtain ⟨h1, h2⟩ := setAll_rel e rs (RelF.set rf r i)
    exact ⟨h1, by rw [List.length_cons, List.length_cons, h2]⟩
/-- names of the frame -/
structure NmOk (X : Cx) (i : Nat) (y : Str) : Prop where
  at' : X.N[i]? = some y
  loc : Loc X.env.scope y
  fn : X.fn y = true ∨ X.env.scope.names.lookup y = some .local
theorem gNames (hN : X.N.Nodup) : ∀ {is : List Nat} {es : List Expr}, Paired (fun i e => ∃ y p, e = Expr.Name y p ∧ NmOk X i y) is es → PGs X es (tNs is) ∧ es.all plainB = true
  | [], _, .nil => ⟨PGs.imp pgs_nil fun xs τ H Q ⟨hl, q⟩ => by
      have : xs = [] := List.length_eq_zero_iff.mp hl
      subst this
      exact ⟨rfl, q⟩, rfl⟩
  | i :: is, _, .cons r rs => by
    obtain ⟨y, p, rfl, ok⟩ := r
    obtain ⟨h1, h2⟩ := gNames hN rs
    refine ⟨PGs.imp (pgs_cons (pg_name hN ok.at' ok.loc ok.fn) h1 (by rw [each_cons rfl]; rfl)) fun xs τ H Q ⟨hl, q⟩ => ?_, by rw [List.all_cons, h2]; rfl⟩
    cases xs with
    | nil => cases hl
    | cons x xs => exact ⟨x, xs, rfl, by simpa using hl, q⟩
theorem RelH.extra (r : RelH K P G ρ h H) {p : Addr} {o : HO} (n : H p = none) : RelH K P G ρ h (upd H p o) := by
  refine ⟨fun b u e => by rw [upd_ne (ne_of_none (r.kp b u e) n)]; exact r.kp b u e, r.apart, fun b u e => by rw [upd_ne (ne_of_none (r.sub b u e) n)]; exact r.sub b u e, r.len, r.nd, r.off, fun i ob e => ?_⟩
  obtain ⟨p', o', e1, e2, q⟩ := r.obj i ob e
  exact ⟨p', o', e1, by rw [upd_ne (ne_of_none e2 n)]; exact e2, q⟩
abbrev dPars (is : List Nat) (de : Fr → Hm → Option (List Val × Hm)) : Fr → Hm → Res := fun σ h => (de σ h).bind fun p => (setAll is p.1 σ).map fun σ' => ((.next, σ'), p.2)
theorem zPars {is : List Nat} {ts es : List Expr} {k1 k2 : Nat} {p1 p2 : Pos} {de : Fr → Hm → Option (List Val × Hm)} (hc : X.calm = true) (hN : X.N.Nodup) (hz : is.length ≤ sizeLine) (hn : Paired (fun i e => ∃ y p, e = Expr.Name y p ∧ NmOk X i y) is ts) (ha : PA X es (tDA X.K de))
    (hw : swappedStores [.Tuple ts k1 p1] (.Tuple es k2 p2) X.env = pure none) : PS X (.Assign [.Tuple ts k1 p1] (.Tuple es k2 p2) pos) (tDS X.K (dPars is de)) := by
  obtain ⟨g1, g2⟩ := gNames hN hn
  obtain ⟨l1, l2⟩ := each_len (env := X.env) g2
  refine psD (ps_asg (pe_tup ha) (pg_tup hc g1 l1 l2) rfl hw rfl) fun P G ρ σ h τ H D a r => RunS.stepA a r fun vs h1 G1 ρ1 xs H1 a1 s p rx _ r1 => ?_
  obtain ⟨σ', e, r2⟩ := r1.of_map
  obtain ⟨rf, hl⟩ := setAll_rel e rx a1.fr
  refine ⟨by omega, fun p n => ⟨p, xs, rfl, .inl (.inl upd_same), by rw [hl]; exact Paired.length hn, hl, ?_⟩⟩
  exact RunS.now ⟨a1.hp.extra n, a1.fr⟩ r2 rf
theorem zPar2 {i j : Nat} {x y : Str} {e1 e2 : Expr} {k1 k2 : Nat} {p1 p2 px py : Pos} {de : Fr → Hm → Option (List Val × Hm)} (hc : X.calm = true) (hN : X.N.Nodup) (hi : X.N[i]? = some x) (hj : X.N[j]? = some y) (hxy : x ≠ y) (hx : X.env.scope.names.lookup x = some .local) (hy : X.env.scope.names.lookup y = some .local)
    (ha : PA X [e1, e2] (tDA X.K de)) (hw : swappedStores [.Tuple [.Name x px, .Name y py] k1 p1] (.Tuple [e1, e2] k2 p2) X.env = pure (some [x, y])) :
    PS X (.Assign [.Tuple [.Name x px, .Name y py] k1 p1] (.Tuple [e1, e2] k2 p2) pos) (tDS X.K (dPars [i, j] de)) := by
  have hij : i ≠ j := fun e => by subst e; rw [hi] at hj; cases hj; exact hxy rfl
  refine psD (ps_par hc hN hi hj hij hx hy ha hw rfl) fun P G ρ σ h τ H D a r => RunS.stepA a r fun vs h1 G1 ρ1 xs H1 a1 s p rx _ r1 => ?_
  obtain ⟨σ', e, r2⟩ := r1.of_map
  obtain ⟨rf, hl⟩ := setAll_rel e rx a1.fr
  match xs, hl with
  | [u, v], _ => exact ⟨u, v, rfl, RunS.now a1 r2 rf⟩
theorem zPar3 {i j l : Nat} {x y z : Str} {e1 e2 e3 : Expr} {k1 k2 : Nat} {p1 p2 px py pz : Pos} {de : Fr → Hm → Option (List Val × Hm)} (hc : X.calm = true) (hN : X.N.Nodup) (hi : X.N[i]? = some x) (hj : X.N[j]? = some y) (hl : X.N[l]? = some z) (hxy : x ≠ y) (hxz : x ≠ z) (hyz : y ≠ z) (hx : X.env.scope.names.lookup x = some .local) (hy : X.env.scope.names.lookup y = some .local) (hz : X.env.scope.names.lookup z = some .local)
    (ha : PA X [e1, e2, e3] (tDA X.K de)) (hw : swappedStores [.Tuple [.Name x px, .Name y py, .Name z pz] k1 p1] (.Tuple [e1, e2, e3] k2 p2) X.env = pure (some [x, y, z])) :
    PS X (.Assign [.Tuple [.Name x px, .Name y py, .Name z pz] k1 p1] (.Tuple [e1, e2, e3] k2 p2) pos) (tDS X.K (dPars [i, j, l] de)) := by
  have hij : i ≠ j := fun e => by subst e; rw [hi] at hj; cases hj; exact hxy rfl
  have hil : i ≠ l := fun e => by subst e; rw [hi] at hl; cases hl; exact hxz rfl
  have hjl : j ≠ l := fun e => by subst e; rw [hj] at hl; cases hl; exact hyz rfl
  refine psD (ps_par3 hc hN hi hj hl hij hil hjl hx hy hz ha hw rfl) fun P G ρ σ h τ H D a r => RunS.stepA a r fun vs h1 G1 ρ1 xs H1 a1 s p rx _ r1 => ?_
  obtain ⟨σ', e, r2⟩ := r1.of_map
  obtain ⟨rf, hl⟩ := setAll_rel e rx a1.fr
  match xs, hl with
  | [u, v, w], _ => exact ⟨u, v, w, rfl, RunS.now a1 r2 rf⟩
/-! ### op= -/
def ipO : Op2 → TIp
  | .add => ipI fun i j => i + j
  | .sub => ipI fun i j => i - j
  | _ => fun _ _ _ _ => False
theorem ipOk (o : Op2) : PIp X (opO o) (ipO o) := by
  cases o with
  | add => exact ip_add
  | sub => exact ip_sub
  | _ => exact fun _ _ _ _ _ _ _ _ _ _ _ _ z => z.elim
theorem aug_ok {o : Op2} {v w u : Val} {x y : V} {Q : VK} (rx : RelW K G ρ v x) (ry : RelW K G ρ w y) (e : augV o v w = some u) (q : ∀ z, RelW K G ρ u z → Q z H) : ipO o x y H Q := by
  unfold augV at e
  split at e
  · cases e; exact ⟨_, _, rx, ry, q _ rwInt⟩
  · cases e; exact ⟨_, _, rx, ry, q _ rwInt⟩
  · cases e
theorem zAug {i : Nat} {y : Str} {o : Op2} (hN : X.N.Nodup) (ok : NmOk X i y) (he : PE X l (tD X.K de)) :
    PS X (.AugAssign (.Name y p0) (opO o) l pos) (tDS X.K fun σ h => (σ[i]?.bind id).bind fun x => (de σ h).bind fun p => (augV o x p.1).map fun v => ((.next, σ.set i (some v)), p.2)) :=
  psD (ps_aug hN ok.at' ok.loc he (ipOk o) ok.fn) fun P G ρ σ h τ H D a r => by
    obtain ⟨v, ev, r⟩ := r.of_bind
    obtain ⟨ov, eo, ei⟩ := Option.bind_eq_some_iff.mp ev
    have ei' : ov = some v := ei
    subst ei'
    obtain ⟨ox, ex, y, rfl, ry⟩ := Paired.getL a.fr eo
    refine ⟨y, ex, RunS.stepE a r fun w h1 G1 ρ1 x H1 a1 s p rx _ r1 => ?_⟩
    obtain ⟨u, eu, r2⟩ := r1.of_map
    exact aug_ok (ry.mono s p) rx eu fun z rz => RunS.now a1 r2 (RelF.set a1.fr rz i)
theorem aug_store {i : Expr} (hi : ∀ a b c p, i ≠ .Slice a b c p) (ov iv new : Value) : augStore i ov iv new = (do holding [new, ov, iv] (setItem ov iv new); release [new, ov, iv] []; pure .next) := by
  cases i <;> first | rfl | exact absurd rfl (hi _ _ _ _)
/-- a list's item by values -/
theorem gtL : PGet X (rIxL X.K) := by
  rintro pins s τ H x y v u Q I rx ry ⟨p, xs, i, z, rfl, rfl, hq, he, q⟩
  cases rx
  obtain ⟨t, rfl⟩ := ry
  obtain ⟨its, rl, pl, _⟩ := I.list hq
  obtain ⟨j, j1, j2, j3, j4, j5⟩ := atI_get he
  obtain ⟨w, ew, rw'⟩ := rl.get j2
  have hl := rl.length
  have hn := line63
  have done : EP X pins τ Q w s := ⟨z, H, I, rw', q⟩
  by_cases h0 : 0 ≤ i
  · have hj : i.toNat = j := by rw [seqIndex_of h0 j5] at j1; exact Option.some.inj j1
    exact wpAny_getItem_list pl.isList h0 (by omega) (by rw [hj]; simpa using ew) done
  · have hj : (i + (its.toArray.size : Int)).toNat = j := by
      rw [seqIndex_neg (by omega) j4] at j1
      rw [List.size_toArray, ← hl]
      exact Option.some.inj j1
    exact wpAny_getItem_list_neg pl.isList (by omega) (by rw [List.size_toArray] <;> omega) (by omega) (by rw [hj]; simpa using ew) done
theorem zSaug {o : Op2} (ho : PE X r (tD X.K da)) (hi : PE X q (tD X.K db)) (hq : ∀ a b c p, q ≠ .Slice a b c p) (he : PE X l (tD X.K de)) :
    PS X (.AugAssign (.Subscript r q p0) (opO o) l pos) (tDS X.K fun σ h => (da σ h).bind fun p => (db σ p.2).bind fun q => (subV q.2 p.1 q.1).bind fun x => (de σ q.2).bind fun r => (augV o x r.1).bind fun v => (setSub r.2 p.1 q.1 v).map fun h' => ((.next, σ), h')) :=
  psD (ps_augS ho hi gtL he (ipOk o) set_list (aug_store hq)) fun P G ρ σ h τ H D a r => RunS.stepE a r fun v h1 G1 ρ1 x H1 a1 s p rx _ r1 => RunS.stepE a1 r1 fun w h2 G2 ρ2 y H2 a2 s2 p2 ry _ r2 => by
    obtain ⟨u, e, r3⟩ := r2.of_bind
    obtain ⟨i, vs, ew, e1, e2⟩ := subV_some e
    have ew' : w = vi i := ew
    subst ew'
    have rx2 := rx.mono s2 p2
    obtain ⟨b, xs, rfl, z, q, hs⟩ := items_rel a2.hp rx2 e1
    obtain ⟨t, e3, rt⟩ := atI_rel q e2
    have fin : tD X.K de τ H2 fun y1 H4 => ipO o t y1 H4 fun z H5 => rSetL (.ref b) y z H5 fun H6 => D.nx τ H6 := RunS.stepE a2 r3 fun w3 h3 G3 ρ3 y3 H3 a3 s3 p3 ry3 _ r4 => by
      obtain ⟨v4, e4, r5⟩ := r4.of_bind
      refine aug_ok (rt.mono s3 p3) ry3 e4 fun z4 rz => ?_
      obtain ⟨h5, e5, r6⟩ := r5.of_map
      exact set_ok a3 (rx2.mono s3 p3) (ry.mono s3 p3) rz e5 fun H' rh => RunS.now ⟨rh, a3.fr⟩ r6 a3.fr
    rcases hs with ⟨_, hs⟩ | ⟨hf, hs⟩
    · exact ⟨b, xs, _, t, rfl, dInt ry, hs, e3, fin⟩
    · exfalso
      obtain ⟨_, _, _, e', _⟩ := r3
      obtain ⟨_, _, e'⟩ := Option.bind_eq_some_iff.mp e'
      obtain ⟨_, _, e'⟩ := Option.bind_eq_some_iff.mp e'
      obtain ⟨_, e', _⟩ := Option.map_eq_some_iff.mp e'
      cases v with
      | ref n => rw [itemsRef e1] at hf; cases hf
      | dat d => cases d <;> (unfold setSub at e'; cases e')
      | scr ns => unfold setSub at e'; cases e'
/-! ### name = [..] on one line -/
theorem lc_sw {elt : Expr} {gs : List Comprehension} {scope : Scope} {py : Pos} {y : Str} {n : Nat} {env : PySem.Env} (hk : env.scope.kind = .function) :
    swapsWith (.ListComp elt gs scope pos) (some (.Name y py)) n env = pure false ∨ (swapsWith (.ListComp elt gs scope pos) (some (.Name y py)) n env = pure true ∧ env.scope.names.lookup y = some .local) := by
  have e : swapsWith (.ListComp elt gs scope pos) (some (.Name y py)) n env = pure (env.blockKind == .function && env.kindOf y == some .local && py.line == pos.line && !(scope.names.any fun (n, k) => n == y && (k == .local || k == .cell))) := rfl
  rw [e]
  cases hb : (env.blockKind == .function && env.kindOf y == some .local && py.line == pos.line && !(scope.names.any fun (n, k) => n == y && (k == .local || k == .cell))) with
  | false => exact .inl rfl
  | true =>
    refine .inr ⟨rfl, ?_⟩
    rw [Bool.and_eq_true, Bool.and_eq_true, Bool.and_eq_true] at hb
    exact eq_of_beq (show (env.scope.names.lookup y == some .local) = true from hb.1.1.2)
/-- the reading of the value gives the reading of the comprehension -/
theorem zAsgC {i : Nat} {y : Str} {elt iter : Expr} {ifs : List Expr} {scope : Scope} {own : List (Str × Nat)} {t : Tg} {py spos : Pos} {dI : Fr → Hm → Option ((List Itm × Gd) × Hm)} {dC : Fr → Hm → Option (Bool × Hm)} {dE : Fr → Hm → Option (Val × Hm)}
    (hc : X.calm = true) (hN : X.N.Nodup) (hin : tgIn (own.map (·.2)) t = true) (hy : X.N[i]? = some y) (hyl : X.env.scope.names.lookup y = some .local)
    (hsw : swapsWith (.ListComp elt [⟨tg, iter, ifs, 0⟩] scope pos) (some (.Name y py)) spos.line X.env = pure true) (hi : PI X tg iter (tDI X.K dI)) (ok : BlkOk X.N X.env.scope scope own)
    (hg : ∀ (s : Shared) (H : Hp) (C : Addr) (cl : List (Str × Addr)) (fp : List Addr), PG (X.blk s H scope (compEnvC scope cl C X.env) fp) tg (tDG X.K t)) (ht : ∀ (s : Shared) (H : Hp) (C : Addr) (cl : List (Str × Addr)) (fp : List Addr), PTs (X.blk s H scope (compEnvC scope cl C X.env) fp) ifs (tDC X.K dC))
    (he : ∀ (s : Shared) (H : Hp) (C : Addr) (cl : List (Str × Addr)) (fp : List Addr), PE (X.blk s H scope (compEnvC scope cl C X.env) fp) elt (tD X.K dE)) (hs : ∀ x, foldedSetIterable iter X.env x = pure x)
    (hrun : ∀ (P G : Hp) (ρ : List Addr) (σ : Fr) (h : Hm) (τ : L2.St) (H : Hp) (Q : VK), At X.K P G ρ σ h τ H → RunV X.K P (de σ h) G ρ Q → RunN X.K P ((dI σ h).bind fun p => (compD p.1.2 (compF t (own.map (·.2)) dC dE σ) p.1.1 [] p.2).map fun q => (.lst q.1, q.2)) G ρ Q) :
    PS X (.Assign [.Name y py] (.ListComp elt [⟨tg, iter, ifs, 0⟩] scope pos) spos) (tDS X.K fun σ h => (de σ h).bind fun p => (tgSet (.name i) p.1 σ).map fun σ' => ((.next, σ'), p.2)) :=
  psD (ps_setLc hc hN hy hyl hsw hi ok hg ht he hs) fun P G ρ σ h τ H D a r => by
    have w : tD X.K de τ H fun x H1 => gName i x τ H1 D.nx := RunS.stepE a r fun v h1 G1 ρ1 x H1 a1 s p rx _ r1 => by
      obtain ⟨σ', e, r2⟩ := r1.of_map
      cases e
      exact RunS.now a1 r2 (RelF.set a1.fr rx i)
    obtain ⟨P', G', ρ', σ', h', rh, rf, rv⟩ := w
    exact lcRun hin ⟨rh, rf⟩ (hrun P' G' ρ' σ' h' τ H _ ⟨rh, rf⟩ rv)
end
end Mi
end
/-! ## MiSD -/
section
set_option maxHeartbeats 1000000
/-! MiSD: dicts as data, comprehensions that make them, two walks in one comprehension. -/
namespace Mi
open PySem PySem.Spec PyProof.Rows L2
section
variable {X : Cx} {K : PySem.W.Frag} {P G H : Hp} {ρ : List Addr} {h : Hm} {σ : Fr} {τ : L2.St} {l r q tg : Expr} {da db dc : Fr → Hm → Option (Val × Hm)} {pos p0 : Pos}
theorem kyD_inj {j k : Key} (e : kyD j = kyD k) : j = k := by
  cases j <;> cases k <;> first | (cases e; rfl) | cases e
theorem keyD_rel {w : Val} {k : PyData} {y : V} (e : keyD w = some k) (r : RelW K G ρ w y) : ∃ j : Key, k = kyD j ∧ y = kV j := by
  unfold keyD at e
  split at e
  · cases e; exact ⟨.inl _, rfl, r⟩
  · cases e; exact ⟨.inr _, rfl, r⟩
  · cases e
abbrev RK (K : PySem.W.Frag) (G : Hp) (ρ : List Addr) : PyData × Val → Key × V → Prop := fun p q => p.1 = kyD q.1 ∧ RelW K G ρ p.2 q.2
theorem look_rel {j : Key} : ∀ {ds : List (PyData × Val)} {kvs : List (Key × V)}, Paired (RK K G ρ) ds kvs → (dLook ds (kyD j) = none ∧ valV kvs j = none) ∨ ∃ d v, dLook ds (kyD j) = some d ∧ valV kvs j = some v ∧ RelW K G ρ d v
  | _, _, .nil => .inl ⟨rfl, rfl⟩
  | (k, d) :: ds, (i, v) :: kvs, .cons r rr => by
    obtain ⟨ek, rd⟩ := r
    have ek : k = kyD i := ek
    subst ek
    by_cases e : i = j
    · subst e
      refine .inr ⟨d, v, ?_, valV_pos rfl, rd⟩
      unfold dLook
      rw [List.find?_cons_of_pos (by simp)]; rfl
    · have ne : ¬ kyD i = kyD j := fun h => e (kyD_inj h)
      have e1 : dLook ((kyD i, d) :: ds) (kyD j) = dLook ds (kyD j) := by
        unfold dLook
        rw [List.find?_cons_of_neg (by simpa using ne)]
      rw [e1, valV_neg e]
      exact look_rel rr
theorem dDct {ds : List (PyData × PyData)} {x : V} (q : RelW K G ρ (.dat (.dict ds)) x) : ∃ a o kvs, x = .ref a ∧ G a = some (.frz o (.dK kvs)) ∧ kvs.length ≤ sizeLine ∧ RelKs G ds kvs := by
  have q' : RelD G (.dict ds) x := q
  unfold RelD at q'
  exact q'
theorem ks_paired : ∀ {ds : List (PyData × PyData)} {kvs : List (Key × V)}, RelKs G ds kvs → Paired (RK K G ρ) (ds.map fun kv => (kv.1, .dat kv.2)) kvs
  | [], _, r => by unfold RelKs at r; subst r; exact .nil
  | (k, d) :: ds, _, r => by
    unfold RelKs at r
    obtain ⟨j, v, kr, rfl, ek, rd, rr⟩ := r
    exact .cons ⟨ek, rd⟩ (ks_paired rr)
theorem dItems_rel {v : Val} {x : V} {kvs : List (PyData × Val)} (rh : RelH K P G ρ h H) (rx : RelW K G ρ v x) (e : dItems h v = some kvs) : ∃ a ks, x = .ref a ∧ Rd H a (.dK ks) ∧ ks.length ≤ sizeLine ∧ Paired (RK K G ρ) kvs ks := by
  unfold dItems at e
  split at e
  · cases e
    obtain ⟨b, o, ks, rfl, gb, z, rk⟩ := dDct rx
    exact ⟨b, ks, rfl, .inr ⟨o, rh.sub _ _ gb⟩, z, ks_paired rk⟩
  · split at e
    · rename_i a kv ek
      cases e
      obtain ⟨p, ep, rfl⟩ := rx
      obtain ⟨p', o, ep', hp, ks, rfl, z, q⟩ := rh.obj _ _ ek
      rw [ep] at ep'; cases ep'
      exact ⟨p, ks, rfl, .inl hp, z, q⟩
    · cases e
  · cases e
theorem sDSub (hu : X.A.units + 65 < cLine) (hs : NoSl r) (ha : PE X l (tD X.K da)) (hb : PE X r (tD X.K db)) : PE X (.Subscript l r pos) (tD X.K fun σ h => (da σ h).bind fun p => (db σ p.2).bind fun q => (dSubV q.2 p.1 q.1).map fun v => (v, q.2)) :=
  peD (pe_dget (by omega) ha hb hs) fun P G ρ σ h τ H Q a r => tD.step a r fun v h1 G1 ρ1 x H1 a1 s p rx _ r1 => tD.step a1 r1 fun w h2 G2 ρ2 y H2 a2 s2 p2 ry _ r2 => by
    obtain ⟨u, e, r2⟩ := r2.of_map
    obtain ⟨ds, e0, e⟩ := Option.bind_eq_some_iff.mp e
    obtain ⟨k, e1, e3⟩ := Option.bind_eq_some_iff.mp e
    obtain ⟨b, kvs, rfl, gb, _, rk⟩ := dItems_rel a2.hp (rx.mono s2 p2) e0
    obtain ⟨j, rfl, rfl⟩ := keyD_rel e1 ry
    rcases look_rel (j := j) rk with ⟨n1, _⟩ | ⟨d', v', n1, n2, rd⟩
    · rw [n1] at e3; cases e3
    · rw [n1] at e3; cases e3
      exact ⟨b, v', rfl, .inl ⟨kvs, j, gb, rfl, n2.symm⟩, r2.now a2 rd⟩
theorem sDGet (hu : X.A.units + 65 < cLine) {ap cp : Pos} (hb : baseB l = true) (hl : (ap.endLine == cp.line) = true) (hp : plainB r = true) (ha : PE X l (tD X.K da)) (hb' : PE X r (tD X.K db)) :
    PE X (.Call (.Attribute l "get" ap) [r] [] cp) (tD X.K fun σ h => (da σ h).bind fun p => if isDct p.2 p.1 then (db σ p.2).bind fun q => (dGetV q.2 p.1 q.1 vn).map fun v => (v, q.2) else none) :=
  peD (pe_dget1 (by omega) ha hb' ⟨attr_base hb, by rw [star_cons hp]; rfl, hl, by rw [star_cons hp]; rfl⟩) fun P G ρ σ h τ H Q a r => tD.step a r fun v h1 G1 ρ1 x H1 a1 s p rx _ r1 => by
    split at r1
    · rename_i hd
      obtain ⟨ds, hd⟩ := Option.isSome_iff_exists.mp (show (dItems h1 v).isSome = true from hd)
      obtain ⟨b, kvs, rfl, gb, _, rk⟩ := dItems_rel a1.hp rx hd
      refine ⟨b, rfl, .inl ⟨kvs, gb⟩, tD.step a1 r1 fun w h2 G2 ρ2 y H2 a2 s2 p2 ry _ r2 => ?_⟩
      obtain ⟨u, e, r2⟩ := r2.of_map
      obtain ⟨ds2, e0, e⟩ := Option.bind_eq_some_iff.mp e
      obtain ⟨k, e1, rfl⟩ := Option.map_eq_some_iff.mp e
      obtain ⟨b2, kvs2, eb, gb2, _, rk2⟩ := dItems_rel a2.hp (rx.mono s2 p2) e0
      cases eb
      obtain ⟨j, rfl, rfl⟩ := keyD_rel e1 ry
      refine ⟨valV kvs2 j, .inl ⟨kvs2, j, gb2, rfl, rfl⟩, ?_⟩
      rcases look_rel (j := j) rk2 with ⟨n1, n2⟩ | ⟨d', v', n1, n2, rd⟩
      · rw [n1] at r2; rw [n2]; exact r2.now a2 rwNon
      · rw [n1] at r2; rw [n2]; exact r2.now a2 rd
    · exact r1.not
theorem sDGet2 (hu : X.A.units + 65 < cLine) {ap cp : Pos} (hb : baseB l = true) (hl : (ap.endLine == cp.line) = true) (hp : plainB r = true) (hp2 : plainB q = true) (ha : PE X l (tD X.K da)) (hb' : PE X r (tD X.K db)) (hc : PE X q (tD X.K dc)) :
    PE X (.Call (.Attribute l "get" ap) [r, q] [] cp) (tD X.K fun σ h => (da σ h).bind fun p => if isDct p.2 p.1 then (db σ p.2).bind fun q => (dc σ q.2).bind fun r => (dGetV r.2 p.1 q.1 r.1).map fun v => (v, r.2) else none) :=
  peD (pe_dget2 (by omega) ha hb' hc ⟨attr_base hb, by rw [star_cons hp, star_cons hp2]; rfl, hl, by rw [star_cons hp, star_cons hp2]; rfl⟩) fun P G ρ σ h τ H Q a r => tD.step a r fun v h1 G1 ρ1 x H1 a1 s p rx _ r1 => by
    split at r1
    · rename_i hd
      obtain ⟨ds, hd⟩ := Option.isSome_iff_exists.mp (show (dItems h1 v).isSome = true from hd)
      obtain ⟨b, kvs, rfl, gb, _, rk⟩ := dItems_rel a1.hp rx hd
      refine ⟨b, rfl, .inl ⟨kvs, gb⟩, tD.step a1 r1 fun w h2 G2 ρ2 y H2 a2 s2 p2 ry _ r2 => tD.step a2 r2 fun z h3 G3 ρ3 t H3 a3 s3 p3 rt _ r3 => ?_⟩
      obtain ⟨u, e, r3⟩ := r3.of_map
      obtain ⟨ds2, e0, e⟩ := Option.bind_eq_some_iff.mp e
      obtain ⟨k, e1, rfl⟩ := Option.map_eq_some_iff.mp e
      obtain ⟨b2, kvs2, eb, gb2, _, rk2⟩ := dItems_rel a3.hp ((rx.mono s2 p2).mono s3 p3) e0
      cases eb
      obtain ⟨j, rfl, rfl⟩ := keyD_rel e1 ry
      refine ⟨valV kvs2 j, .inl ⟨kvs2, j, gb2, rfl, rfl⟩, ?_⟩
      rcases look_rel (j := j) rk2 with ⟨n1, n2⟩ | ⟨d', v', n1, n2, rd⟩
      · rw [n1] at r3; rw [n2]; exact r3.now a3 rt
      · rw [n1] at r3; rw [n2]; exact r3.now a3 rd
    · exact r1.not
theorem din_ok {v w : Val} {x y : V} (a : At K P G ρ σ h τ H) (rv : RelW K G ρ v x) (rw' : RelW K G ρ w y) {b : Bool} (e : dInV h v w = some b) : ∃ a o, y = .ref a ∧ DGet H a x o ∧ o.isSome = b := by
  obtain ⟨ds2, e0, e⟩ := Option.bind_eq_some_iff.mp e
  obtain ⟨k, e1, rfl⟩ := Option.map_eq_some_iff.mp e
  obtain ⟨c, kv, rfl, gb, _, rk⟩ := dItems_rel a.hp rw' e0
  obtain ⟨j, rfl, rfl⟩ := keyD_rel e1 rv
  refine ⟨c, valV kv j, rfl, .inl ⟨kv, j, gb, rfl, rfl⟩, ?_⟩
  rcases look_rel (j := j) rk with ⟨n1, n2⟩ | ⟨d', v', n1, n2, rd⟩ <;> rw [n1, n2] <;> rfl
theorem sDIn (hu : X.A.units + 65 < cLine) (hm : behindInMarks .In r = false) (ha : PE X l (tD X.K da)) (hb : PE X r (tD X.K db)) :
    PE X (.Compare l [.In] [r] pos) (tD X.K fun σ h => (da σ h).bind fun p => (db σ p.2).bind fun q => (dInV q.2 p.1 q.1).map fun b => (vb b, q.2)) ∧ PT X (.Compare l [.In] [r] pos) (tDT X.K fun σ h => (da σ h).bind fun p => (db σ p.2).bind fun q => (dInV q.2 p.1 q.1).map fun b => (vb b, q.2)) :=
  ⟨peD (pe_cmp (pc_din (by omega) ha hb) hm) fun P G ρ σ h τ H Q a r => tD.step a r fun v h1 G1 ρ1 x H1 a1 s p rx _ r1 => tD.step a1 r1 fun w h2 G2 ρ2 y H2 a2 s2 p2 ry _ r2 => by
    obtain ⟨b, e, r2⟩ := r2.of_map
    obtain ⟨c, o, rfl, g, rfl⟩ := din_ok a2 (rx.mono s2 p2) ry e
    exact ⟨c, o, rfl, g, r2.now a2 rwBl⟩,
  ptD (pt_cmp (pc_din (by omega) ha hb) hm) fun P G ρ σ h τ H Q a r => tD.step a r.val fun v h1 G1 ρ1 x H1 a1 s p rx _ r1 => tD.step a1 r1 fun w h2 G2 ρ2 y H2 a2 s2 p2 ry _ r2 => by
    obtain ⟨b, e, r2⟩ := r2.of_map
    obtain ⟨c, o, rfl, g, rfl⟩ := din_ok a2 (rx.mono s2 p2) ry e
    exact ⟨c, o, rfl, g, r2.now a2 rwBl⟩⟩
theorem sDNin (hu : X.A.units + 65 < cLine) (hm : behindInMarks .NotIn r = false) (ha : PE X l (tD X.K da)) (hb : PE X r (tD X.K db)) :
    PE X (.Compare l [.NotIn] [r] pos) (tD X.K fun σ h => (da σ h).bind fun p => (db σ p.2).bind fun q => (dInV q.2 p.1 q.1).map fun b => (vb (!b), q.2)) ∧ PT X (.Compare l [.NotIn] [r] pos) (tDT X.K fun σ h => (da σ h).bind fun p => (db σ p.2).bind fun q => (dInV q.2 p.1 q.1).map fun b => (vb (!b), q.2)) :=
  ⟨peD (pe_cmp (pc_dnotin (by omega) ha hb) hm) fun P G ρ σ h τ H Q a r => tD.step a r fun v h1 G1 ρ1 x H1 a1 s p rx _ r1 => tD.step a1 r1 fun w h2 G2 ρ2 y H2 a2 s2 p2 ry _ r2 => by
    obtain ⟨b, e, r2⟩ := r2.of_map
    obtain ⟨c, o, rfl, g, rfl⟩ := din_ok a2 (rx.mono s2 p2) ry e
    exact ⟨c, o, rfl, g, r2.now a2 rwBl⟩,
  ptD (pt_cmp (pc_dnotin (by omega) ha hb) hm) fun P G ρ σ h τ H Q a r => tD.step a r.val fun v h1 G1 ρ1 x H1 a1 s p rx _ r1 => tD.step a1 r1 fun w h2 G2 ρ2 y H2 a2 s2 p2 ry _ r2 => by
    obtain ⟨b, e, r2⟩ := r2.of_map
    obtain ⟨c, o, rfl, g, rfl⟩ := din_ok a2 (rx.mono s2 p2) ry e
    exact ⟨c, o, rfl, g, r2.now a2 rwBl⟩⟩
theorem sIsT {b neg : Bool} {k : Nat} {p1 : Pos} (ha : PE X l (tD X.K da)) :
    PE X (.Compare l [if neg then .IsNot else .Is] [.Constant (.bool b) k p1] pos) (tD X.K fun σ h => (da σ h).bind fun p => match p.1 with | .dat (.bool x) => some (vb (if neg then !decide (x = b) else decide (x = b)), p.2) | _ => none) ∧
    PT X (.Compare l [if neg then .IsNot else .Is] [.Constant (.bool b) k p1] pos) (tDT X.K fun σ h => (da σ h).bind fun p => match p.1 with | .dat (.bool x) => some (vb (if neg then !decide (x = b) else decide (x = b)), p.2) | _ => none) := by
  have fin : ∀ {P G : Hp} {ρ : List Addr} {σ : Fr} {h : Hm} {τ : L2.St} {H : Hp} {Q : VK}, At X.K P G ρ σ h τ H → RunV X.K P ((da σ h).bind fun p => match p.1 with | .dat (.bool x) => some (vb (if neg then !decide (x = b) else decide (x = b)), p.2) | _ => none) G ρ Q →
      tD X.K da τ H fun x H1 => ∃ c : Bool, x = .bl c ∧ Q (.bl (if neg then !decide (c = b) else decide (c = b))) H1 := fun a r => tD.step a r fun v h1 G1 ρ1 x H1 a1 s p rx _ r1 => by
    obtain ⟨u, h2, e, z⟩ := r1
    split at e
    · rename_i c hc
      have hc' : v = vb c := hc
      subst hc'
      cases e
      exact ⟨c, dBl rx, z G1 ρ1 H1 _ Sub.rfl (List.prefix_refl _) a1.hp rwBl⟩
    · cases e
  cases neg with
  | false =>
    refine ⟨peD (pe_cmpR op_isBl ha pe_bl rfl) fun P G ρ σ h τ H Q a r => ?_, ptD (pt_cmpR op_isBl ha pe_bl rfl) fun P G ρ σ h τ H Q a r => ?_⟩
    · obtain ⟨P', G', ρ', σ', h', r1, r2, r3⟩ := fin a r
      exact ⟨P', G', ρ', σ', h', r1, r2, r3.mono fun x H' ⟨c, e, q⟩ => ⟨c, b, e, rfl, q⟩⟩
    · obtain ⟨P', G', ρ', σ', h', r1, r2, r3⟩ := fin a r.val
      exact ⟨P', G', ρ', σ', h', r1, r2, r3.mono fun x H' ⟨c, e, q⟩ => ⟨c, b, e, rfl, q⟩⟩
  | true =>
    refine ⟨peD (pe_cmpR op_notBl ha pe_bl rfl) fun P G ρ σ h τ H Q a r => ?_, ptD (pt_cmpR op_notBl ha pe_bl rfl) fun P G ρ σ h τ H Q a r => ?_⟩
    · obtain ⟨P', G', ρ', σ', h', r1, r2, r3⟩ := fin a r
      exact ⟨P', G', ρ', σ', h', r1, r2, r3.mono fun x H' ⟨c, e, q⟩ => ⟨c, b, e, rfl, q⟩⟩
    · obtain ⟨P', G', ρ', σ', h', r1, r2, r3⟩ := fin a r.val
      exact ⟨P', G', ρ', σ', h', r1, r2, r3.mono fun x H' ⟨c, e, q⟩ => ⟨c, b, e, rfl, q⟩⟩
/-! ### walks -/
theorem ks_len : ∀ {ds : List (PyData × PyData)} {kvs : List (Key × V)}, RelKs G ds kvs → ds.length = kvs.length
  | [], _, r => by unfold RelKs at r; subst r; rfl
  | (k, d) :: ds, _, r => by
    unfold RelKs at r
    obtain ⟨j, v, kr, rfl, _, _, rr⟩ := r
    rw [List.length_cons, List.length_cons, ks_len rr]
theorem ks_get : ∀ {ds : List (PyData × PyData)} {kvs : List (Key × V)} {i : Nat} {k d : PyData} {j : Key} {v : V}, RelKs G ds kvs → ds[i]? = some (k, d) → kvs[i]? = some (j, v) → k = kyD j ∧ RelD G d v
  | [], _, i, _, _, _, _, r, e, _ => by simp at e
  | (k, d) :: ds, _, 0, _, _, _, _, r, e, e2 => by
    unfold RelKs at r
    obtain ⟨j, v, kr, rfl, ek, rd, rr⟩ := r
    cases e
    cases e2
    exact ⟨ek, rd⟩
  | (k, d) :: ds, _, i + 1, _, _, _, _, r, e, e2 => by
    unfold RelKs at r
    obtain ⟨j, v, kr, rfl, ek, rd, rr⟩ := r
    exact ks_get rr (by simpa using e) (by simpa using e2)
theorem rdKey {j : Key} : RelD G (kyD j) (kV j) := by
  cases j with
  | inl i => exact rdInt
  | inr s => exact rdStr
theorem srvItems {b : Addr} {o : Obj} {kvs : List (Key × V)} {ds : List (PyData × PyData)} (hz : kvs.length ≤ sizeLine) (g : G b = some (.frz o (.dK kvs))) (r : RelKs G ds kvs) : Srv K P G ρ (Iti b o kvs) (ds.map fun kv => .many [kv.1, kv.2]) none :=
  srv_of walk_items (by rw [List.length_map]; exact ks_len r) hz (fun P' G' ρ' h H _ s p rh _ => rh.sub _ _ (s _ _ g)) fun P' G' ρ' h H i it x H' _ s p rh _ e y => by
    obtain ⟨T, y1, y2, rfl, n, rfl, e1, e2⟩ := y
    rw [List.getElem?_map] at e
    obtain ⟨⟨k, d⟩, ed, rfl⟩ := Option.map_eq_some_iff.mp e
    obtain ⟨⟨j, v⟩, ek, rfl⟩ := Option.map_eq_some_iff.mp e1
    have e2' : (kvs[i]?).map Prod.snd = some y2 := e2
    rw [ek] at e2'
    cases e2'
    obtain ⟨rfl, rd⟩ := ks_get r ed ek
    exact pair_ok (G' := G') (H' := H) rh n rdKey (rd.keep s.keeps)
theorem srvKeys {b : Addr} {o : Obj} {kvs : List (Key × V)} {ds : List (PyData × PyData)} (hz : kvs.length ≤ sizeLine) (g : G b = some (.frz o (.dK kvs))) (r : RelKs G ds kvs) : Srv K P G ρ (Itk b o kvs) (ds.map fun kv => .one (.dat kv.1)) none :=
  srv_of walk_keys (by rw [List.length_map]; exact ks_len r) hz (fun P' G' ρ' h H _ s p rh _ => rh.sub _ _ (s _ _ g)) fun P' G' ρ' h H i it x H' _ s p rh _ e y => by
    obtain ⟨rfl, j, v, ek, rfl⟩ := y
    rw [List.getElem?_map] at e
    obtain ⟨⟨k, d⟩, ed, rfl⟩ := Option.map_eq_some_iff.mp e
    obtain ⟨rfl, rd⟩ := ks_get r ed ek
    exact ⟨G', Sub.rfl, rh, rdKey⟩
theorem srvVals {b : Addr} {o : Obj} {kvs : List (Key × V)} {ds : List (PyData × PyData)} (hz : kvs.length ≤ sizeLine) (g : G b = some (.frz o (.dK kvs))) (r : RelKs G ds kvs) : Srv K P G ρ (Itd b o kvs) (ds.map fun kv => .one (.dat kv.2)) none :=
  srv_of walk_values (by rw [List.length_map]; exact ks_len r) hz (fun P' G' ρ' h H _ s p rh _ => rh.sub _ _ (s _ _ g)) fun P' G' ρ' h H i it x H' _ s p rh _ e y => by
    obtain ⟨rfl, j, ek⟩ := y
    rw [List.getElem?_map] at e
    obtain ⟨⟨k, d⟩, ed, rfl⟩ := Option.map_eq_some_iff.mp e
    obtain ⟨rfl, rd⟩ := ks_get r ed ek
    exact ⟨G', Sub.rfl, rh, rd.keep s.keeps⟩
theorem iItems' {elts : List Expr} {kk : Nat} {tpos ap cp : Pos} (hb : baseB l = true) (hl : (ap.endLine == cp.line) = true) (ha : PE X l (tD X.K da)) : PI X (.Tuple elts kk tpos) (.Call (.Attribute l "items" ap) [] [] cp) (tDI X.K fun σ h => (da σ h).bind fun p => match p.1 with
      | .dat (.dict kvs) => some ((kvs.map fun kv => .many [kv.1, kv.2], none), p.2)
      | _ => none) :=
  piD (pi_items ha (attr_base hb) hl) fun P G ρ σ h τ H R is g h' a r => RunI.stepE a r fun v h1 G1 ρ1 x H1 a1 s p rx e r1 => by
    obtain ⟨e2, z⟩ := r1
    split at e2
    · rename_i _ ds hd
      have hd' : v = .dat (.dict ds) := hd
      subst hd'
      cases e2
      obtain ⟨b, o, kvs, rfl, gb, zz, rk⟩ := dDct rx
      exact ⟨b, o, kvs, rfl, a1.hp.sub _ _ gb, z G1 ρ1 H1 _ Sub.rfl (List.prefix_refl _) a1.hp (srvItems zz gb rk)⟩
    · cases e2
theorem iKeys' (ha : PE X l (tD X.K da)) : PI X tg l (tDI X.K fun σ h => (da σ h).bind fun p => match p.1 with
      | .dat (.dict kvs) => some ((kvs.map fun kv => .one (.dat kv.1), none), p.2)
      | _ => none) :=
  piD (pi_keys ha) fun P G ρ σ h τ H R is g h' a r => RunI.stepE a r fun v h1 G1 ρ1 x H1 a1 s p rx e r1 => by
    obtain ⟨e2, z⟩ := r1
    split at e2
    · rename_i _ ds hd
      have hd' : v = .dat (.dict ds) := hd
      subst hd'
      cases e2
      obtain ⟨b, o, kvs, rfl, gb, zz, rk⟩ := dDct rx
      exact ⟨b, o, rfl, .inl ⟨kvs, a1.hp.sub _ _ gb, z G1 ρ1 H1 _ Sub.rfl (List.prefix_refl _) a1.hp (srvKeys zz gb rk)⟩⟩
    · cases e2
theorem iVals' {ap cp : Pos} (hb : baseB l = true) (hl : (ap.endLine == cp.line) = true) (ha : PE X l (tD X.K da)) : PI X tg (.Call (.Attribute l "values" ap) [] [] cp) (tDI X.K fun σ h => (da σ h).bind fun p => match p.1 with
      | .dat (.dict kvs) => some ((kvs.map fun kv => .one (.dat kv.2), none), p.2)
      | _ => none) :=
  piD (pi_values ha (attr_base hb) hl) fun P G ρ σ h τ H R is g h' a r => RunI.stepE a r fun v h1 G1 ρ1 x H1 a1 s p rx e r1 => by
    obtain ⟨e2, z⟩ := r1
    split at e2
    · rename_i _ ds hd
      have hd' : v = .dat (.dict ds) := hd
      subst hd'
      cases e2
      obtain ⟨b, o, kvs, rfl, gb, zz, rk⟩ := dDct rx
      exact ⟨b, o, kvs, rfl, a1.hp.sub _ _ gb, z G1 ρ1 H1 _ Sub.rfl (List.prefix_refl _) a1.hp (srvVals zz gb rk)⟩
    · cases e2
end
end Mi
end
/-! ## MiSE -/
section
set_option maxHeartbeats 1000000
/-! MiSE: comprehensions that make dicts; two walks in one comprehension; keys sorted. -/
namespace Mi
open PySem PySem.Spec PyProof.Rows L2
section
variable {X : Cx} {K : PySem.W.Frag} {P G H : Hp} {ρ : List Addr} {h : Hm} {σ : Fr} {τ : L2.St} {l r q tg : Expr} {da db dc : Fr → Hm → Option (Val × Hm)} {pos p0 : Pos}
theorem keyInts_rel : ∀ {ds : List (PyData × Val)} {kvs : List (Key × V)} {ks : List Int}, keyInts ds = some ks → Paired (RK K G ρ) ds kvs → kvs.map (·.1) = ks.map Sum.inl
  | _, _, ks, e, .nil => by
    unfold keyInts mapO at e
    cases e; rfl
  | (k, d) :: ds, (j, v) :: kvs, ks, e, .cons r rr => by
    obtain ⟨y, t, e1, e2, rfl⟩ := mapO_cons e
    have ih := keyInts_rel e2 rr
    have ek : k = kyD j := r.1
    subst ek
    cases j with
    | inl i =>
      cases e1
      rw [List.map_cons, List.map_cons, ih]
    | inr x => cases e1
theorem nSortedD (hc : X.calm = true) (hg : Gl X "sorted") (hm : X.mg "sorted" = none) (hp : plainB l = true) (ha : PE X l (tD X.K da)) : PE X (.Call (.Name "sorted" p0) [l] [] pos) (tDN X.K fun σ h => (da σ h).bind fun p => (dItems p.2 p.1).bind fun kvs => (keyInts kvs).bind fun ks => if ks.length < 64 then some (.lst ((ks.mergeSort (fun a b => decide (a ≤ b))).map vi), p.2) else none) :=
  peN (pe_callB (call_sortedDI hc) hg hm (by decide +kernel) (pa_cons ha pa_nil (star_cons hp)) (by decide) (by decide) (star_cons hp) rfl) fun P G ρ σ h τ H Q a r => RunN.stepE a r fun v h1 G1 ρ1 x H1 a1 s p rx _ r1 => by
    obtain ⟨ob, h', e, z⟩ := r1
    obtain ⟨ds, e0, e⟩ := Option.bind_eq_some_iff.mp e
    obtain ⟨ks, e1, e2⟩ := Option.bind_eq_some_iff.mp e
    split at e2
    · rename_i h64
      cases e2
      obtain ⟨b, kvs, rfl, gb, zz, rk⟩ := dItems_rel a1.hp rx e0
      refine ⟨b, kvs, ks, rfl, gb, keyInts_rel e1 rk, h64, fun ms p hp hsrt n => ?_⟩
      have em := sorted_uniq hp hsrt
      subst em
      refine z G1 ρ1 H1 p _ Sub.rfl (List.prefix_refl _) a1.hp n (relL ?_ ?_)
      · rw [List.length_map, hp.length_eq]
        exact Nat.le_trans (Nat.le_of_lt h64) (by decide)
      · generalize (ks.mergeSort (fun a b => decide (a ≤ b))) = ks'
        induction ks' with
        | nil => exact .nil
        | cons k ks ih => exact .cons rwInt ih
    · cases e2
theorem keys_rel : ∀ {ds : List (PyData × Val)} {kvs : List (Key × V)}, Paired (RK K G ρ) ds kvs → RelWs K G ρ (ds.map fun kv => .dat kv.1) (kvs.map fun kv => kV kv.1)
  | _, _, .nil => .nil
  | (k, d) :: ds, (j, v) :: kvs, .cons r rr => by
    have ek : k = kyD j := r.1
    subst ek
    exact .cons (show RelD G (kyD j) (kV j) from rdKey) (keys_rel rr)
theorem nListD (hc : X.calm = true) (hg : Gl X "list") (hm : X.mg "list" = none) (hp : plainB l = true) (ha : PE X l (tD X.K da)) : PE X (.Call (.Name "list" p0) [l] [] pos) (tDN X.K fun σ h => (da σ h).bind fun p => (dItems p.2 p.1).map fun kvs => (.lst (kvs.map fun kv => .dat kv.1), p.2)) :=
  peN (pe_callTy (call_listD hc) hg hm (by decide +kernel) (pa_cons ha pa_nil (star_cons hp)) (by decide) (by decide) (star_cons hp) rfl) fun P G ρ σ h τ H Q a r => RunN.stepE a r fun v h1 G1 ρ1 x H1 a1 s p rx _ r1 => by
    obtain ⟨ob, h', e, z⟩ := r1
    obtain ⟨ds, e0, e⟩ := Option.map_eq_some_iff.mp e
    cases e
    obtain ⟨b, kvs, rfl, gb, zz, rk⟩ := dItems_rel a1.hp rx e0
    exact ⟨b, kvs, rfl, gb, fun p n => z G1 ρ1 H1 p _ Sub.rfl (List.prefix_refl _) a1.hp n (relL (by rw [List.length_map]; exact zz) (keys_rel rk))⟩
theorem nListR1 (B : BiOk X) (hg : Gl X "list") (hm : X.mg "list" = none) (hg2 : Gl X "range") (hm2 : X.mg "range" = none) {p1 p2 : Pos} (h1 : plainB l = true) (ha : PE X l (tD X.K da)) :
    PE X (.Call (.Name "list" p0) [.Call (.Name "range" p1) [l] [] p2] [] pos) (tDN X.K fun σ h => (da σ h).bind fun q => match q.1 with
      | .dat (.int j) => if j < 2 ^ 62 ∧ -(2 ^ 62) ≤ j ∧ j.toNat ≤ sizeLine then some (.lst ((List.range j.toNat).map fun (k : Nat) => vi (k : Int)), q.2) else none
      | _ => none) :=
  peN (pe_listRg B.calm hg hm (prg_1 hg2 hm2 ha (star_cons h1)) rfl) fun P G ρ σ h τ H Q a r => RunN.stepE a r fun w h2 G2 ρ2 y H2 a2 s2 p2 ry _ r2 => by
    dsimp only at r2
    split at r2
    · rename_i j hw
      split at r2
      · rename_i hc
        refine ⟨j, dInt ry, ⟨by omega, by omega, hc.2.1, hc.1, by rw [Int.sub_zero]; exact hc.2.2⟩, fun p n => r2.now a2 p _ n (relL (by rw [rgV_length, Int.sub_zero]; exact hc.2.2) ?_)⟩
        unfold rgV
        rw [Int.sub_zero]
        generalize (List.range j.toNat) = ks
        induction ks with
        | nil => exact .nil
        | cons k ks ih =>
          refine .cons ?_ ih
          show RelD G2 (.int (k : Int)) (.int (0 + (k : Int)))
          rw [Int.zero_add]
          exact rdInt
      · exact r2.not
    · exact r2.not
/-! ### a dict is made -/
theorem RKs.mono {G' : Hp} {ρ' : List Addr} (s : Sub G G') (p : Pre ρ ρ') {a : List (PyData × Val)} {b : List (Key × V)} (h : Paired (RK K G ρ) a b) : Paired (RK K G' ρ') a b := L2.Paired.mapP h fun _ _ z => ⟨z.1, z.2.mono s p⟩
theorem any_rel {j : Key} : ∀ {a : List (PyData × Val)} {b : List (Key × V)}, Paired (RK K G ρ) a b → (a.any fun kv => decide (kv.1 = kyD j)) = (b.any fun kv => decide (kv.1 = j))
  | _, _, .nil => rfl
  | _, _, .cons r t => by
    rw [List.any_cons, List.any_cons, any_rel t]
    congr 1
    obtain ⟨e, _⟩ := r
    rw [e]
    exact decide_eq_decide.mpr ⟨kyD_inj, fun z => by rw [z]⟩
theorem put_map {j : Key} {v : Val} {z : V} (rz : RelW K G ρ v z) : ∀ {a : List (PyData × Val)} {b : List (Key × V)}, Paired (RK K G ρ) a b → Paired (RK K G ρ) (a.map fun kv => if kv.1 = kyD j then (kv.1, v) else kv) (b.map fun kv => if kv.1 = j then (kv.1, z) else kv)
  | _, _, .nil => .nil
  | p :: _, q :: _, .cons r1 r2 => by
    rw [List.map_cons, List.map_cons]
    refine .cons ?_ (put_map rz r2)
    obtain ⟨e, rv⟩ := r1
    by_cases hq : q.1 = j
    · have hp : p.1 = kyD j := by rw [e, hq]
      rw [if_pos hq, if_pos hp]
      exact ⟨by rw [hp, hq], rz⟩
    · have hp : ¬ p.1 = kyD j := fun z => hq (kyD_inj (e.symm.trans z))
      rw [if_neg hq, if_neg hp]
      exact ⟨e, rv⟩
theorem put_rel {j : Key} {v : Val} {z : V} {a : List (PyData × Val)} {b : List (Key × V)} (rz : RelW K G ρ v z) (r : Paired (RK K G ρ) a b) : Paired (RK K G ρ) (dPut a (kyD j) v) (putK b j z) := by
  unfold dPut putK
  rw [any_rel r]
  split
  · exact put_map rz r
  · exact Paired.app r (.cons ⟨rfl, rz⟩ .nil)
theorem putK_le {c : List (Key × V)} {k : Key} {x : V} : (putK c k x).length ≤ c.length + 1 := by
  unfold putK
  split
  · rw [List.length_map]; exact Nat.le_succ _
  · rw [List.length_append]; exact Nat.le_refl _
def dcompF (t : Tg) (own : List Nat) (dC : Fr → Hm → Option (Bool × Hm)) (dK dV : Fr → Hm → Option (Val × Hm)) (σ : Fr) : Itm → Hm → Option (Option (PyData × Val) × Hm) :=
  fun x h => (tgItm t x (wipeF σ own)).bind fun σ' => (dC σ' h).bind fun q => if q.1 then (dK σ' q.2).bind fun a => (keyD a.1).bind fun y => (dV σ' a.2).map fun b => (some (y, b.1), b.2) else some (none, q.2)
theorem dcompD_cons {g : Gd} {f : Itm → Hm → Option (Option (PyData × Val) × Hm)} {x : Itm} {xs : List Itm} {acc : List (PyData × Val)} {h : Hm} {z : List (PyData × Val) × Hm} (e : dcompD g f (x :: xs) acc h = some z) :
    g.ok h = true ∧ ∃ r, f x h = some r ∧ (match r.1 with | some p => dcompD g f xs (dPut acc p.1 p.2) r.2 | none => dcompD g f xs acc r.2) = some z := by
  unfold dcompD at e
  split at e
  · rename_i ok
    obtain ⟨r, e1, e2⟩ := Option.bind_eq_some_iff.mp e
    exact ⟨ok, r, e1, e2⟩
  · cases e
theorem dcompD_nil {g : Gd} {f : Itm → Hm → Option (Option (PyData × Val) × Hm)} {acc : List (PyData × Val)} {h : Hm} {z : List (PyData × Val) × Hm} (e : dcompD g f [] acc h = some z) : g.ok h = true ∧ z = (acc, h) := by
  unfold dcompD at e
  split at e
  · rename_i ok
    cases e
    exact ⟨ok, rfl⟩
  · cases e
theorem dcRun {t : Tg} {own : List Nat} {dI : Fr → Hm → Option ((List Itm × Gd) × Hm)} {dC : Fr → Hm → Option (Bool × Hm)} {dK dV : Fr → Hm → Option (Val × Hm)} {Q : VK} (hin : tgIn own t = true) (a : At K P G ρ σ h τ H)
    (r : RunN K P ((dI σ h).bind fun p => (dcompD p.1.2 (dcompF t own dC dK dV σ) p.1.1 [] p.2).map fun q => (.dct q.1, q.2)) G ρ Q) : tDc (tDI K dI) (tDG K t) (tDC K dC) (tD K dK) (tD K dV) own τ H Q := by
  obtain ⟨ob, h', e, z⟩ := r
  obtain ⟨⟨⟨is, g⟩, h1⟩, e1, e2⟩ := Option.bind_eq_some_iff.mp e
  obtain ⟨⟨vs, h2⟩, e3, e4⟩ := Option.map_eq_some_iff.mp e2
  cases e4
  refine ⟨P, G, ρ, σ, h, is, g, h1, a.hp, a.fr, e1, fun G1 ρ1 H1 J s1 p1 rh1 sv D nD => ?_⟩
  have nP : P D = none := rh1.kp.fresh nD
  let W : Nat → Nat → Hp → Prop := fun i m H => i ≤ is.length ∧ m = is.length - i ∧ ∃ Gx ρx hx acc accV, Sub G1 Gx ∧ Pre ρ1 ρx ∧ RelH K (upd P D (.dK acc)) Gx ρx hx H ∧ acc.length ≤ i ∧ Paired (RK K Gx ρx) accV acc ∧ dcompD g (dcompF t own dC dK dV σ) (is.drop i) accV hx = some (vs, h2)
  refine ⟨W, ⟨is.length, Nat.zero_le _, rfl, G1, ρ1, h1, [], [], Sub.rfl, List.prefix_refl _, rh1.prot nD, Nat.le_refl _, .nil, e3⟩, ?_⟩
  rintro i m H ⟨hi, rfl, Gx, ρx, hx, acc, accV, sx, px, rhx, hl, rw', ec⟩
  have sP : Sub P (upd P D (.dK acc)) := Sub.new nP
  by_cases hlt : i < is.length
  · rw [List.drop_eq_getElem_cons hlt] at ec
    obtain ⟨ok, r, ef, er⟩ := dcompD_cons ec
    obtain ⟨sv1, _⟩ := sv.2 _ Gx ρx hx H trivial sx px rhx ok
    obtain ⟨go, yl⟩ := sv1 i is[i] (List.getElem?_eq_getElem hlt)
    refine .inr ⟨go, fun H' => ∃ m', m' < is.length - i ∧ W (i + 1) m' H', fun H' n => n, fun x H' y => ?_⟩
    obtain ⟨G', sG, rh', ri⟩ := yl x H' y
    unfold dcompF at ef
    obtain ⟨σ', et, ef⟩ := Option.bind_eq_some_iff.mp ef
    obtain ⟨⟨b, h3⟩, ed, ef⟩ := Option.bind_eq_some_iff.mp ef
    have sxx := sx.trans sG
    have rf0 : RelF K G' ρx σ τ := a.fr.mono (s1.trans sxx) (p1.trans px)
    refine ⟨_, G', ρx, wipeF σ own, hx, is[i], σ', rh', RelF.wiped rf0, ri, et, fun τ2 rf2 w2 => ⟨(w2 own hin).trans (wipe_sub fun _ q => q), ?_⟩⟩
    refine ⟨_, G', ρx, σ', hx, rh', rf2, b, h3, ed, fun G3 ρ3 H3 b' s3 p3 rh3 eb => ?_⟩
    have eb' : b = b' := eb
    subst eb'
    cases b with
    | true =>
      simp only [↓reduceIte]
      obtain ⟨⟨kv, h4⟩, ek, er2⟩ := Option.bind_eq_some_iff.mp (show ((dK σ' h3).bind fun a => (keyD a.1).bind fun y => (dV σ' a.2).map fun b => (some (y, b.1), b.2)) = some r from ef)
      obtain ⟨y, ey, er3⟩ := Option.bind_eq_some_iff.mp er2
      obtain ⟨⟨v, h5⟩, ev, er4⟩ := Option.map_eq_some_iff.mp er3
      cases er4
      refine ⟨_, G3, ρ3, σ', h3, rh3, rf2.mono s3 p3, kv, h4, ek, fun G4 ρ4 H4 yv s4 p4 rh4 ry => ?_⟩
      obtain ⟨j, rfl, rfl⟩ := keyD_rel ey ry
      refine ⟨_, G4, ρ4, σ', h4, rh4, (rf2.mono s3 p3).mono s4 p4, v, h5, ev, fun G5 ρ5 H5 zv s5 p5 rh5 rz => ?_⟩
      have hz := sv.1
      refine ⟨acc, j, rfl, rh5.kp D _ upd_same, by omega, is.length - (i + 1), by omega, hlt, rfl, G5, ρ5, h5, putK acc j zv, dPut accV (kyD j) v, ((sxx.trans s3).trans s4).trans s5, ((px.trans p3).trans p4).trans p5, rh5.reprot, ?_, ?_, er⟩
      · have := putK_le (c := acc) (k := j) (x := zv)
        omega
      · exact put_rel rz (RKs.mono (((sG.trans s3).trans s4).trans s5) ((p3.trans p4).trans p5) rw')
    | false =>
      simp only [Bool.false_eq_true, ↓reduceIte]
      have ef' : some ((none : Option (PyData × Val)), h3) = some r := ef
      cases ef'
      exact ⟨is.length - (i + 1), by omega, hlt, rfl, G3, ρ3, h3, acc, accV, sxx.trans s3, px.trans p3, rh3, by omega, RKs.mono (sG.trans s3) p3 rw', er⟩
  · have hi' : i = is.length := by omega
    subst hi'
    rw [List.drop_length] at ec
    obtain ⟨ok, ez⟩ := dcompD_nil ec
    cases ez
    obtain ⟨_, st⟩ := sv.2 _ Gx ρx h2 H trivial sx px rhx ok
    refine .inl ⟨st, ?_⟩
    have hD : H D = some (.dK acc) := rhx.kp D _ upd_same
    have hz := sv.1
    have := z Gx ρx (del H D) D (.dK acc) (s1.trans sx) (p1.trans px) (rhx.unprot nP) del_self ⟨acc, rfl, by omega, rw'⟩
    rw [upd_del hD] at this
    exact this
theorem nDComp {kx vx iter : Expr} {ifs : List Expr} {scope : Scope} {own : List (Str × Nat)} {t : Tg} {dI : Fr → Hm → Option ((List Itm × Gd) × Hm)} {dC : Fr → Hm → Option (Bool × Hm)} {dK dV : Fr → Hm → Option (Val × Hm)}
    (hc : X.calm = true) (hN : X.N.Nodup) (hin : tgIn (own.map (·.2)) t = true) (hi : PI X tg iter (tDI X.K dI)) (ok : BlkOk X.N X.env.scope scope own)
    (hg : ∀ (s : Shared) (H : Hp) (C : Addr) (cl : List (Str × Addr)) (fp : List Addr), PG (X.blk s H scope (compEnvC scope cl C X.env) fp) tg (tDG X.K t)) (ht : ∀ (s : Shared) (H : Hp) (C : Addr) (cl : List (Str × Addr)) (fp : List Addr), PTs (X.blk s H scope (compEnvC scope cl C X.env) fp) ifs (tDC X.K dC))
    (hk : ∀ (s : Shared) (H : Hp) (C : Addr) (cl : List (Str × Addr)) (fp : List Addr), PE (X.blk s H scope (compEnvC scope cl C X.env) fp) kx (tD X.K dK))
    (he : ∀ (s : Shared) (H : Hp) (C : Addr) (cl : List (Str × Addr)) (fp : List Addr), PE (X.blk s H scope (compEnvC scope cl C X.env) fp) vx (tD X.K dV)) (hs : ∀ x, foldedSetIterable iter X.env x = pure x) :
    PE X (.DictComp kx vx [⟨tg, iter, ifs, 0⟩] scope pos) (tDN X.K fun σ h => (dI σ h).bind fun p => (dcompD p.1.2 (dcompF t (own.map (·.2)) dC dK dV σ) p.1.1 [] p.2).map fun q => (.dct q.1, q.2)) :=
  peN (pe_dc hc hN hi ok hg ht hk he hs) fun P G ρ σ h τ H Q a r => dcRun hin a r
end
end Mi
end
/-! ## MiSF -/
section
set_option maxHeartbeats 1000000
/-! MiSF: two walks in one comprehension; comprehensions that are stored at once. -/
namespace Mi
open PySem PySem.Spec PyProof.Rows L2
section
variable {X : Cx} {K : PySem.W.Frag} {P G H : Hp} {ρ : List Addr} {h : Hm} {σ : Fr} {τ : L2.St} {l r q tg tg1 : Expr} {da db dc : Fr → Hm → Option (Val × Hm)} {pos p0 : Pos}
theorem compD_len {g : Gd} {f : Itm → Hm → Option (Option Val × Hm)} : ∀ {xs : List Itm} {acc : List Val} {h : Hm} {z : List Val × Hm}, compD g f xs acc h = some z → acc.length ≤ z.1.length
  | [], acc, h, z, e => by obtain ⟨_, rfl⟩ := compD_nil e; exact Nat.le_refl _
  | x :: xs, acc, h, z, e => by
    obtain ⟨_, r, _, e2⟩ := compD_cons e
    split at e2
    · have := compD_len e2
      rw [List.length_append] at this
      exact Nat.le_trans (Nat.le_add_right _ _) this
    · exact compD_len e2
/-- one turn of the outer walk -/
def comp2F (t : Tg) (own : List Nat) (dC : Fr → Hm → Option (Bool × Hm)) (dI1 : Fr → Hm → Option ((List Itm × Gd) × Hm)) (t1 : Tg) (own1 : List Nat) (dC1 : Fr → Hm → Option (Bool × Hm)) (dE : Fr → Hm → Option (Val × Hm)) (σ : Fr) : Itm → List Val → Hm → Option (List Val × Hm) :=
  fun x acc h => (tgItm t x (wipeF σ own)).bind fun σ1 => (dC σ1 h).bind fun q => if q.1 then (dI1 σ1 q.2).bind fun p1 => compD p1.1.2 (compF t1 own1 dC1 dE σ1) p1.1.1 acc p1.2 else some (acc, q.2)
theorem comp2F_len {t : Tg} {own : List Nat} {dC : Fr → Hm → Option (Bool × Hm)} {dI1 : Fr → Hm → Option ((List Itm × Gd) × Hm)} {t1 : Tg} {own1 : List Nat} {dC1 : Fr → Hm → Option (Bool × Hm)} {dE : Fr → Hm → Option (Val × Hm)} {σ : Fr} {x : Itm} {acc : List Val} {h : Hm} {z : List Val × Hm}
    (e : comp2F t own dC dI1 t1 own1 dC1 dE σ x acc h = some z) : acc.length ≤ z.1.length := by
  unfold comp2F at e
  obtain ⟨σ1, _, e⟩ := Option.bind_eq_some_iff.mp e
  obtain ⟨q, _, e⟩ := Option.bind_eq_some_iff.mp e
  split at e
  · obtain ⟨p1, _, e⟩ := Option.bind_eq_some_iff.mp e
    exact compD_len e
  · cases e; exact Nat.le_refl _
theorem comp2D_cons {g : Gd} {f : Itm → List Val → Hm → Option (List Val × Hm)} {x : Itm} {xs : List Itm} {acc : List Val} {h : Hm} {z : List Val × Hm} (e : comp2D g f (x :: xs) acc h = some z) :
    g.ok h = true ∧ ∃ r, f x acc h = some r ∧ comp2D g f xs r.1 r.2 = some z := by
  unfold comp2D at e
  split at e
  · rename_i ok
    obtain ⟨r, e1, e2⟩ := Option.bind_eq_some_iff.mp e
    exact ⟨ok, r, e1, e2⟩
  · cases e
theorem comp2D_nil {g : Gd} {f : Itm → List Val → Hm → Option (List Val × Hm)} {acc : List Val} {h : Hm} {z : List Val × Hm} (e : comp2D g f [] acc h = some z) : g.ok h = true ∧ z = (acc, h) := by
  unfold comp2D at e
  split at e
  · rename_i ok
    cases e
    exact ⟨ok, rfl⟩
  · cases e
theorem comp2D_len {t : Tg} {own : List Nat} {dC : Fr → Hm → Option (Bool × Hm)} {dI1 : Fr → Hm → Option ((List Itm × Gd) × Hm)} {t1 : Tg} {own1 : List Nat} {dC1 : Fr → Hm → Option (Bool × Hm)} {dE : Fr → Hm → Option (Val × Hm)} {σ : Fr} {g : Gd} : ∀ {xs : List Itm} {acc : List Val} {h : Hm} {z : List Val × Hm}, comp2D g (comp2F t own dC dI1 t1 own1 dC1 dE σ) xs acc h = some z → acc.length ≤ z.1.length
  | [], acc, h, z, e => by obtain ⟨_, rfl⟩ := comp2D_nil e; exact Nat.le_refl _
  | x :: xs, acc, h, z, e => by
    obtain ⟨_, r, e1, e2⟩ := comp2D_cons e
    exact Nat.le_trans (comp2F_len e1) (comp2D_len e2)
theorem lc2Run {t t1 : Tg} {own own1 : List Nat} {dI dI1 : Fr → Hm → Option ((List Itm × Gd) × Hm)} {dC dC1 : Fr → Hm → Option (Bool × Hm)} {dE : Fr → Hm → Option (Val × Hm)} {Q : VK} (hin : tgIn own t = true) (hin1 : tgIn own1 t1 = true) (a : At K P G ρ σ h τ H)
    (r : RunN K P ((dI σ h).bind fun p => (comp2D p.1.2 (comp2F t own dC dI1 t1 own1 dC1 dE σ) p.1.1 [] p.2).bind fun q => if q.1.length ≤ sizeLine then some (.lst q.1, q.2) else none) G ρ Q) : tLc2 (tDI K dI) (tDG K t) (tDC K dC) (tDI K dI1) (tDG K t1) (tDC K dC1) (tD K dE) own own1 τ H Q := by
  obtain ⟨ob, h', e, z⟩ := r
  obtain ⟨⟨⟨is, g⟩, h1⟩, e1, e2⟩ := Option.bind_eq_some_iff.mp e
  obtain ⟨⟨vs, h2⟩, e3, e4⟩ := Option.bind_eq_some_iff.mp e2
  split at e4
  · rename_i hsz
    cases e4
    have hsz' : vs.length ≤ sizeLine := hsz
    refine ⟨P, G, ρ, σ, h, is, g, h1, a.hp, a.fr, e1, fun G1 ρ1 H1 J s1 p1 rh1 sv D nD => ?_⟩
    have nP : P D = none := rh1.kp.fresh nD
    let W : Nat → Nat → Hp → Prop := fun i m H => i ≤ is.length ∧ m = is.length - i ∧ ∃ Gx ρx hx acc accV, Sub G1 Gx ∧ Pre ρ1 ρx ∧ RelH K (upd P D (.lst acc)) Gx ρx hx H ∧ RelWs K Gx ρx accV acc ∧ comp2D g (comp2F t own dC dI1 t1 own1 dC1 dE σ) (is.drop i) accV hx = some (vs, h2)
    refine ⟨W, ⟨is.length, Nat.zero_le _, rfl, G1, ρ1, h1, [], [], Sub.rfl, List.prefix_refl _, rh1.prot nD, .nil, e3⟩, ?_⟩
    rintro i m H ⟨hi, rfl, Gx, ρx, hx, acc, accV, sx, px, rhx, rw', ec⟩
    by_cases hlt : i < is.length
    · rw [List.drop_eq_getElem_cons hlt] at ec
      obtain ⟨ok, ⟨acc2, h7⟩, ef, er⟩ := comp2D_cons ec
      obtain ⟨sv1, _⟩ := sv.2 _ Gx ρx hx H trivial sx px rhx ok
      obtain ⟨go, yl⟩ := sv1 i is[i] (List.getElem?_eq_getElem hlt)
      refine .inr ⟨go, fun H' => ∃ m', m' < is.length - i ∧ W (i + 1) m' H', fun H' n => n, fun x H' y => ?_⟩
      obtain ⟨G', sG, rh', ri⟩ := yl x H' y
      unfold comp2F at ef
      obtain ⟨σ', et, ef⟩ := Option.bind_eq_some_iff.mp ef
      obtain ⟨⟨b, h3⟩, ed, ef⟩ := Option.bind_eq_some_iff.mp ef
      have sxx := sx.trans sG
      have rf0 : RelF K G' ρx σ τ := a.fr.mono (s1.trans sxx) (p1.trans px)
      refine ⟨_, G', ρx, wipeF σ own, hx, is[i], σ', rh', RelF.wiped rf0, ri, et, fun τ2 rf2 w2 => ⟨(w2 own hin).trans (wipe_sub fun _ q => q), ?_⟩⟩
      refine ⟨_, G', ρx, σ', hx, rh', rf2, b, h3, ed, fun G3 ρ3 H3 b' s3 p3 rh3 eb => ?_⟩
      have eb' : b = b' := eb
      subst eb'
      cases b with
      | true =>
        simp only [↓reduceIte]
        obtain ⟨⟨⟨js, g1⟩, h4⟩, ej, ef⟩ := Option.bind_eq_some_iff.mp (show ((dI1 σ' h3).bind fun p1 => compD p1.1.2 (compF t1 own1 dC1 dE σ') p1.1.1 accV p1.2) = some (acc2, h7) from ef)
        have rf3 : RelF K G3 ρ3 σ' τ2 := rf2.mono s3 p3
        refine ⟨_, G3, ρ3, σ', h3, js, g1, h4, rh3, rf3, ej, fun G4 ρ4 H4 J1 s4 p4 rh4 svj => ?_⟩
        let W1 : Nat → Nat → Hp → Prop := fun j k H => j ≤ js.length ∧ k = js.length - j ∧ ∃ Gy ρy hy acc accV, Sub G4 Gy ∧ Pre ρ4 ρy ∧ RelH K (upd P D (.lst acc)) Gy ρy hy H ∧ RelWs K Gy ρy accV acc ∧ compD g1 (compF t1 own1 dC1 dE σ') (js.drop j) accV hy = some (acc2, h7)
        refine ⟨W1, ⟨js.length, Nat.zero_le _, rfl, G4, ρ4, h4, acc, accV, Sub.rfl, List.prefix_refl _, rh4, RelWs.mono ((sG.trans s3).trans s4) (p3.trans p4) rw', ef⟩, ?_⟩
        rintro j k H ⟨hj, rfl, Gy, ρy, hy, accy, accVy, sy, py, rhy, rwy, ecy⟩
        have sG4 : Sub G1 G4 := (sxx.trans s3).trans s4
        have pG4 : Pre ρ1 ρ4 := (px.trans p3).trans p4
        by_cases hjl : j < js.length
        · rw [List.drop_eq_getElem_cons hjl] at ecy
          obtain ⟨okj, r, efj, erj⟩ := compD_cons ecy
          obtain ⟨svj1, _⟩ := svj.2 _ Gy ρy hy H trivial sy py rhy okj
          obtain ⟨goj, ylj⟩ := svj1 j js[j] (List.getElem?_eq_getElem hjl)
          refine .inr ⟨goj, fun H' => ∃ k', k' < js.length - j ∧ W1 (j + 1) k' H', fun H' n => n, fun x H' y => ?_⟩
          obtain ⟨G5, sG5, rh5, ri5⟩ := ylj x H' y
          unfold compF at efj
          obtain ⟨σ3, et3, efj⟩ := Option.bind_eq_some_iff.mp efj
          obtain ⟨⟨b, h6⟩, ed6, efj⟩ := Option.bind_eq_some_iff.mp efj
          have rf5 : RelF K G5 ρy σ' τ2 := rf3.mono ((s4.trans sy).trans sG5) (p4.trans py)
          refine ⟨_, G5, ρy, wipeF σ' own1, hy, js[j], σ3, rh5, RelF.wiped rf5, ri5, et3, fun τ3 rf6 w3 => ⟨(w3 own1 hin1).trans (wipe_sub fun _ q => q), ?_⟩⟩
          refine ⟨_, G5, ρy, σ3, hy, rh5, rf6, b, h6, ed6, fun G6 ρ6 H6 b' s6 p6 rh6 eb => ?_⟩
          have eb' : b = b' := eb
          subst eb'
          cases b with
          | true =>
            simp only [↓reduceIte]
            obtain ⟨⟨v, h8⟩, ee, er2⟩ := Option.map_eq_some_iff.mp (show ((dE σ3 h6).map fun r => (some r.1, r.2)) = some r from efj)
            cases er2
            refine ⟨_, G6, ρ6, σ3, h6, rh6, rf6.mono s6 p6, v, h8, ee, fun G8 ρ8 H8 y s8 p8 rh8 ry => ?_⟩
            have hlen : accy.length < sizeLine := by
              have l1 := compD_len erj
              have l2 := comp2D_len er
              rw [List.length_append, List.length_singleton] at l1
              have l3 : accVy.length = accy.length := Paired.length rwy
              have l1' : accVy.length + 1 ≤ acc2.length := l1
              have l2' : acc2.length ≤ vs.length := l2
              omega
            refine ⟨accy, rh8.kp D _ upd_same, hlen, js.length - (j + 1), by omega, hjl, rfl, G8, ρ8, h8, accy ++ [y], accVy ++ [v], ((sy.trans sG5).trans s6).trans s8, (py.trans p6).trans p8, rh8.reprot, ?_, erj⟩
            exact Paired.app (RelWs.mono ((sG5.trans s6).trans s8) (p6.trans p8) rwy) (.cons ry .nil)
          | false =>
            simp only [Bool.false_eq_true, ↓reduceIte]
            have ef' : some ((none : Option Val), h6) = some r := efj
            cases ef'
            exact ⟨js.length - (j + 1), by omega, hjl, rfl, G6, ρ6, h6, accy, accVy, (sy.trans sG5).trans s6, py.trans p6, rh6, RelWs.mono (sG5.trans s6) p6 rwy, erj⟩
        · have hj' : j = js.length := by omega
          subst hj'
          rw [List.drop_length] at ecy
          obtain ⟨okj, ez⟩ := compD_nil ecy
          cases ez
          obtain ⟨_, stj⟩ := svj.2 _ Gy ρy h7 H trivial sy py rhy okj
          exact .inl ⟨stj, is.length - (i + 1), by omega, hlt, rfl, Gy, ρy, h7, accy, acc2, sG4.trans sy, pG4.trans py, rhy, rwy, er⟩
      | false =>
        simp only [Bool.false_eq_true, ↓reduceIte]
        have ef' : some (accV, h3) = some (acc2, h7) := ef
        cases ef'
        exact ⟨is.length - (i + 1), by omega, hlt, rfl, G3, ρ3, _, acc, _, sxx.trans s3, px.trans p3, rh3, RelWs.mono (sG.trans s3) p3 rw', er⟩
    · have hi' : i = is.length := by omega
      subst hi'
      rw [List.drop_length] at ec
      obtain ⟨ok, ez⟩ := comp2D_nil ec
      cases ez
      obtain ⟨_, st⟩ := sv.2 _ Gx ρx h2 H trivial sx px rhx ok
      refine .inl ⟨st, ?_⟩
      have hD : H D = some (.lst acc) := rhx.kp D _ upd_same
      have := z Gx ρx (del H D) D (.lst acc) (s1.trans sx) (p1.trans px) (rhx.unprot nP) del_self (relL (by rw [← Paired.length rw']; exact hsz') rw')
      rw [upd_del hD] at this
      exact this
  · cases e4
theorem nComp2 {elt iter iter1 : Expr} {ifs ifs1 : List Expr} {scope : Scope} {own : List (Str × Nat)} {own1 : List Nat} {t t1 : Tg} {dI dI1 : Fr → Hm → Option ((List Itm × Gd) × Hm)} {dC dC1 : Fr → Hm → Option (Bool × Hm)} {dE : Fr → Hm → Option (Val × Hm)}
    (hc : X.calm = true) (hN : X.N.Nodup) (hin : tgIn (own.map (·.2)) t = true) (hin1 : tgIn own1 t1 = true) (hv : ∀ i ∈ own1, i ∈ own.map (·.2)) (hi : PI X tg iter (tDI X.K dI)) (ok : BlkOk X.N X.env.scope scope own)
    (hg : ∀ (s : Shared) (H : Hp) (C : Addr) (cl : List (Str × Addr)) (fp : List Addr), PG (X.blk s H scope (compEnvC scope cl C X.env) fp) tg (tDG X.K t)) (ht : ∀ (s : Shared) (H : Hp) (C : Addr) (cl : List (Str × Addr)) (fp : List Addr), PTs (X.blk s H scope (compEnvC scope cl C X.env) fp) ifs (tDC X.K dC))
    (hi1 : ∀ (s : Shared) (H : Hp) (C : Addr) (cl : List (Str × Addr)) (fp : List Addr), PI (X.blk s H scope (compEnvC scope cl C X.env) fp) tg1 iter1 (tDI X.K dI1))
    (hg1 : ∀ (s : Shared) (H : Hp) (C : Addr) (cl : List (Str × Addr)) (fp : List Addr), PG (X.blk s H scope (compEnvC scope cl C X.env) fp) tg1 (tDG X.K t1)) (ht1 : ∀ (s : Shared) (H : Hp) (C : Addr) (cl : List (Str × Addr)) (fp : List Addr), PTs (X.blk s H scope (compEnvC scope cl C X.env) fp) ifs1 (tDC X.K dC1))
    (he : ∀ (s : Shared) (H : Hp) (C : Addr) (cl : List (Str × Addr)) (fp : List Addr), PE (X.blk s H scope (compEnvC scope cl C X.env) fp) elt (tD X.K dE)) (hs : ∀ x, foldedSetIterable iter X.env x = pure x) (hs1 : ∀ env x, foldedSetIterable iter1 env x = pure x) :
    PE X (.ListComp elt [⟨tg, iter, ifs, 0⟩, ⟨tg1, iter1, ifs1, 0⟩] scope pos) (tDN X.K fun σ h => (dI σ h).bind fun p => (comp2D p.1.2 (comp2F t (own.map (·.2)) dC dI1 t1 own1 dC1 dE σ) p.1.1 [] p.2).bind fun q => if q.1.length ≤ sizeLine then some (.lst q.1, q.2) else none) :=
  peN (pe_lc2 (vs1 := own1) hc hN hi ok hv hg ht hi1 hg1 ht1 he hs hs1) fun P G ρ σ h τ H Q a r => lc2Run hin hin1 a r
end
end Mi
end
/-! ## MiSG -/
section
set_option maxHeartbeats 1000000
/-! MiSG: a name that takes a comprehension's dict, or a list of two walks, at once. -/
namespace Mi
open PySem PySem.Spec PyProof.Rows L2
section
variable {X : Cx} {K : PySem.W.Frag} {P G H : Hp} {ρ : List Addr} {h : Hm} {σ : Fr} {τ : L2.St} {l r q tg tg1 : Expr} {da db dc de : Fr → Hm → Option (Val × Hm)} {pos p0 : Pos}
theorem setDc {i : Nat} {y : Str} {py spos : Pos} {kx vx iter : Expr} {ifs : List Expr} {scope : Scope} {own : List (Str × Nat)} {wi : TI} {g : TG} {tt : TT} {tk tv : TE}
    (hc : X.calm = true) (hN : X.N.Nodup) (hy : X.N[i]? = some y) (hyl : X.env.scope.names.lookup y = some .local) (hsw : swapsWith (.DictComp kx vx [⟨tg, iter, ifs, 0⟩] scope pos) (some (.Name y py)) spos.line X.env = pure true)
    (hi : PI X tg iter wi) (ok : BlkOk X.N X.env.scope scope own)
    (hg : ∀ (s : Shared) (H : Hp) (C : Addr) (cl : List (Str × Addr)) (fp : List Addr), PG (X.blk s H scope (compEnvC scope cl C X.env) fp) tg g) (ht : ∀ (s : Shared) (H : Hp) (C : Addr) (cl : List (Str × Addr)) (fp : List Addr), PTs (X.blk s H scope (compEnvC scope cl C X.env) fp) ifs tt)
    (hk : ∀ (s : Shared) (H : Hp) (C : Addr) (cl : List (Str × Addr)) (fp : List Addr), PE (X.blk s H scope (compEnvC scope cl C X.env) fp) kx tk)
    (he : ∀ (s : Shared) (H : Hp) (C : Addr) (cl : List (Str × Addr)) (fp : List Addr), PE (X.blk s H scope (compEnvC scope cl C X.env) fp) vx tv) (hs : ∀ x, foldedSetIterable iter X.env x = pure x) :
    PS X (.Assign [.Name y py] (.DictComp kx vx [⟨tg, iter, ifs, 0⟩] scope pos) spos) (fun D τ H => tDc wi g tt tk tv (own.map (·.2)) τ H fun x H1 => ∃ b u, H1 b = some u ∧ Mut (some u) ∧ ∀ od, gName i x τ (upd H1 b (.frz od u)) D.nx) := by
  constructor
  intro pins s τ H D I w
  rw [exec_Assign_Name_used _ _ _ _ hsw]
  apply wpAny_bind
  apply wpAny_standAt
  apply wpAny_bind
  show wpAny _ X.A (comprehension (.DictComp kx vx [⟨tg, iter, ifs, 0⟩] scope pos) scope X.env (firstIterPos [⟨tg, iter, ifs, 0⟩] pos) newDict false (eval iter X.env) (some (assign (.Name y py) X.env)) >>= fun _ => pure ()) _ _ s
  apply wpAny_bind
  have core := dc_core (pos := pos) (pos' := firstIterPos [⟨tg, iter, ifs, 0⟩] pos) (use := some (assign (.Name y py) X.env)) (Qf := fun _ s' => SP X pins D .next s') hc hN I hi ok hg ht hk he hs w fun L C s' m H' I' k hn f => by
    obtain ⟨b, u, hb, mu, k⟩ := k
    obtain ⟨od, I3⟩ := I'.lock hb mu
    obtain ⟨f0, f1, f2, f3, f4, f5⟩ := f
    show wpAny _ _ (assign (.Name y py) X.env (.ref L)) _ _ _
    refine wpAny_assign_Name (store_ok2 (v := V.ref L) I3 hN hy (.inl hyl) rfl (fun s2 I2 z => ?_) (.inr hyl))
    obtain ⟨a, sb, ha⟩ := z
    have haC : C ≠ a := ha.elim (fun z => by rw [z]; exact f1) fun z e => f4 y a z e.symm
    refine ⟨m, hn.sameBut sb haC, fun h3 sb3 => ?_⟩
    have hCb : C ≠ b := fun z => by subst z; rw [f0] at hb; cases hb
    exact ⟨_, _, I2.turned (t' := s2.toks) (fun c o hc e => (sb3.2 c hc).trans e) (by rw [upd_ne hCb]; exact f0) f1 f3 f4 f5, k od⟩
  exact thn core fun _ s' hq => wpAny_pure (wpAny_pure hq)
theorem fzD_run {d : Fr → Hm → Option (Ob × Hm)} {Q : VK} (hd : ∀ ob h', d σ h = some (ob, h') → ∃ vs, ob = .dct vs) (a : At K P G ρ σ h τ H) (r : RunV K P ((d σ h).bind fun p => match p.1 with | .lst vs => (dats vs).map fun ds => (vl ds, p.2) | .dct kvs => (datsK kvs).map fun ks => (.dat (.dict ks), p.2) | _ => none) G ρ Q) :
    RunN K P (d σ h) G ρ fun x H1 => ∃ b u, H1 b = some u ∧ Mut (some u) ∧ ∀ od, Q x (upd H1 b (.frz od u)) := by
  obtain ⟨v, h', e, z⟩ := r
  obtain ⟨⟨ob, h1⟩, e1, e2⟩ := Option.bind_eq_some_iff.mp e
  obtain ⟨kvs, rfl⟩ := hd ob h1 e1
  refine ⟨_, h1, e1, fun G' ρ' H' p o s pr rh n ro => ?_⟩
  obtain ⟨ds, e3, e4⟩ := Option.map_eq_some_iff.mp (show (datsK kvs).map (fun ks => (Val.dat (.dict ks), h1)) = some (v, h') from e2)
  cases e4
  obtain ⟨ks, rfl, hz, q⟩ := ro
  have rd := datsK_rel e3 q
  have n' := rh.sub.fresh n
  refine ⟨p, .dK ks, upd_same, trivial, fun od => ?_⟩
  rw [upd_two]
  refine z (upd G' p (.frz od (.dK ks))) ρ' _ _ (s.trans (Sub.new n')) pr (rh.frozen n) ?_
  show RelD _ (.dict ds) _
  unfold RelD
  exact ⟨p, od, ks, rfl, upd_same, hz, RelKs.keep (Sub.new n').keeps rd⟩
theorem dc_sw {kx vx : Expr} {gs : List Comprehension} {scope : Scope} {py : Pos} {y : Str} {n : Nat} {env : PySem.Env} (hk : env.scope.kind = .function) :
    swapsWith (.DictComp kx vx gs scope pos) (some (.Name y py)) n env = pure false ∨ (swapsWith (.DictComp kx vx gs scope pos) (some (.Name y py)) n env = pure true ∧ env.scope.names.lookup y = some .local) := by
  have e : swapsWith (.DictComp kx vx gs scope pos) (some (.Name y py)) n env = pure (env.blockKind == .function && env.kindOf y == some .local && py.line == pos.line && !(scope.names.any fun (n, k) => n == y && (k == .local || k == .cell))) := rfl
  rw [e]
  cases hb : (env.blockKind == .function && env.kindOf y == some .local && py.line == pos.line && !(scope.names.any fun (n, k) => n == y && (k == .local || k == .cell))) with
  | false => exact .inl rfl
  | true =>
    refine .inr ⟨rfl, ?_⟩
    rw [Bool.and_eq_true, Bool.and_eq_true, Bool.and_eq_true] at hb
    exact eq_of_beq (show (env.scope.names.lookup y == some .local) = true from hb.1.1.2)
theorem zAsgD {i : Nat} {y : Str} {kx vx iter : Expr} {ifs : List Expr} {scope : Scope} {own : List (Str × Nat)} {t : Tg} {py spos : Pos} {dI : Fr → Hm → Option ((List Itm × Gd) × Hm)} {dC : Fr → Hm → Option (Bool × Hm)} {dK dV : Fr → Hm → Option (Val × Hm)}
    (hc : X.calm = true) (hN : X.N.Nodup) (hin : tgIn (own.map (·.2)) t = true) (hy : X.N[i]? = some y) (hyl : X.env.scope.names.lookup y = some .local)
    (hsw : swapsWith (.DictComp kx vx [⟨tg, iter, ifs, 0⟩] scope pos) (some (.Name y py)) spos.line X.env = pure true) (hi : PI X tg iter (tDI X.K dI)) (ok : BlkOk X.N X.env.scope scope own)
    (hg : ∀ (s : Shared) (H : Hp) (C : Addr) (cl : List (Str × Addr)) (fp : List Addr), PG (X.blk s H scope (compEnvC scope cl C X.env) fp) tg (tDG X.K t)) (ht : ∀ (s : Shared) (H : Hp) (C : Addr) (cl : List (Str × Addr)) (fp : List Addr), PTs (X.blk s H scope (compEnvC scope cl C X.env) fp) ifs (tDC X.K dC))
    (hk : ∀ (s : Shared) (H : Hp) (C : Addr) (cl : List (Str × Addr)) (fp : List Addr), PE (X.blk s H scope (compEnvC scope cl C X.env) fp) kx (tD X.K dK))
    (he : ∀ (s : Shared) (H : Hp) (C : Addr) (cl : List (Str × Addr)) (fp : List Addr), PE (X.blk s H scope (compEnvC scope cl C X.env) fp) vx (tD X.K dV)) (hs : ∀ x, foldedSetIterable iter X.env x = pure x)
    (hrun : ∀ (P G : Hp) (ρ : List Addr) (σ : Fr) (h : Hm) (τ : L2.St) (H : Hp) (Q : VK), At X.K P G ρ σ h τ H → RunV X.K P (de σ h) G ρ Q → RunN X.K P ((dI σ h).bind fun p => (dcompD p.1.2 (dcompF t (own.map (·.2)) dC dK dV σ) p.1.1 [] p.2).map fun q => (.dct q.1, q.2)) G ρ fun x H1 => ∃ b u, H1 b = some u ∧ Mut (some u) ∧ ∀ od, Q x (upd H1 b (.frz od u))) :
    PS X (.Assign [.Name y py] (.DictComp kx vx [⟨tg, iter, ifs, 0⟩] scope pos) spos) (tDS X.K fun σ h => (de σ h).bind fun p => (tgSet (.name i) p.1 σ).map fun σ' => ((.next, σ'), p.2)) :=
  psD (setDc hc hN hy hyl hsw hi ok hg ht hk he hs) fun P G ρ σ h τ H D a r => by
    have w : tD X.K de τ H fun x H1 => gName i x τ H1 D.nx := RunS.stepE a r fun v h1 G1 ρ1 x H1 a1 s p rx _ r1 => by
      obtain ⟨σ', e, r2⟩ := r1.of_map
      cases e
      exact RunS.now a1 r2 (RelF.set a1.fr rx i)
    obtain ⟨P', G', ρ', σ', h', rh, rf, rv⟩ := w
    exact dcRun hin ⟨rh, rf⟩ (hrun P' G' ρ' σ' h' τ H _ ⟨rh, rf⟩ rv)
theorem zAsg2 {i : Nat} {y : Str} {elt iter iter1 : Expr} {ifs ifs1 : List Expr} {scope : Scope} {own : List (Str × Nat)} {own1 : List Nat} {t t1 : Tg} {py spos : Pos} {dI dI1 : Fr → Hm → Option ((List Itm × Gd) × Hm)} {dC dC1 : Fr → Hm → Option (Bool × Hm)} {dE : Fr → Hm → Option (Val × Hm)}
    (hc : X.calm = true) (hN : X.N.Nodup) (hin : tgIn (own.map (·.2)) t = true) (hin1 : tgIn own1 t1 = true) (hv : ∀ i ∈ own1, i ∈ own.map (·.2)) (hy : X.N[i]? = some y) (hyl : X.env.scope.names.lookup y = some .local)
    (hsw : swapsWith (.ListComp elt [⟨tg, iter, ifs, 0⟩, ⟨tg1, iter1, ifs1, 0⟩] scope pos) (some (.Name y py)) spos.line X.env = pure true) (hi : PI X tg iter (tDI X.K dI)) (ok : BlkOk X.N X.env.scope scope own)
    (hg : ∀ (s : Shared) (H : Hp) (C : Addr) (cl : List (Str × Addr)) (fp : List Addr), PG (X.blk s H scope (compEnvC scope cl C X.env) fp) tg (tDG X.K t)) (ht : ∀ (s : Shared) (H : Hp) (C : Addr) (cl : List (Str × Addr)) (fp : List Addr), PTs (X.blk s H scope (compEnvC scope cl C X.env) fp) ifs (tDC X.K dC))
    (hi1 : ∀ (s : Shared) (H : Hp) (C : Addr) (cl : List (Str × Addr)) (fp : List Addr), PI (X.blk s H scope (compEnvC scope cl C X.env) fp) tg1 iter1 (tDI X.K dI1))
    (hg1 : ∀ (s : Shared) (H : Hp) (C : Addr) (cl : List (Str × Addr)) (fp : List Addr), PG (X.blk s H scope (compEnvC scope cl C X.env) fp) tg1 (tDG X.K t1)) (ht1 : ∀ (s : Shared) (H : Hp) (C : Addr) (cl : List (Str × Addr)) (fp : List Addr), PTs (X.blk s H scope (compEnvC scope cl C X.env) fp) ifs1 (tDC X.K dC1))
    (he : ∀ (s : Shared) (H : Hp) (C : Addr) (cl : List (Str × Addr)) (fp : List Addr), PE (X.blk s H scope (compEnvC scope cl C X.env) fp) elt (tD X.K dE)) (hs : ∀ x, foldedSetIterable iter X.env x = pure x) (hs1 : ∀ env x, foldedSetIterable iter1 env x = pure x)
    (hrun : ∀ (P G : Hp) (ρ : List Addr) (σ : Fr) (h : Hm) (τ : L2.St) (H : Hp) (Q : VK), At X.K P G ρ σ h τ H → RunV X.K P (de σ h) G ρ Q → RunN X.K P ((dI σ h).bind fun p => (comp2D p.1.2 (comp2F t (own.map (·.2)) dC dI1 t1 own1 dC1 dE σ) p.1.1 [] p.2).bind fun q => if q.1.length ≤ sizeLine then some (.lst q.1, q.2) else none) G ρ Q) :
    PS X (.Assign [.Name y py] (.ListComp elt [⟨tg, iter, ifs, 0⟩, ⟨tg1, iter1, ifs1, 0⟩] scope pos) spos) (tDS X.K fun σ h => (de σ h).bind fun p => (tgSet (.name i) p.1 σ).map fun σ' => ((.next, σ'), p.2)) :=
  psD (ps_setLc2 (vs1 := own1) hc hN hy hyl hsw hi ok hv hg ht hi1 hg1 ht1 he hs hs1) fun P G ρ σ h τ H D a r => by
    have w : tD X.K de τ H fun x H1 => gName i x τ H1 D.nx := RunS.stepE a r fun v h1 G1 ρ1 x H1 a1 s p rx _ r1 => by
      obtain ⟨σ', e, r2⟩ := r1.of_map
      cases e
      exact RunS.now a1 r2 (RelF.set a1.fr rx i)
    obtain ⟨P', G', ρ', σ', h', rh, rf, rv⟩ := w
    exact lc2Run hin hin1 ⟨rh, rf⟩ (hrun P' G' ρ' σ' h' τ H _ ⟨rh, rf⟩ rv)
/-! ### d[k] = v -/
theorem setDct_of {w k u : Val} {h' : Hm} (e : setDct h w k u = some h') : ∃ b kd kvs, w = .ref b ∧ keyD k = some kd ∧ h[b]? = some (.dct kvs) ∧ kvs.length < sizeLine ∧ h' = h.set b (.dct (dPut kvs kd u)) := by
  unfold setDct at e
  split at e
  · obtain ⟨kd, ek, e6⟩ := Option.bind_eq_some_iff.mp e
    split at e6
    · rename_i kvs hb
      split at e6
      · rename_i hl
        cases e6
        exact ⟨_, kd, kvs, rfl, ek, hb, hl, rfl⟩
      · cases e6
    · cases e6
  · cases e
theorem zDput {o i v : Expr} {p1 : Pos} (hu : X.A.units + 65 < cLine) (hsw : swapsWith v (some (.Subscript o i p1)) pos.line X.env = pure false) (he : PE X v (tD X.K da)) (ho : PE X o (tD X.K db)) (hi : PE X i (tD X.K dc)) :
    PS X (.Assign [.Subscript o i p1] v pos) (tDS X.K fun σ h => (da σ h).bind fun p => (db σ p.2).bind fun q => (dc σ q.2).bind fun r => (setDct r.2 q.1 r.1 p.1).map fun h' => ((.next, σ), h')) :=
  psD (ps_dput (by omega) ho hi he hsw) fun P G ρ σ h τ H D a r => RunS.stepE a r fun u h1 G1 ρ1 x H1 a1 s p rx _ r1 => RunS.stepE a1 r1 fun w h2 G2 ρ2 y H2 a2 s2 p2 ry _ r2 => RunS.stepE a2 r2 fun k h3 G3 ρ3 z H3 a3 s3 p3 rz _ r3 => by
    obtain ⟨fl, σ', h', e, q⟩ := r3
    obtain ⟨h4, e4, e5⟩ := Option.map_eq_some_iff.mp e
    cases e5
    obtain ⟨b, kd, kvs, rfl, ek, hb, hl, rfl⟩ := setDct_of e4
    obtain ⟨p', ep, rfl⟩ := ry.mono s3 p3
    obtain ⟨p2', ob, ep', hp, ks, rfl, zz, qq⟩ := a3.hp.obj _ _ hb
    rw [ep] at ep'; cases ep'
    obtain ⟨j, rfl, rfl⟩ := keyD_rel ek rz
    have hl2 : ks.length < sizeLine := by rw [← Paired.length qq]; exact hl
    have ru := (rx.mono s2 p2).mono s3 p3
    have rput := put_rel (j := j) ru qq
    refine ⟨p', upd H3 p' (.dK (putK ks j x)), rfl, DPut.k hp hl2, ?_⟩
    refine q G3 ρ3 _ τ Sub.rfl (List.prefix_refl _) (a3.hp.wrote ep ⟨_, rfl, ?_, rput⟩) a3.fr
    have := putK_le (c := ks) (k := j) (x := x)
    omega
/-! ### t.index(k) -/
def rIdxT : V → List V → Hp → VK → Prop := fun x xs H Q => ∃ (p : Addr) (ob : Obj) (ns : List Int) (k : Int) (j : Nat), x = .ref p ∧ xs = [.int k] ∧ H p = some (.frz ob (.tup (ns.map V.int))) ∧ ns[j]? = some k ∧ (∀ m, m < j → ns[m]? ≠ some k) ∧ Q (.int (j : Nat)) H
theorem mtIdxT : MtR X "tuple.index" rIdxT := by
  intro pins s τ H x xs v us Q I rx rxs w
  obtain ⟨p, ob, ns, k, j, rfl, rfl, hs, hj, hno, q⟩ := w
  cases rx
  obtain ⟨u, rfl, ru⟩ := Vals.one rxs
  obtain ⟨t, rfl⟩ := ru
  obtain ⟨its, rv, ⟨⟨cls, dd, data, sl⟩, ho, hc, n, hd⟩, _⟩ := I.tuple (.inl (.inr ⟨ob, hs⟩))
  simp only at hc hd
  subst hc hd
  have hi := rv.ints
  have hl : its.toArray.size = ns.length := by rw [List.size_toArray, ← rv.length, List.length_map]
  have hjl : j < its.toArray.size := by rw [hl]; exact (List.getElem?_eq_some_iff.mp hj).1
  have nth : ∀ (m : Nat) (hm : m < its.toArray.size), ∃ y t', ns[m]? = some y ∧ its.toArray[m] = Value.int y t' := fun m hm => by
    have hm' : m < ns.length := by rw [← hl]; exact hm
    obtain ⟨w, hw, t', hw'⟩ := rv.get (i := m) (x := .int ns[m]) (by simp [hm'])
    refine ⟨ns[m], t', List.getElem?_eq_getElem hm', ?_⟩
    have e := (List.getElem?_eq_some_iff.mp hw).2
    rw [← hw', ← e]
    simp
  refine call_meets PySem.F.slot_tuple_index ⟨_, ho, rfl⟩ PySem.F.entry_tuple_index (PySem.F.args_tuple_index_2 _ _) (_root_.TI.tuple_indexAt p its.toArray n dd sl (.int k t) (eqk k) j hjl ?_ ?_) ⟨ho, fun y hy => (eqk_gives hi y (by simpa using hy)).at _ _, ⟨.int (j : Nat), H, I.tok _, ⟨_, rfl⟩, q⟩⟩
  · obtain ⟨y, t', h1, h2⟩ := nth j hjl
    rw [hj] at h1
    cases h1
    rw [h2]
    show (k == k) = true
    exact beq_self_eq_true k
  · intro m hm hmj
    obtain ⟨y, t', h1, h2⟩ := nth m hm
    rw [h2]
    show (y == k) = false
    exact beq_eq_false_iff_ne.mpr fun e => hno m hmj (e ▸ h1)
theorem idxV_of {v w u : Val} (e : idxV v w = some u) : ∃ ds ns i k, v = vt ds ∧ w = vi i ∧ intsV (ds.map .dat) = some ns ∧ ns[k]? = some i ∧ (∀ m, m < k → ns[m]? ≠ some i) ∧ u = vi (k : Nat) := by
  unfold idxV at e
  split at e
  · rename_i ds i
    obtain ⟨ns, e1, e2⟩ := Option.bind_eq_some_iff.mp e
    obtain ⟨k, e3, rfl⟩ := Option.map_eq_some_iff.mp e2
    obtain ⟨hk, h1, h2⟩ := List.findIdx?_eq_some_iff_getElem.mp e3
    refine ⟨ds, ns, i, k, rfl, rfl, e1, ?_, fun m hm hmi => ?_, rfl⟩
    · rw [List.getElem?_eq_getElem hk, eq_of_beq h1]
    · obtain ⟨hm2, h3⟩ := List.getElem?_eq_some_iff.mp hmi
      have := h2 m hm
      rw [h3, beq_self_eq_true] at this
      exact this rfl
  · cases e
theorem sIdx {ap cp : Pos} (hb : baseB l = true) (hline : (ap.endLine == cp.line) = true) (hp : plainB r = true) (ha : PE X l (tD X.K da)) (he : PE X r (tD X.K db)) :
    PE X (.Call (.Attribute l "index" ap) [r] [] cp) (tD X.K fun σ h => (da σ h).bind fun p => if isTup p.1 then (db σ p.2).bind fun q => (idxV p.1 q.1).map fun v => (v, q.2) else none) := by
  have hst : ∀ env, (starEach [r] env).all (fun x => !x.1) = true := fun env => star_all (by rw [List.all_cons, hp]; rfl)
  refine peD (peMt (e := r) (es := []) (apos := ap) (cpos := cp) PySem.F.plainAttrs_tuple PySem.F.slot_tuple_index PySem.F.type_tuple_index ty_tup mtIdxT ha (sA1 hp he) (attr_base hb) hst (star_cons hp) (show 1 < 30 by decide) hline) fun P G ρ σ h τ H Q a r => ?_
  refine tD.step a r fun v h1 G1 ρ1 x H1 a1 s p rx ev r1 => ?_
  split at r1
  · rename_i hk
    obtain ⟨ds, rfl⟩ : ∃ ds, v = vt ds := by
      unfold isTup at hk
      split at hk
      · exact ⟨_, by assumption⟩
      · cases hk
    have rd : RelD G1 (.tuple ds) x := rx
    unfold RelD at rd
    obtain ⟨b, o, ys, ex, g, dn, _, rds⟩ := rd
    have e0 := d1_eq db σ h1 (fun q => (idxV (vt ds) q.1).map fun v => (v, q.2))
    have r1' := r1
    dsimp only at r1'
    rw [e0] at r1'
    refine ⟨⟨b, o, ys, ex, a1.hp.sub _ _ g, dn⟩, tDA.step a1 r1' fun vs h3 G2 ρ2 xs H2 a2 s2 p2 rxs _ r2 => ?_⟩
    obtain ⟨z2, h4, e2, zz⟩ := r2
    split at e2
    · rename_i w hw
      have hw' : vs = [w] := hw
      subst hw'
      obtain ⟨u, e3, e4⟩ := Option.map_eq_some_iff.mp e2
      cases e4
      obtain ⟨ds', ns, i, k, ed, rfl, g2, hk1, hk2, rfl⟩ := idxV_of e3
      cases ed
      cases rxs with | cons q0 q1 =>
      cases q1
      have exs := ints_rel g2 (RelDs.ws (ρ := ρ2) (K := X.K) (rds.keep s2.keeps))
      subst exs
      exact ⟨b, o, ns, i, k, ex, by rw [dInt q0], a2.hp.sub _ _ (s2 _ _ g), hk1, hk2, zz G2 ρ2 H2 _ Sub.rfl (List.prefix_refl _) a2.hp rwInt⟩
    · cases e2
  · exact r1.not
end
end Mi
end
/-! ## MiS15 -/
section
set_option maxHeartbeats 4000000
/-! MiS15: an expression that matches a term of Mi does what the term says. -/
namespace Mi
open PySem PySem.Spec PyProof.Rows L2
/-- built-in names in use -/
def biNames : List Str := ["len", "abs", "tuple", "min", "max", "sum", "any", "all", "repr", "int", "isinstance", "bool", "str", "list", "range", "sorted", "enumerate", "zip"]
/-- what a context must give -/
structure Good (c : Nm) (np : Nat → Nat) (Γ : Env) (gl : Glo) (X : Cx) : Prop where
  eN : X.N = c.N
  nd : X.N.Nodup
  bi : BiOk X
  kind : X.env.scope.kind = .function
  mgB : ∀ y ∈ biNames, X.mg y = none
  fns : ∀ f y, c.fn[f]? = some y → FnIn X y (np f) (spM X.K (Γ f))
  hnp : ∀ f args h r, Γ f args h = some r → args.length = np f
  gls : ∀ g y d, c.gn[g]? = some y → gl g = some d → ∃ u x, X.mg y = some u ∧ RelV x u ∧ ∀ G, RelD G d x
def argB : Expr → Bool
  | .Starred _ _ => false | .Slice _ _ _ _ => false | .Set _ _ _ => false | _ => true
def tPl : Expr → Bool
  | .UnaryOp _ _ _ => false | .BoolOp _ _ _ => false | .IfExp _ _ _ _ => false | .Compare _ _ _ _ => false | _ => true
section
variable {X : Cx} {c : Nm} {np : Nat → Nat} {Γ : Env} {gl : Glo}
theorem mN_arg {sc : Scope} {n : N} {x : Expr} (h : mN c sc n x = true) : argB x = true ∧ tPl x = true := by
  cases n <;> (unfold mN at h; split at h <;> first | exact ⟨rfl, rfl⟩ | cases h)
theorem mE_arg {sc : Scope} {e : E} {x : Expr} (h : mE c sc e x = true) : argB x = true := by
  cases e with
  | fz n => unfold mE at h; exact (mN_arg h).1
  | nw n => unfold mE at h; rw [Bool.and_eq_true] at h; exact (mN_arg h.2).1
  | _ => unfold mE at h; split at h <;> first | rfl | cases h
theorem argB.plain {x : Expr} (h : argB x = true) : plainB x = true := by cases x <;> first | rfl | cases h
theorem argB.slice {x : Expr} (h : argB x = true) : ∀ a b c p, x ≠ .Slice a b c p := by
  rintro a b c p rfl; cases h
theorem argB.set {x : Expr} (h : argB x = true) (o : CmpOp) : behindInMarks o x = false := by cases x <;> first | rfl | cases h
theorem argB.ix {x : Expr} (h : argB x = true) (o i : Value) : subscripted x false o i = operate [o, i] (getItem o i) := by cases x <;> first | rfl | cases h
theorem argB.fold {x : Expr} (h : argB x = true) {env : PySem.Env} (v : Value) : foldedSetIterable x env v = pure v := by cases x <;> first | rfl | cases h
theorem tPl.test {x : Expr} (h : tPl x = true) {env : PySem.Env} (whole : Sem Value) : isTrue x env whole = (do let v ← whole; standAt x.pos; holding [v] (truthy v)) := by cases x <;> first | rfl | cases h
/-- an expression does what its term says, as a value and as a test -/
structure SE (Γ : Env) (gl : Glo) (X : Cx) (e : E) (x : Expr) : Prop where
  pe : PE X x (tD X.K (denE Γ gl e))
  pt : PT X x (tDT X.K (denE Γ gl e))
  pw : ∀ o vs pos, x = .BoolOp o vs pos → PW X x (tDT X.K (denE Γ gl e))
theorem SE.val {e : E} {x : Expr} (p : PE X x (tD X.K (denE Γ gl e))) (h : tPl x = true) : SE Γ gl X e x :=
  ⟨p, sTest p fun w => tPl.test h w, fun o vs pos e => by subst e; cases h⟩
theorem gl_of {y : Str} (h : gloB X.env.scope y = true) : Gl X y := by
  unfold gloB at h
  split at h
  · assumption
  · cases h
theorem vis_of {y : Str} (h : visB X.env.scope y = true) : Vis X.env.scope y := by
  unfold visB at h
  split at h
  · exact .inl (by assumption)
  · exact .inr (.inl (by assumption))
  · exact .inr (.inr (by assumption))
  · cases h
theorem okn {y : Str} (h : okName y = true) : (y == ("__debug__" : Str)) = false ∧ (y == ("__classdict__" : Str)) = false ∧ (y == ("__name__" : Str)) = false := by
  unfold okName at h
  simp only [Bool.and_eq_true, Bool.not_eq_true'] at h
  exact ⟨h.1.1, h.1.2, h.2⟩
theorem pt_ite {q l r : Expr} {pos : Pos} {tc ta tb : TT} (hc : PT X q tc) (ha : PT X l ta) (hb : PT X r tb) : PT X (.IfExp q l r pos) (fun τ H Q => tc τ H fun b H1 => if b = true then ta τ H1 Q else tb τ H1 Q) := by
  constructor
  intro pins s τ H Q I w
  rw [PySem.isTrue]
  refine wpAny_bind (thn (hc.run pins s τ H _ I w) ?_)
  rintro b s1 ⟨H1, I1, q1⟩
  cases b with
  | true => exact ha.run pins s1 τ H1 Q I1 q1
  | false => exact hb.run pins s1 τ H1 Q I1 q1
theorem tIte {q l r : Expr} {pos : Pos} {da db dc : Fr → Hm → Option (Val × Hm)} (hc : PT X q (tDT X.K dc)) (ha : PT X l (tDT X.K da)) (hb : PT X r (tDT X.K db)) : PT X (.IfExp q l r pos) (tDT X.K fun σ h => (dc σ h).bind fun p => match p.1 with | .dat (.bool true) => da σ p.2 | .dat (.bool false) => db σ p.2 | _ => none) :=
  ptD (pt_ite hc ha hb) fun P G ρ σ h τ H Q a r => RunB.step (fun v h' n => and_no n) a r fun b h1 G1 ρ1 H1 a1 s p r1 => by
    cases b with
    | true => rw [if_pos rfl]; exact tDT.of a1 r1
    | false => rw [if_neg (by decide)]; exact tDT.of a1 r1
theorem sGlo {g : Nat} {y : Str} {pos : Pos} (G : Good c np Γ gl X) (hg : c.gn[g]? = some y) (h1 : Gl X y) (h2 : (y == ("__debug__" : Str)) = false) : PE X (.Name y pos) (tD X.K fun _ h => (gl g).map fun d => (.dat d, h)) := by
  cases e : gl g with
  | none => exact peNone fun _ _ => rfl
  | some d =>
    obtain ⟨u, x, hm, rv, rd⟩ := G.gls g y d hg e
    exact peD (pe_glob h1 hm rv h2) fun P G ρ σ h τ H Q a r => Run.now a r (rd G)
theorem isi_boot {b : Bi} {t : Str} (h : isiN b = some t) : ∃ T, isiT b = some T ∧ bootBuiltins t = some (.type T) ∧ t ≠ "__name__" ∧ (t == ("__debug__" : Str)) = false ∧ t ∈ biNames := by
  cases b <;> first | cases h | skip
  · exact ⟨"int", rfl, by decide +kernel, by decide, by decide, by decide⟩
  · exact ⟨"bool", rfl, by decide +kernel, by decide, by decide, by decide⟩
  · exact ⟨"tuple", rfl, by decide +kernel, by decide, by decide, by decide⟩
  · exact ⟨"str", rfl, by decide +kernel, by decide, by decide, by decide⟩
  · exact ⟨"list", rfl, by decide +kernel, by decide, by decide, by decide⟩
theorem isiN_none {b : Bi} (h : isiN b = none) : isiT b = none ∧ biN b ∈ biNames := by
  cases b <;> first | exact ⟨rfl, by decide⟩ | cases h
end
end Mi
end
/-! ## MiS16 -/
section
set_option maxHeartbeats 4000000
/-! MiS16: soundness of expressions. -/
namespace Mi
open PySem PySem.Spec PyProof.Rows L2
section
variable {c : Nm} {np : Nat → Nat} {Γ : Env} {gl : Glo}
/-- names that may be set -/
def NmAll (c : Nm) (X : Cx) (s : Scope) : Prop := ∀ i y, atB c.N i y = true → (locB s y || cellB s y) = true → NmOk X i y
mutual
theorem soundTg {X : Cx} {s : Scope} (hc : X.calm = true) (hN : X.N.Nodup) (ok : NmAll c X s) : ∀ (t : Tg) (x : Expr), mTg c s t x = true → PG X x (tDG X.K t) ∧ plainB x = true
  | .name i, x, h => by
    unfold mTg at h
    split at h
    · simp only [Bool.and_eq_true] at h
      have k := ok i _ h.1.1 h.1.2
      exact ⟨gNm hN k.at' k.loc k.fn, rfl⟩
    · cases h
  | .tup ts, x, h => by
    unfold mTg at h
    split at h
    · obtain ⟨h1, h2, h3⟩ := soundTgs hc hN ok ts _ h
      exact ⟨gTp hc h2 h3 h1, rfl⟩
    · cases h
theorem soundTgs {X : Cx} {s : Scope} (hc : X.calm = true) (hN : X.N.Nodup) (ok : NmAll c X s) : ∀ (ts : List Tg) (xs : List Expr), mTgs c s ts xs = true → PGs X xs (tDGs X.K ts) ∧ xs.all plainB = true ∧ ts.length = xs.length
  | [], xs, h => by
    unfold mTgs at h
    split at h
    · exact ⟨gNl, rfl, rfl⟩
    · cases h
  | t :: ts, xs, h => by
    unfold mTgs at h
    split at h
    · rw [Bool.and_eq_true] at h
      obtain ⟨a1, a2⟩ := soundTg hc hN ok t _ h.1
      obtain ⟨b1, b2, b3⟩ := soundTgs hc hN ok ts _ h.2
      exact ⟨gCn a2 a1 b1, by rw [List.all_cons, a2, b2]; rfl, by rw [List.length_cons, List.length_cons, b3]⟩
    · cases h
end
/-- a comprehension's block is a good context -/
theorem Good.blk {X : Cx} (G : Good c np Γ gl X) {s : Shared} {H : Hp} {scope : Scope} {cl : List (Str × Addr)} {C : Addr} {fp : List Addr} (hk : scope.kind = .function) : Good c np Γ gl (X.blk s H scope (compEnvC scope cl C X.env) fp) :=
  ⟨G.eN, G.nd, ⟨G.bi.calm, G.bi.gd, G.bi.un⟩, hk, G.mgB, fun f y e => ⟨(G.fns f y e).ex⟩, G.hnp, G.gls⟩
theorem blk_names {X : Cx} (G : Good c np Γ gl X) {s : Shared} {H : Hp} {scope : Scope} {cl : List (Str × Addr)} {C : Addr} {fp : List Addr} : NmAll c (X.blk s H scope (compEnvC scope cl C X.env) fp) scope := by
  intro i y hi hl
  have e : (X.blk s H scope (compEnvC scope cl C X.env) fp).env.scope = relS scope X.env.scope := rfl
  refine ⟨?_, ?_, ?_⟩
  · show X.N[i]? = some y
    rw [G.eN]; exact of_decide_eq_true hi
  · rw [e]
    rw [Bool.or_eq_true] at hl
    rcases hl with k | k
    · unfold locB at k
      split at k
      · exact .inl (lookup_relS_keep (by decide) (by assumption))
      · cases k
    · unfold cellB at k
      split at k
      · exact .inr (lookup_relS_keep (by decide) (by assumption))
      · cases k
  · rw [e]
    rw [Bool.or_eq_true] at hl
    rcases hl with k | k
    · unfold locB at k
      split at k
      · exact .inr (lookup_relS_keep (by decide) (by assumption))
      · cases k
    · unfold cellB at k
      split at k
      · rename_i hc
        refine .inl ?_
        show (scope.names.lookup y == some .cell) = true
        rw [hc]; rfl
      · cases k
theorem own_map (N : List Str) (own : List Nat) : (own.map fun i => (N.getD i "", i)).map (·.2) = own := by
  induction own with
  | nil => rfl
  | cons i is ih => rw [List.map_cons, List.map_cons, ih]

theorem mEs_len {sc : Scope} : ∀ {es : List E} {xs : List Expr}, mEs c sc es xs = true → es.length = xs.length
  | [], xs, h => by unfold mEs at h; split at h <;> first | rfl | cases h
  | e :: es, xs, h => by
    unfold mEs at h
    split at h
    · rw [Bool.and_eq_true] at h
      rw [List.length_cons, List.length_cons, mEs_len h.2]
    · cases h
theorem denEs_len : ∀ (es : List E) (σ : Fr) (h : Hm) (vs : List Val) (h' : Hm), denEs Γ gl es σ h = some (vs, h') → vs.length = es.length
  | [], σ, h, vs, h', e => by rw [denEs] at e; cases e; rfl
  | a :: es, σ, h, vs, h', e => by
    rw [denEs] at e
    obtain ⟨p, _, e2⟩ := Option.bind_eq_some_iff.mp e
    obtain ⟨q, e3, e4⟩ := Option.map_eq_some_iff.mp e2
    cases e4
    rw [List.length_cons, List.length_cons, denEs_len es σ p.2 q.1 q.2 e3]
theorem met_count2 {h : Hm} {v : Val} {vs : List Val} (hl : 2 ≤ vs.length) : metV .count h v vs = none := by
  cases vs with
  | nil => cases hl
  | cons a vs => cases vs with
    | nil => simp at hl
    | cons b vs => cases a with
      | dat d => cases d <;> rfl
      | _ => rfl
theorem met_pop1 {h : Hm} {v : Val} {vs : List Val} (hl : 1 ≤ vs.length) : metV .pop h v vs = none := by
  cases vs with
  | nil => cases hl
  | cons a vs => cases v <;> rfl
theorem mI_arg {sc : Scope} : ∀ {i : I} {x tg : Expr}, mI c sc i x tg = true → argB x = true
  | .e e, x, tg, h => by unfold mI at h; exact mE_arg h
  | .keys e, x, tg, h => by unfold mI at h; exact mE_arg h
  | .range1 a, x, tg, h => by unfold mI at h; split at h <;> first | rfl | cases h
  | .range2 a b, x, tg, h => by unfold mI at h; split at h <;> first | rfl | cases h
  | .enum e, x, tg, h => by unfold mI at h; split at h <;> first | rfl | cases h
  | .zip a b, x, tg, h => by unfold mI at h; split at h <;> first | rfl | cases h
  | .items e, x, tg, h => by unfold mI at h; split at h <;> first | rfl | cases h
  | .vals e, x, tg, h => by unfold mI at h; split at h <;> first | rfl | cases h
mutual
theorem soundE (X : Cx) (G : Good c np Γ gl X) : ∀ (e : E) (x : Expr), mE c X.env.scope e x = true → SE Γ gl X e x
  | .int i, x, h => by
    unfold mE at h; split at h
    · cases of_decide_eq_true h
      exact SE.val (PE.of_eq (fun σ h => by rw [denE] <;> rfl) sInt) rfl
    · cases h
  | .str i, x, h => by
    unfold mE at h; split at h
    · cases of_decide_eq_true h
      exact SE.val (PE.of_eq (fun σ h => by rw [denE] <;> rfl) sStr) rfl
    · cases h
  | .bl i, x, h => by
    unfold mE at h; split at h
    · cases of_decide_eq_true h
      exact SE.val (PE.of_eq (fun σ h => by rw [denE] <;> rfl) sBl) rfl
    · cases h
  | .non, x, h => by
    unfold mE at h; split at h
    · exact SE.val (PE.of_eq (fun σ h => by rw [denE] <;> rfl) sNon) rfl
    · cases h
  | .var i, x, h => by
    unfold mE at h; split at h
    · simp only [Bool.and_eq_true] at h
      have k := okn h.2
      exact SE.val (PE.of_eq (fun σ h => by rw [denE] <;> rfl) (sVar (by rw [G.eN]; exact of_decide_eq_true h.1.1) (vis_of h.1.2) k.1 k.2.1)) rfl
    · cases h
  | .glo g, x, h => by
    unfold mE at h; split at h
    · simp only [Bool.and_eq_true] at h
      exact SE.val (PE.of_eq (fun σ h => by rw [denE] <;> rfl) (sGlo G (of_decide_eq_true h.1.1) (gl_of h.1.2) (okn h.2).1)) rfl
    · cases h
  | .op o a b, x, h => by
    unfold mE at h; split at h
    · simp only [Bool.and_eq_true, decide_eq_true_eq] at h
      obtain ⟨⟨rfl, h1⟩, h2⟩ := h
      exact SE.val (PE.of_eq (fun σ h => by rw [denE] <;> rfl) (sOp (soundE X G a _ h1).pe (soundE X G b _ h2).pe)) rfl
    · cases h
  | .neg a, x, h => by
    unfold mE at h; split at h
    · rename_i l pos
      have p : PE X (.UnaryOp .USub l pos) (tD X.K (denE Γ gl (.neg a))) := PE.of_eq (fun σ h => by rw [denE] <;> rfl) (sNeg (soundE X G a _ h).pe)
      exact ⟨p, sTest p fun _ => rfl, fun _ _ _ e => nomatch e⟩
    · cases h
  | .not a, x, h => by
    unfold mE at h; split at h
    · have i := soundE X G a _ h
      exact ⟨PE.of_eq (fun σ h => by rw [denE] <;> rfl) (sNot i.pe), PT.of_eq (fun σ h => by rw [denE] <;> rfl) (wNot i.pt), fun _ _ _ e => nomatch e⟩
    · cases h
  | .cmp o a b, x, h => by
    unfold mE at h; split at h
    · simp only [Bool.and_eq_true, decide_eq_true_eq] at h
      obtain ⟨⟨rfl, h1⟩, h2⟩ := h
      have i1 := soundE X G a _ h1
      have i2 := soundE X G b _ h2
      have k := argB.set (mE_arg h2) (cpO o)
      exact ⟨PE.of_eq (fun σ h => by rw [denE] <;> rfl) (sCmp G.bi.un k i1.pe i2.pe), PT.of_eq (fun σ h => by rw [denE] <;> rfl) (sCmpT G.bi.un k i1.pe i2.pe), fun _ _ _ e => nomatch e⟩
    · cases h
  | .isN a, x, h => by
    unfold mE at h; split at h
    · have i := soundE X G a _ h
      exact ⟨PE.of_eq (fun σ h => by rw [denE] <;> rfl) (sIsN i.pe), PT.of_eq (fun σ h => by rw [denE] <;> rfl) (sIsNT i.pe), fun _ _ _ e => nomatch e⟩
    · cases h
  | .notN a, x, h => by
    unfold mE at h; split at h
    · have i := soundE X G a _ h
      exact ⟨PE.of_eq (fun σ h => by rw [denE] <;> rfl) (sNotN i.pe), PT.of_eq (fun σ h => by rw [denE] <;> rfl) (sNotNT i.pe), fun _ _ _ e => nomatch e⟩
    · cases h
  | .chain o o' a b e, x, h => by
    unfold mE at h; split at h
    · simp only [Bool.and_eq_true, decide_eq_true_eq] at h
      obtain ⟨⟨⟨⟨rfl, rfl⟩, h1⟩, h2⟩, h3⟩ := h
      have i1 := soundE X G a _ h1
      have i2 := soundE X G b _ h2
      have i3 := soundE X G e _ h3
      have k := argB.set (mE_arg h3) (cpO o')
      exact ⟨PE.of_eq (fun σ h => by rw [denE] <;> rfl) (sChain G.bi.un k i1.pe i2.pe i3.pe), PT.of_eq (fun σ h => by rw [denE] <;> rfl) (sChainT G.bi.un k i1.pe i2.pe i3.pe), fun _ _ _ e => nomatch e⟩
    · cases h
  | .and a b, x, h => by
    unfold mE at h; split at h
    · rename_i l r rest pos
      rw [Bool.and_eq_true] at h
      have i1 := soundE X G a _ h.1
      have i2 : PE X (.BoolOp .And (r :: rest) pos) (tD X.K (denE Γ gl b)) ∧ PW X (.BoolOp .And (r :: rest) pos) (tDT X.K (denE Γ gl b)) := by
        have h2 := h.2
        split at h2
        · have i2 := soundE X G b _ h2
          exact ⟨sOne i2.pe, pw_and1 i2.pt⟩
        · have i2 := soundE X G b _ h2
          exact ⟨i2.pe, i2.pw _ _ _ rfl⟩
      have w : PW X (.BoolOp .And (l :: r :: rest) pos) (tDT X.K (denE Γ gl (.and a b))) := by
        have := wAnd i1.pt i2.2
        rw [show denE Γ gl (.and a b) = _ from funext fun σ => funext fun h => by rw [denE] <;> rfl]
        exact this
      exact ⟨PE.of_eq (fun σ h => by rw [denE] <;> rfl) (sAnd i1.pe i2.1), w.pt, fun _ _ _ _ => w⟩
    · cases h
  | .or a b, x, h => by
    unfold mE at h; split at h
    · rename_i l r rest pos
      rw [Bool.and_eq_true] at h
      have i1 := soundE X G a _ h.1
      have i2 : PE X (.BoolOp .Or (r :: rest) pos) (tD X.K (denE Γ gl b)) ∧ PW X (.BoolOp .Or (r :: rest) pos) (tDT X.K (denE Γ gl b)) := by
        have h2 := h.2
        split at h2
        · have i2 := soundE X G b _ h2
          exact ⟨sOne i2.pe, pw_or1 i2.pt⟩
        · have i2 := soundE X G b _ h2
          exact ⟨i2.pe, i2.pw _ _ _ rfl⟩
      have w : PW X (.BoolOp .Or (l :: r :: rest) pos) (tDT X.K (denE Γ gl (.or a b))) := by
        have := wOr i1.pt i2.2
        rw [show denE Γ gl (.or a b) = _ from funext fun σ => funext fun h => by rw [denE] <;> rfl]
        exact this
      exact ⟨PE.of_eq (fun σ h => by rw [denE] <;> rfl) (sOr i1.pe i2.1), w.pt, fun _ _ _ _ => w⟩
    · cases h
  | .ite t a b, x, h => by
    unfold mE at h; split at h
    · simp only [Bool.and_eq_true] at h
      have i0 := soundE X G t _ h.1.1
      have i1 := soundE X G a _ h.1.2
      have i2 := soundE X G b _ h.2
      exact ⟨PE.of_eq (fun σ h => by rw [denE] <;> rfl) (sIte i0.pt i1.pe i2.pe), PT.of_eq (fun σ h => by rw [denE] <;> rfl) (tIte i0.pt i1.pt i2.pt), fun _ _ _ e => nomatch e⟩
    · cases h
  | .tup es, x, h => by
    unfold mE at h; split at h
    · exact SE.val (PE.of_eq (fun σ h => by rw [denE] <;> rfl) (sTup (soundEs X G es _ h).1)) rfl
    · cases h
  | .tupS ks es, x, h => by
    unfold mE at h; split at h
    · exact SE.val (PE.of_eq (fun σ h => by rw [denE] <;> rfl) (sTup (soundEsS X G es ks _ h))) rfl
    · cases h
  | .sub a i, x, h => by
    unfold mE at h; split at h
    · rw [Bool.and_eq_true] at h
      exact SE.val (PE.of_eq (fun σ h => by rw [denE] <;> rfl) (sSub (argB.ix (mE_arg h.2)) (soundE X G a _ h.1).pe (soundE X G i _ h.2).pe)) rfl
    · cases h
  | .slc a lo hi, x, h => by
    unfold mE at h; split at h
    · simp only [Bool.and_eq_true] at h
      exact SE.val (PE.of_eq (fun σ h => by rw [denE] <;> rfl) (sSlc (soundE X G a _ h.1.1).pe (soundO X G lo _ h.1.2) (soundO X G hi _ h.2))) rfl
    · cases h
  | .call f es, x, h => by
    unfold mE at h; split at h
    · rename_i y _ xs _
      simp only [Bool.and_eq_true] at h
      obtain ⟨⟨⟨h1, h2⟩, h3⟩, h4⟩ := h
      have F := G.fns f y (of_decide_eq_true h1)
      have k := okn h3
      obtain ⟨i1, i2⟩ := soundEs X G es xs h4
      cases xs with
      | nil =>
        cases es with
        | nil => exact SE.val (PE.of_eq (fun σ h => by rw [denE, denEs]; rfl) (sCall0 F G.bi.gd (G.hnp f) (gl_of h2) k.1)) rfl
        | cons e es => unfold mEs at h4; cases h4
      | cons e es => exact SE.val (PE.of_eq (fun σ h => by rw [denE] <;> rfl) (sCall F G.bi.gd (G.hnp f) (gl_of h2) k.1 i2 i1)) rfl
    · cases h
  | .bi b es, x, h => by
    unfold mE at h; split at h
    · rename_i y _ xs _
      simp only [Bool.and_eq_true, decide_eq_true_eq] at h
      obtain ⟨⟨rfl, h2⟩, h3⟩ := h
      split at h3
      · rename_i hb
        obtain ⟨k1, k2⟩ := isiN_none hb
        obtain ⟨i1, i2⟩ := soundEs X G es xs h3
        cases xs with
        | nil =>
          cases es with
          | nil => exact SE.val (peNone fun σ h => by rw [denE, denEs]; cases b <;> rfl) rfl
          | cons e es => unfold mEs at h3; cases h3
        | cons e es => exact SE.val (PE.of_eq (fun σ h => by rw [denE] <;> rfl) (sBi G.bi k1 (gl_of h2) (G.mgB _ k2) i2 i1)) rfl
      · rename_i t hb
        obtain ⟨T, k1, k2, k3, k4, k5⟩ := isi_boot hb
        split at h3
        · rename_i e l z _
          simp only [Bool.and_eq_true, decide_eq_true_eq] at h3
          obtain ⟨⟨h4, rfl⟩, h5⟩ := h3
          have eb : biN b = "isinstance" := by cases b <;> first | rfl | cases hb
          rw [eb] at h2 ⊢
          refine SE.val (PE.of_eq (fun σ h => ?_) (sIsi k1 (gl_of h2) (G.mgB _ (by decide)) (gl_of h5) (G.mgB _ k5) k2 k3 k4 (argB.plain (mE_arg h4)) (soundE X G e _ h4).pe)) rfl
          rw [denE, denEs]
          cases denE Γ gl e σ h with
          | none => rfl
          | some p =>
            have e0 : denEs Γ gl [] σ p.2 = some ([], p.2) := by rw [denEs]
            simp only [Option.bind_some, e0, Option.map_some]
        · cases h3
    · cases h
  | .met m o es, x, h => by
    unfold mE at h; split at h
    · rename_i l n ap xs cp
      simp only [Bool.and_eq_true, decide_eq_true_eq] at h
      obtain ⟨⟨⟨⟨⟨rfl, h2⟩, h3⟩, h4⟩, h5⟩, h6⟩ := h
      have i0 := (soundE X G o _ h4).pe
      obtain ⟨i1, i2⟩ := soundEs X G es xs h5
      refine SE.val ?_ rfl
      have hln := mEs_len h5
      have hno : (∀ h v vs, vs.length = xs.length → metV m h v vs = none) → PE X (.Call (.Attribute l (mtN m) ap) xs [] cp) (tD X.K (denE Γ gl (.met m o es))) := fun hn => peNone fun σ h => by
        rw [denE]
        cases denE Γ gl o σ h with
        | none => rfl
        | some p =>
          show (if mtOk m p.2 p.1 = true then _ else _) = none
          split
          · cases hd : denEs Γ gl es σ p.2 with
            | none => rfl
            | some q => exact hn _ _ _ ((denEs_len es σ p.2 q.1 q.2 hd).trans hln)
          · rfl
      have hni : es = [] → (∀ h v, metV m h v [] = none) → PE X (.Call (.Attribute l (mtN m) ap) xs [] cp) (tD X.K (denE Γ gl (.met m o es))) := fun ee hn => peNone fun σ h => by
        subst ee
        rw [denE]
        cases denE Γ gl o σ h with
        | none => rfl
        | some p =>
          show (if mtOk m p.2 p.1 = true then _ else _) = none
          split
          · rw [denEs]; exact hn _ _
          · rfl
      cases xs with
      | nil =>
        cases es with
        | cons e es => unfold mEs at h5; cases h5
        | nil =>
          cases m with
          | pop => exact PE.of_eq (fun σ h => by
              rw [denE]
              cases denE Γ gl o σ h with
              | none => rfl
              | some p =>
                show (if mtOk .pop p.2 p.1 = true then (denEs Γ gl [] σ p.2).bind _ else none) = _
                rw [denEs]; rfl) (sMtL0 PySem.F.slot_list_pop PySem.F.type_list_pop mt_pop h2 h3 i0 (fun _ _ => rfl) pop_ok)
          | append => exact hni rfl fun h v => by cases v <;> rfl
          | popAt => exact hni rfl fun h v => by cases v <;> rfl
          | count => exact hni rfl fun h v => by cases v <;> rfl
          | remove => exact hni rfl fun h v => by cases v <;> rfl
          | get => exact hni rfl fun h v => by cases v <;> rfl
          | get2 => exact hni rfl fun h v => by cases v <;> rfl
          | index => exact hni rfl fun h v => by cases v <;> rfl
          | extend => exact hni rfl fun h v => by cases v <;> rfl
      | cons e es' =>
        have hp := i2
        cases m with
        | append => exact PE.of_eq (fun σ h => by rw [denE] <;> rfl) (sMtL PySem.F.slot_list_append PySem.F.type_list_append mt_append h2 h3 i2 h6 i0 i1 (fun _ _ => rfl) append_ok)
        | popAt => exact PE.of_eq (fun σ h => by rw [denE] <;> rfl) (sMtL PySem.F.slot_list_pop PySem.F.type_list_pop mt_popAt h2 h3 i2 h6 i0 i1 (fun _ _ => rfl) popAt_ok)
        | remove => exact PE.of_eq (fun σ h => by rw [denE] <;> rfl) (sMtL PySem.F.slot_list_remove PySem.F.type_list_remove (mtRem G.bi.un) h2 h3 i2 h6 i0 i1 (fun _ _ => rfl) remove_ok)
        | count =>
          cases es' with
          | nil => exact PE.of_eq (fun σ h => by rw [denE] <;> rfl) (sCount h2 h3 (by rw [List.all_cons, Bool.and_eq_true] at i2; exact i2.1) i0 i1)
          | cons e2 es2 => exact hno fun h v vs hl => met_count2 (by rw [hl, List.length_cons, List.length_cons]; omega)
        | pop => exact hno fun h v vs hl => met_pop1 (by rw [hl, List.length_cons]; omega)
        | get => exact hno fun h v vs _ => by cases v <;> rfl
        | get2 => exact hno fun h v vs _ => by cases v <;> rfl
        | index => exact hno fun h v vs _ => by cases v <;> rfl
        | extend => exact hno fun h v vs _ => by cases v <;> rfl
    · cases h
  | .fz n, x, h => by
    unfold mE at h
    exact SE.val (PE.of_eq (fun σ h => by rw [denE] <;> rfl) (sFz (soundN X G n x h))) (mN_arg h).2
  | .nw n, x, h => by
    unfold mE at h
    rw [Bool.and_eq_true] at h
    exact SE.val (PE.of_eq (fun σ h => by rw [denE] <;> rfl) (sNw (soundN X G n x h.2))) (mN_arg h.2).2
  | .idx o a, x, h => by
    unfold mE at h; split at h
    · simp only [Bool.and_eq_true, decide_eq_true_eq] at h
      obtain ⟨⟨⟨⟨rfl, h2⟩, h3⟩, h4⟩, h5⟩ := h
      exact SE.val (PE.of_eq (fun σ h => by rw [denE] <;> rfl) (sIdx h2 h3 (argB.plain (mE_arg h5)) (soundE X G o _ h4).pe (soundE X G a _ h5).pe)) rfl
    · cases h
  | .isT b neg a, x, h => by
    unfold mE at h; split at h
    · rename_i l j k p1 pos
      simp only [Bool.and_eq_true, decide_eq_true_eq] at h
      obtain ⟨⟨rfl, rfl⟩, h1⟩ := h
      obtain ⟨k1, k2⟩ := sIsT (b := b) (neg := false) (k := k) (p1 := p1) (pos := pos) (soundE X G a _ h1).pe
      exact ⟨PE.of_eq (fun σ h => by rw [denE] <;> rfl) k1, PT.of_eq (fun σ h => by rw [denE] <;> rfl) k2, fun _ _ _ e => nomatch e⟩
    · rename_i l j k p1 pos
      simp only [Bool.and_eq_true, decide_eq_true_eq] at h
      obtain ⟨⟨rfl, rfl⟩, h1⟩ := h
      obtain ⟨k1, k2⟩ := sIsT (b := b) (neg := true) (k := k) (p1 := p1) (pos := pos) (soundE X G a _ h1).pe
      exact ⟨PE.of_eq (fun σ h => by rw [denE] <;> rfl) k1, PT.of_eq (fun σ h => by rw [denE] <;> rfl) k2, fun _ _ _ e => nomatch e⟩
    · cases h
  | .dsub a i, x, h => by
    unfold mE at h; split at h
    · rw [Bool.and_eq_true] at h
      exact SE.val (PE.of_eq (fun σ h => by rw [denE] <;> rfl) (sDSub G.bi.un (argB.ix (mE_arg h.2)) (soundE X G a _ h.1).pe (soundE X G i _ h.2).pe)) rfl
    · cases h
  | .dget o a, x, h => by
    unfold mE at h; split at h
    · simp only [Bool.and_eq_true, decide_eq_true_eq] at h
      obtain ⟨⟨⟨⟨rfl, h2⟩, h3⟩, h4⟩, h5⟩ := h
      exact SE.val (PE.of_eq (fun σ h => by rw [denE] <;> rfl) (sDGet G.bi.un h2 h3 (argB.plain (mE_arg h5)) (soundE X G o _ h4).pe (soundE X G a _ h5).pe)) rfl
    · cases h
  | .dget2 o a b, x, h => by
    unfold mE at h; split at h
    · simp only [Bool.and_eq_true, decide_eq_true_eq] at h
      obtain ⟨⟨⟨⟨⟨rfl, h2⟩, h3⟩, h4⟩, h5⟩, h6⟩ := h
      exact SE.val (PE.of_eq (fun σ h => by rw [denE] <;> rfl) (sDGet2 G.bi.un h2 h3 (argB.plain (mE_arg h5)) (argB.plain (mE_arg h6)) (soundE X G o _ h4).pe (soundE X G a _ h5).pe (soundE X G b _ h6).pe)) rfl
    · cases h
  | .din a b, x, h => by
    unfold mE at h; split at h
    · rw [Bool.and_eq_true] at h
      obtain ⟨k1, k2⟩ := sDIn (pos := by assumption) G.bi.un (argB.set (mE_arg h.2) .In) (soundE X G a _ h.1).pe (soundE X G b _ h.2).pe
      exact ⟨PE.of_eq (fun σ h => by rw [denE] <;> rfl) k1, PT.of_eq (fun σ h => by rw [denE] <;> rfl) k2, fun _ _ _ e => nomatch e⟩
    · cases h
  | .dnin a b, x, h => by
    unfold mE at h; split at h
    · rw [Bool.and_eq_true] at h
      obtain ⟨k1, k2⟩ := sDNin (pos := by assumption) G.bi.un (argB.set (mE_arg h.2) .NotIn) (soundE X G a _ h.1).pe (soundE X G b _ h.2).pe
      exact ⟨PE.of_eq (fun σ h => by rw [denE] <;> rfl) k1, PT.of_eq (fun σ h => by rw [denE] <;> rfl) k2, fun _ _ _ e => nomatch e⟩
    · cases h
theorem soundEs (X : Cx) (G : Good c np Γ gl X) : ∀ (es : List E) (xs : List Expr), mEs c X.env.scope es xs = true → PA X xs (tDA X.K (denEs Γ gl es)) ∧ xs.all plainB = true
  | [], xs, h => by
    unfold mEs at h; split at h
    · refine ⟨?_, rfl⟩
      rw [show denEs Γ gl [] = fun _ h => some ([], h) from funext fun σ => funext fun h => by rw [denEs] <;> rfl]
      exact sNil
    · cases h
  | e :: es, xs, h => by
    unfold mEs at h; split at h
    · rw [Bool.and_eq_true] at h
      obtain ⟨i1, i2⟩ := soundEs X G es _ h.2
      have k := argB.plain (mE_arg h.1)
      refine ⟨?_, by rw [List.all_cons, k, i2]; rfl⟩
      rw [show denEs Γ gl (e :: es) = _ from funext fun σ => funext fun h => by rw [denEs] <;> rfl]
      exact sCons k (soundE X G e _ h.1).pe i1
    · cases h
theorem soundEsS (X : Cx) (G : Good c np Γ gl X) : ∀ (es : List E) (ks : List Bool) (xs : List Expr), mEsS c X.env.scope ks es xs = true → PA X xs (tDA X.K (denEsS Γ gl ks es))
  | [], ks, xs, h => by
    cases ks with
    | nil =>
      unfold mEsS at h; split at h
      · rw [show denEsS Γ gl [] [] = fun _ h => some ([], h) from funext fun σ => funext fun h => by rw [denEsS] <;> rfl]
        exact sNil
      · cases h
    | cons b ks => cases b <;> (unfold mEsS at h; cases h)
  | e :: es, ks, xs, h => by
    cases ks with
    | nil => unfold mEsS at h; cases h
    | cons b ks =>
      cases b with
      | false =>
        unfold mEsS at h; split at h
        · rw [Bool.and_eq_true] at h
          rw [show denEsS Γ gl (false :: ks) (e :: es) = _ from funext fun σ => funext fun h => by rw [denEsS] <;> rfl]
          exact sCons (argB.plain (mE_arg h.1)) (soundE X G e _ h.1).pe (soundEsS X G es ks _ h.2)
        · cases h
      | true =>
        unfold mEsS at h; split at h
        · rw [Bool.and_eq_true] at h
          rw [show denEsS Γ gl (true :: ks) (e :: es) = _ from funext fun σ => funext fun h => by rw [denEsS] <;> rfl]
          exact sStar (soundE X G e _ h.1).pe (soundEsS X G es ks _ h.2)
        · cases h
theorem soundO (X : Cx) (G : Good c np Γ gl X) : ∀ (o : Option E) (x : Option Expr), mO c X.env.scope o x = true → PO X x (tDO X.K (denO Γ gl o))
  | none, x, h => by
    unfold mO at h; split at h
    · rw [show denO Γ gl none = fun _ h => some (none, h) from funext fun σ => funext fun h => by rw [denO] <;> rfl]
      exact oNone
    · cases h
  | some e, x, h => by
    unfold mO at h; split at h
    · rw [show denO Γ gl (some e) = _ from funext fun σ => funext fun h => by rw [denO] <;> rfl]
      exact oSome (soundE X G e _ h).pe
    · cases h
theorem soundC (X : Cx) (G : Good c np Γ gl X) : ∀ (o : Option E) (x : List Expr), mC c X.env.scope o x = true → PTs X x (tDC X.K (denC Γ gl o))
  | none, x, h => by
    unfold mC at h; split at h
    · rw [show denC Γ gl none = fun _ h => some (true, h) from funext fun σ => funext fun h => by rw [denC] <;> rfl]
      exact cNone
    · cases h
  | some e, x, h => by
    unfold mC at h; split at h
    · rw [show denC Γ gl (some e) = _ from funext fun σ => funext fun h => by rw [denC] <;> rfl]
      exact cSome (soundE X G e _ h).pt
    · cases h
theorem soundN (X : Cx) (G : Good c np Γ gl X) : ∀ (n : N) (x : Expr), mN c X.env.scope n x = true → PE X x (tDN X.K (denN Γ gl n))
  | .lst es, x, h => by
    unfold mN at h; split at h
    · rw [show denN Γ gl (.lst es) = _ from funext fun σ => funext fun h => by rw [denN] <;> rfl]
      exact nLst (soundEs X G es _ h).1
    · cases h
  | .comp elt t it cond own, x, h => by
    unfold mN at h; split at h
    · rename_i y tg iter ifs ai s _
      simp only [Bool.and_eq_true, decide_eq_true_eq] at h
      obtain ⟨⟨⟨⟨⟨⟨rfl, h1⟩, h2⟩, h3⟩, h4⟩, h5⟩, h6⟩ := h
      have ok : BlkOk X.N X.env.scope s (own.map fun i => (c.N.getD i "", i)) := by rw [G.eN]; exact blkOk_by h2
      obtain ⟨i1, i2⟩ := soundI X G it iter tg h3
      have k := nComp (t := t) (dC := denC Γ gl cond) (dE := denE Γ gl elt) (pos := by assumption) G.bi.calm G.nd (by rw [own_map]; exact h1) i1 ok (fun s' H C cl fp => (soundTg (X := X.blk s' H s (compEnvC s cl C X.env) fp) G.bi.calm G.nd (blk_names G) t tg h4).1)
        (fun s' H C cl fp => soundC _ (G.blk ok.kind) cond ifs h5) (fun s' H C cl fp => (soundE _ (G.blk ok.kind) elt y h6).pe) (argB.fold i2)
      rw [own_map] at k
      rw [show denN Γ gl (.comp elt t it cond own) = _ from funext fun σ => funext fun h => by rw [denN] <;> rfl]
      exact k
    · cases h
  | .list e, x, h => by
    unfold mN at h; split at h
    · simp only [Bool.and_eq_true, decide_eq_true_eq] at h
      obtain ⟨⟨rfl, h2⟩, h3⟩ := h
      rw [show denN Γ gl (.list e) = _ from funext fun σ => funext fun h => by rw [denN] <;> rfl]
      exact nList (gl_of h2) (G.mgB _ (by decide)) (argB.plain (mE_arg h3)) (soundE X G e _ h3).pe
    · cases h
  | .listR a b, x, h => by
    unfold mN at h; split at h
    · simp only [Bool.and_eq_true, decide_eq_true_eq] at h
      obtain ⟨⟨⟨⟨⟨rfl, rfl⟩, h2⟩, h3⟩, h4⟩, h5⟩ := h
      rw [show denN Γ gl (.listR a b) = _ from funext fun σ => funext fun h => by rw [denN] <;> rfl]
      exact nListR G.bi (gl_of h2) (G.mgB _ (by decide)) (gl_of h3) (G.mgB _ (by decide)) (argB.plain (mE_arg h4)) (argB.plain (mE_arg h5)) (soundE X G a _ h4).pe (soundE X G b _ h5).pe
    · cases h
  | .sorted e, x, h => by
    unfold mN at h; split at h
    · simp only [Bool.and_eq_true, decide_eq_true_eq] at h
      obtain ⟨⟨rfl, h2⟩, h3⟩ := h
      rw [show denN Γ gl (.sorted e) = _ from funext fun σ => funext fun h => by rw [denN] <;> rfl]
      exact nSorted (gl_of h2) (G.mgB _ (by decide)) (argB.plain (mE_arg h3)) (soundE X G e _ h3).pe
    · cases h
  | .add a b, x, h => by
    unfold mN at h; split at h
    · rw [Bool.and_eq_true] at h
      rw [show denN Γ gl (.add a b) = _ from funext fun σ => funext fun h => by rw [denN] <;> rfl]
      exact nAdd (soundE X G a _ h.1).pe (soundE X G b _ h.2).pe
    · cases h
  | .rep a b, x, h => by
    unfold mN at h; split at h
    · rw [Bool.and_eq_true] at h
      rw [show denN Γ gl (.rep a b) = _ from funext fun σ => funext fun h => by rw [denN] <;> rfl]
      exact nRep (soundE X G a _ h.1).pe (soundE X G b _ h.2).pe
    · cases h
  | .slc a lo hi, x, h => by
    unfold mN at h; split at h
    · simp only [Bool.and_eq_true] at h
      rw [show denN Γ gl (.slc a lo hi) = _ from funext fun σ => funext fun h => by rw [denN] <;> rfl]
      exact nSlc (soundE X G a _ h.1.1).pe (soundO X G lo _ h.1.2) (soundO X G hi _ h.2)
    · cases h
  | .dict0, x, h => by
    unfold mN at h; split at h
    · rw [show denN Γ gl .dict0 = _ from funext fun σ => funext fun h => by rw [denN] <;> rfl]
      exact nDict0
    · cases h
  | .comp2 elt t it cond t1 it1 cond1 own own1, x, h => by
    unfold mN at h; split at h
    · rename_i y tg iter ifs ai tg1 iter1 ifs1 ai1 s _
      simp only [Bool.and_eq_true, decide_eq_true_eq] at h
      obtain ⟨⟨⟨⟨⟨⟨⟨⟨⟨⟨⟨⟨rfl, rfl⟩, k1⟩, k2⟩, k3⟩, k4⟩, k5⟩, k6⟩, k7⟩, k8⟩, k9⟩, k10⟩, k11⟩ := h
      have ok : BlkOk X.N X.env.scope s (own.map fun i => (c.N.getD i "", i)) := by rw [G.eN]; exact blkOk_by k4
      obtain ⟨i1, i2⟩ := soundI X G it iter tg k5
      have i3 : ∀ (s' : Shared) (H : Hp) (C : Addr) (cl : List (Str × Addr)) (fp : List Addr), PI (X.blk s' H s (compEnvC s cl C X.env) fp) tg1 iter1 (tDI X.K (denI Γ gl it1)) ∧ argB iter1 = true := fun s' H C cl fp => soundI _ (G.blk ok.kind) it1 iter1 tg1 k8
      have k := nComp2 (t := t) (t1 := t1) (own1 := own1) (dC := denC Γ gl cond) (dC1 := denC Γ gl cond1) (dE := denE Γ gl elt) (pos := by assumption) G.bi.calm G.nd (by rw [own_map]; exact k1) k2 (by
          rw [own_map]
          intro i hi
          exact of_decide_eq_true (List.all_eq_true.mp k3 i hi)) i1 ok (fun s' H C cl fp => (soundTg (X := X.blk s' H s (compEnvC s cl C X.env) fp) G.bi.calm G.nd (blk_names G) t tg k6).1)
        (fun s' H C cl fp => soundC _ (G.blk ok.kind) cond ifs k7) (fun s' H C cl fp => (i3 s' H C cl fp).1) (fun s' H C cl fp => (soundTg (X := X.blk s' H s (compEnvC s cl C X.env) fp) G.bi.calm G.nd (blk_names G) t1 tg1 k9).1)
        (fun s' H C cl fp => soundC _ (G.blk ok.kind) cond1 ifs1 k10) (fun s' H C cl fp => (soundE _ (G.blk ok.kind) elt y k11).pe) (argB.fold i2) (fun env => argB.fold (mI_arg k8))
      rw [own_map] at k
      rw [show denN Γ gl (.comp2 elt t it cond t1 it1 cond1 own own1) = _ from funext fun σ => funext fun h => by rw [denN] <;> rfl]
      exact k
    · cases h
  | .dcomp kx vx t it cond own, x, h => by
    unfold mN at h; split at h
    · rename_i y z tg iter ifs ai s _
      simp only [Bool.and_eq_true, decide_eq_true_eq] at h
      obtain ⟨⟨⟨⟨⟨⟨⟨rfl, h1⟩, h2⟩, h3⟩, h4⟩, h5⟩, h6⟩, h7⟩ := h
      have ok : BlkOk X.N X.env.scope s (own.map fun i => (c.N.getD i "", i)) := by rw [G.eN]; exact blkOk_by h2
      obtain ⟨i1, i2⟩ := soundI X G it iter tg h3
      have k := nDComp (t := t) (dC := denC Γ gl cond) (dK := denE Γ gl kx) (dV := denE Γ gl vx) (pos := by assumption) G.bi.calm G.nd (by rw [own_map]; exact h1) i1 ok (fun s' H C cl fp => (soundTg (X := X.blk s' H s (compEnvC s cl C X.env) fp) G.bi.calm G.nd (blk_names G) t tg h4).1)
        (fun s' H C cl fp => soundC _ (G.blk ok.kind) cond ifs h5) (fun s' H C cl fp => (soundE _ (G.blk ok.kind) kx y h6).pe) (fun s' H C cl fp => (soundE _ (G.blk ok.kind) vx z h7).pe) (argB.fold i2)
      rw [own_map] at k
      rw [show denN Γ gl (.dcomp kx vx t it cond own) = _ from funext fun σ => funext fun h => by rw [denN] <;> rfl]
      exact k
    · cases h
  | .listD e, x, h => by
    unfold mN at h; split at h
    · simp only [Bool.and_eq_true, decide_eq_true_eq] at h
      obtain ⟨⟨rfl, h2⟩, h3⟩ := h
      rw [show denN Γ gl (.listD e) = _ from funext fun σ => funext fun h => by rw [denN] <;> rfl]
      exact nListD G.bi.calm (gl_of h2) (G.mgB _ (by decide)) (argB.plain (mE_arg h3)) (soundE X G e _ h3).pe
    · cases h
  | .listR1 a, x, h => by
    unfold mN at h; split at h
    · simp only [Bool.and_eq_true, decide_eq_true_eq] at h
      obtain ⟨⟨⟨⟨rfl, rfl⟩, h2⟩, h3⟩, h4⟩ := h
      rw [show denN Γ gl (.listR1 a) = _ from funext fun σ => funext fun h => by rw [denN] <;> rfl]
      exact nListR1 G.bi (gl_of h2) (G.mgB _ (by decide)) (gl_of h3) (G.mgB _ (by decide)) (argB.plain (mE_arg h4)) (soundE X G a _ h4).pe
    · cases h
  | .sortedD e, x, h => by
    unfold mN at h; split at h
    · simp only [Bool.and_eq_true, decide_eq_true_eq] at h
      obtain ⟨⟨rfl, h2⟩, h3⟩ := h
      rw [show denN Γ gl (.sortedD e) = _ from funext fun σ => funext fun h => by rw [denN] <;> rfl]
      exact nSortedD G.bi.calm (gl_of h2) (G.mgB _ (by decide)) (argB.plain (mE_arg h3)) (soundE X G e _ h3).pe
    · cases h
theorem soundI (X : Cx) (G : Good c np Γ gl X) : ∀ (i : I) (x tg : Expr), mI c X.env.scope i x tg = true → PI X tg x (tDI X.K (denI Γ gl i)) ∧ argB x = true
  | .e e, x, tg, h => by
    unfold mI at h
    rw [show denI Γ gl (.e e) = _ from funext fun σ => funext fun h => by rw [denI] <;> rfl]
    exact ⟨iE (soundE X G e _ h).pe, mE_arg h⟩
  | .range1 a, x, tg, h => by
    unfold mI at h; split at h
    · simp only [Bool.and_eq_true, decide_eq_true_eq] at h
      obtain ⟨⟨rfl, h2⟩, h3⟩ := h
      rw [show denI Γ gl (.range1 a) = _ from funext fun σ => funext fun h => by rw [denI] <;> rfl]
      exact ⟨iRange1 (gl_of h2) (G.mgB _ (by decide)) (argB.plain (mE_arg h3)) (soundE X G a _ h3).pe, rfl⟩
    · cases h
  | .range2 a b, x, tg, h => by
    unfold mI at h; split at h
    · simp only [Bool.and_eq_true, decide_eq_true_eq] at h
      obtain ⟨⟨⟨rfl, h2⟩, h3⟩, h4⟩ := h
      rw [show denI Γ gl (.range2 a b) = _ from funext fun σ => funext fun h => by rw [denI] <;> rfl]
      exact ⟨iRange2 (gl_of h2) (G.mgB _ (by decide)) (argB.plain (mE_arg h3)) (argB.plain (mE_arg h4)) (soundE X G a _ h3).pe (soundE X G b _ h4).pe, rfl⟩
    · cases h
  | .enum e, x, tg, h => by
    unfold mI at h; split at h
    · simp only [Bool.and_eq_true, decide_eq_true_eq] at h
      obtain ⟨⟨⟨rfl, h2⟩, h3⟩, h4⟩ := h
      rw [show denI Γ gl (.enum e) = _ from funext fun σ => funext fun h => by rw [denI] <;> rfl]
      split at h4
      · exact ⟨iEnum' (gl_of h2) (G.mgB _ (by decide)) (argB.plain (mE_arg h3)) (soundE X G e _ h3).pe, rfl⟩
      · cases h4
    · cases h
  | .zip a b, x, tg, h => by
    unfold mI at h; split at h
    · simp only [Bool.and_eq_true, decide_eq_true_eq] at h
      obtain ⟨⟨⟨⟨rfl, h2⟩, h3⟩, h4⟩, h5⟩ := h
      rw [show denI Γ gl (.zip a b) = _ from funext fun σ => funext fun h => by rw [denI] <;> rfl]
      split at h5
      · exact ⟨iZip' (gl_of h2) (G.mgB _ (by decide)) (argB.plain (mE_arg h3)) (argB.plain (mE_arg h4)) (soundE X G a _ h3).pe (soundE X G b _ h4).pe, rfl⟩
      · cases h5
    · cases h
  | .items e, x, tg, h => by
    unfold mI at h; split at h
    · simp only [Bool.and_eq_true, decide_eq_true_eq] at h
      obtain ⟨⟨⟨⟨rfl, h2⟩, h3⟩, h4⟩, h5⟩ := h
      rw [show denI Γ gl (.items e) = _ from funext fun σ => funext fun h => by rw [denI] <;> rfl]
      split at h5
      · exact ⟨iItems' h2 h3 (soundE X G e _ h4).pe, rfl⟩
      · cases h5
    · cases h
  | .keys e, x, tg, h => by
    unfold mI at h
    rw [show denI Γ gl (.keys e) = _ from funext fun σ => funext fun h => by rw [denI] <;> rfl]
    exact ⟨iKeys' (soundE X G e _ h).pe, mE_arg h⟩
  | .vals e, x, tg, h => by
    unfold mI at h; split at h
    · simp only [Bool.and_eq_true, decide_eq_true_eq] at h
      obtain ⟨⟨⟨rfl, h2⟩, h3⟩, h4⟩ := h
      rw [show denI Γ gl (.vals e) = _ from funext fun σ => funext fun h => by rw [denI] <;> rfl]
      exact ⟨iVals' h2 h3 (soundE X G e _ h4).pe, rfl⟩
    · cases h
end
end
end Mi
end
/-! ## MiS17 -/
section
set_option maxHeartbeats 4000000
/-! MiS17: soundness of statements. -/
namespace Mi
open PySem PySem.Spec PyProof.Rows L2
section
variable {c : Nm} {np : Nat → Nat} {Γ : Env} {gl : Glo} {X : Cx}
theorem swP_ok {env : PySem.Env} {ts vs : List Expr} {k1 k2 : Nat} {p1 p2 : Pos} {r : Option (List Str)} (hk : env.scope.kind = .function) (h : swP env.scope ts vs = some r) : swappedStores [.Tuple ts k1 p1] (.Tuple vs k2 p2) env = pure r := by
  have hb : (env.blockKind != .function) = false := by unfold Env.blockKind; rw [hk]; rfl
  have hko : ∀ id, env.kindOf id = env.scope.names.lookup id := fun _ => rfl
  unfold swP at h
  unfold swappedStores
  simp only [hb, Bool.or_false, hko]
  split at h
  · cases h
    rename_i h1
    simp only [h1, ↓reduceIte]
  · rename_i h1
    simp only [h1, Bool.false_eq_true, ↓reduceIte]
    split at h
    · rename_i h2
      cases h
      split
      · rfl
      · rename_i g; exact absurd h2 g
    · rename_i h2
      split
      · rename_i g; exact absurd g h2
      split at h
      · rename_i h3
        cases h
        split
        · rfl
        · rename_i g; exact absurd h3 g
      · rename_i h3
        split
        · rename_i g; exact absurd g h3
        split at h
        · rename_i h4
          cases h
          split
          · rfl
          · rename_i g; exact absurd h4 g
        · rename_i h4
          split
          · rename_i g; exact absurd g h4
          split at h
          · cases h
          · rename_i h5
            split
            · rename_i g; exact absurd g h5
            cases h
            rfl
/-- a def's own context -/
structure GoodS (c : Nm) (np : Nat → Nat) (Γ : Env) (gl : Glo) (X : Cx) : Prop where
  good : Good c np Γ gl X
  fn : ∀ y, X.fn y = true
  own : PassesOwn (model X.prog X.w) X.A X.env X.xe
theorem loc_of {s : Scope} {y : Str} (h : locB s y = true) : s.names.lookup y = some .local := by
  unfold locB at h; split at h
  · assumption
  · cases h
theorem lc_of {s : Scope} {y : Str} (h : (locB s y || cellB s y) = true) : Loc s y := by
  rw [Bool.or_eq_true] at h
  rcases h with k | k
  · exact .inl (loc_of k)
  · unfold cellB at k; split at k
    · exact .inr (by assumption)
    · cases k
theorem GoodS.names (G : GoodS c np Γ gl X) : NmAll c X X.env.scope := fun i y h1 h2 => ⟨by rw [G.good.eN]; exact of_decide_eq_true h1, lc_of h2, .inl (G.fn y)⟩
theorem nms_ok (G : GoodS c np Γ gl X) : ∀ {is : List Nat} {ts : List Expr}, mNms c X.env.scope is ts = true → Paired (fun i e => ∃ y p, e = Expr.Name y p ∧ NmOk X i y) is ts
  | [], ts, h => by unfold mNms at h; split at h <;> first | exact .nil | cases h
  | i :: is, ts, h => by
    unfold mNms at h
    split at h
    · simp only [Bool.and_eq_true] at h
      exact .cons ⟨_, _, rfl, G.names i _ h.1.1.1 h.1.1.2⟩ (nms_ok G h.2)
    · cases h
theorem sw_no {x : Expr} {tg : Option Expr} {n : Nat} (h : compB x = false) : swapsWith x tg n X.env = pure false := by cases x <;> first | rfl | cases h
theorem sw_sub {x r q : Expr} {p : Pos} {n : Nat} : swapsWithSole [.Subscript r q p] x n X.env = pure false := by cases x <;> rfl
theorem sw_sub1 {x r q : Expr} {p : Pos} (n : Nat) (_ : Unit) : swapsWith x (some (.Subscript r q p)) n X.env = pure false := by cases x <;> rfl
theorem sw_tup {x : Expr} {es : List Expr} {k : Nat} {p : Pos} {n : Nat} : swapsWithSole [.Tuple es k p] x n X.env = pure false := by cases x <;> rfl
theorem ss_sub {x r q : Expr} {p : Pos} : swappedStores [.Subscript r q p] x X.env = pure none := by cases x <;> rfl
theorem ss_name {x : Expr} {y : Str} {p : Pos} : swappedStores [.Name y p] x X.env = pure none := by cases x <;> rfl
theorem ss_tup {x : Expr} {es : List Expr} {k : Nat} {p : Pos} (h : notTup x = true) : swappedStores [.Tuple es k p] x X.env = pure none := by cases x <;> first | rfl | cases h
theorem compB_lc {sc : Scope} {e : E} {x : Expr} (h : mE c sc e x = true) (hc : compB x = true) : ∃ n, (e = .fz n ∨ (e = .nw n ∧ nwOk n = true)) ∧ mN c sc n x = true := by
  cases e with
  | fz n => unfold mE at h; exact ⟨n, .inl rfl, h⟩
  | nw n => unfold mE at h; rw [Bool.and_eq_true] at h; exact ⟨n, .inr ⟨rfl, h.1⟩, h.2⟩
  | _ => unfold mE at h; split at h <;> first | cases hc | cases h
theorem comp_lst {elt : E} {t : Tg} {it : I} {cond : Option E} {own : List Nat} {σ : Fr} {h : Hm} {ob : Ob} {h' : Hm} (e : denN Γ gl (.comp elt t it cond own) σ h = some (ob, h')) : ∃ vs, ob = .lst vs := by
  rw [denN] at e
  obtain ⟨p, _, e⟩ := Option.bind_eq_some_iff.mp e
  obtain ⟨q, _, e⟩ := Option.map_eq_some_iff.mp e
  cases e
  exact ⟨_, rfl⟩
theorem comp2_lst {elt : E} {t t1 : Tg} {it it1 : I} {cond cond1 : Option E} {own own1 : List Nat} {σ : Fr} {h : Hm} {ob : Ob} {h' : Hm} (e : denN Γ gl (.comp2 elt t it cond t1 it1 cond1 own own1) σ h = some (ob, h')) : ∃ vs, ob = .lst vs := by
  rw [denN] at e
  obtain ⟨p, _, e⟩ := Option.bind_eq_some_iff.mp e
  obtain ⟨q, _, e⟩ := Option.bind_eq_some_iff.mp e
  split at e
  · cases e; exact ⟨_, rfl⟩
  · cases e
theorem dcomp_dct {k v : E} {t : Tg} {it : I} {cond : Option E} {own : List Nat} {σ : Fr} {h : Hm} {ob : Ob} {h' : Hm} (e : denN Γ gl (.dcomp k v t it cond own) σ h = some (ob, h')) : ∃ vs, ob = .dct vs := by
  rw [denN] at e
  obtain ⟨p, _, e⟩ := Option.bind_eq_some_iff.mp e
  obtain ⟨q, _, e⟩ := Option.map_eq_some_iff.mp e
  cases e
  exact ⟨_, rfl⟩
/-- name = value -/
theorem soundAsg (G : GoodS c np Γ gl X) {t : Tg} {e : E} {tg v : Expr} {pos : Pos} (h1 : mTg c X.env.scope t tg = true) (h2 : mE c X.env.scope e v = true) (h3 : (notTup tg || notTup v) = true) :
    PS X (.Assign [tg] v pos) (tDS X.K fun σ h => (denE Γ gl e σ h).bind fun p => (tgSet t p.1 σ).map fun σ' => ((.next, σ'), p.2)) := by
  have pe := (soundE X G.good e v h2).pe
  obtain ⟨pg, pl⟩ := soundTg G.good.bi.calm G.good.nd G.names t tg h1
  have e1 : (assignEach [tg] X.env).map (·.2) = [assign tg X.env] := by rw [each_cons pl]; rfl
  cases t with
  | tup ts =>
    unfold mTg at h1
    split at h1
    · refine zAsg pe pg sw_tup (ss_tup ?_) e1
      rw [Bool.or_eq_true] at h3
      rcases h3 with k | k
      · cases k
      · exact k
    · cases h1
  | name i =>
    unfold mTg at h1
    split at h1
    · rename_i y py
      simp only [Bool.and_eq_true] at h1
      have nm := G.names i y h1.1.1 h1.1.2
      cases hcb : compB v with
      | false => exact zAsg pe pg (show swapsWith v (some (.Name y py)) pos.line X.env = _ from sw_no hcb) ss_name e1
      | true =>
        obtain ⟨n, hn, hm⟩ := compB_lc h2 hcb
        cases n with
        | comp elt t it cond own =>
         unfold mN at hm
         split at hm
         · rename_i y' tg' iter ifs ai s lpos
           simp only [Bool.and_eq_true, decide_eq_true_eq] at hm
           obtain ⟨⟨⟨⟨⟨⟨rfl, k1⟩, k2⟩, k3⟩, k4⟩, k5⟩, k6⟩ := hm
           have ok : BlkOk X.N X.env.scope s (own.map fun i => (c.N.getD i "", i)) := by rw [G.good.eN]; exact blkOk_by k2
           obtain ⟨i1, i2⟩ := soundI X G.good it iter tg' k3
           rcases lc_sw (elt := y') (gs := [⟨tg', iter, ifs, 0⟩]) (scope := s) (pos := lpos) (py := py) (y := y) (n := pos.line) G.good.kind with sw | ⟨sw, yl⟩
           · exact zAsg pe pg (show swapsWith _ _ _ _ = _ from sw) ss_name e1
           · refine zAsgC (t := t) (dI := denI Γ gl it) (dC := denC Γ gl cond) (dE := denE Γ gl elt) G.good.bi.calm G.good.nd (by rw [own_map]; exact k1) nm.at' yl sw i1 ok (fun s' H C cl fp => (soundTg (X := X.blk s' H s (compEnvC s cl C X.env) fp) G.good.bi.calm G.good.nd (blk_names G.good) t tg' k4).1)
               (fun s' H C cl fp => soundC _ (G.good.blk ok.kind) cond ifs k5) (fun s' H C cl fp => (soundE _ (G.good.blk ok.kind) elt y' k6).pe) (argB.fold i2) ?_
             intro P G' ρ σ h τ H Q a r
             rw [own_map]
             have en : denN Γ gl (.comp elt t it cond own) σ h = ((denI Γ gl it σ h).bind fun p => (compD p.1.2 (compF t own (denC Γ gl cond) (denE Γ gl elt) σ) p.1.1 [] p.2).map fun q => (.lst q.1, q.2)) := by rw [denN] <;> rfl
             rw [← en]
             rcases hn with rfl | ⟨rfl, _⟩
             · refine fz_run (d := denN Γ gl (.comp elt t it cond own)) (fun _ _ e => comp_lst e) a ?_
               rw [denE] at r
               exact r
             · refine nw_run (d := denN Γ gl (.comp elt t it cond own)) a ?_
               rw [denE] at r
               exact r
         · cases hm
        | comp2 elt t it cond t1 it1 cond1 own own1 =>
          unfold mN at hm
          split at hm
          · rename_i y' tg' iter ifs ai tg1 iter1 ifs1 ai1 s lpos
            simp only [Bool.and_eq_true, decide_eq_true_eq] at hm
            obtain ⟨⟨⟨⟨⟨⟨⟨⟨⟨⟨⟨⟨rfl, rfl⟩, k1⟩, k2⟩, k3⟩, k4⟩, k5⟩, k6⟩, k7⟩, k8⟩, k9⟩, k10⟩, k11⟩ := hm
            have ok : BlkOk X.N X.env.scope s (own.map fun i => (c.N.getD i "", i)) := by rw [G.good.eN]; exact blkOk_by k4
            obtain ⟨i1, i2⟩ := soundI X G.good it iter tg' k5
            rcases lc_sw (elt := y') (gs := [⟨tg', iter, ifs, 0⟩, ⟨tg1, iter1, ifs1, 0⟩]) (scope := s) (pos := lpos) (py := py) (y := y) (n := pos.line) G.good.kind with sw | ⟨sw, yl⟩
            · exact zAsg pe pg (show swapsWith _ _ _ _ = _ from sw) ss_name e1
            · refine zAsg2 (t := t) (t1 := t1) (own1 := own1) (dI := denI Γ gl it) (dI1 := denI Γ gl it1) (dC := denC Γ gl cond) (dC1 := denC Γ gl cond1) (dE := denE Γ gl elt) G.good.bi.calm G.good.nd (by rw [own_map]; exact k1) k2 (by
                  rw [own_map]
                  intro i hi
                  exact of_decide_eq_true (List.all_eq_true.mp k3 i hi)) nm.at' yl sw i1 ok (fun s' H C cl fp => (soundTg (X := X.blk s' H s (compEnvC s cl C X.env) fp) G.good.bi.calm G.good.nd (blk_names G.good) t tg' k6).1)
                (fun s' H C cl fp => soundC _ (G.good.blk ok.kind) cond ifs k7) (fun s' H C cl fp => (soundI _ (G.good.blk ok.kind) it1 iter1 tg1 k8).1) (fun s' H C cl fp => (soundTg (X := X.blk s' H s (compEnvC s cl C X.env) fp) G.good.bi.calm G.good.nd (blk_names G.good) t1 tg1 k9).1)
                (fun s' H C cl fp => soundC _ (G.good.blk ok.kind) cond1 ifs1 k10) (fun s' H C cl fp => (soundE _ (G.good.blk ok.kind) elt y' k11).pe) (argB.fold i2) (fun env => argB.fold (mI_arg k8)) ?_
              intro P G' ρ σ h τ H Q a r
              rw [own_map]
              have en : denN Γ gl (.comp2 elt t it cond t1 it1 cond1 own own1) σ h = ((denI Γ gl it σ h).bind fun p => (comp2D p.1.2 (comp2F t own (denC Γ gl cond) (denI Γ gl it1) t1 own1 (denC Γ gl cond1) (denE Γ gl elt) σ) p.1.1 [] p.2).bind fun q => if q.1.length ≤ sizeLine then some (.lst q.1, q.2) else none) := by rw [denN] <;> rfl
              rw [← en]
              rcases hn with rfl | ⟨rfl, _⟩
              · refine fz_run (d := denN Γ gl (.comp2 elt t it cond t1 it1 cond1 own own1)) (fun _ _ e => comp2_lst e) a ?_
                rw [denE] at r
                exact r
              · refine nw_run (d := denN Γ gl (.comp2 elt t it cond t1 it1 cond1 own own1)) a ?_
                rw [denE] at r
                exact r
          · cases hm
        | dcomp kx vx t it cond own =>
          rcases hn with rfl | ⟨_, z⟩
          · unfold mN at hm
            split at hm
            · rename_i y' z' tg' iter ifs ai s lpos
              simp only [Bool.and_eq_true, decide_eq_true_eq] at hm
              obtain ⟨⟨⟨⟨⟨⟨⟨rfl, k1⟩, k2⟩, k3⟩, k4⟩, k5⟩, k6⟩, k7⟩ := hm
              have ok : BlkOk X.N X.env.scope s (own.map fun i => (c.N.getD i "", i)) := by rw [G.good.eN]; exact blkOk_by k2
              obtain ⟨i1, i2⟩ := soundI X G.good it iter tg' k3
              rcases dc_sw (kx := y') (vx := z') (gs := [⟨tg', iter, ifs, 0⟩]) (scope := s) (pos := lpos) (py := py) (y := y) (n := pos.line) G.good.kind with sw | ⟨sw, yl⟩
              · exact zAsg pe pg (show swapsWith _ _ _ _ = _ from sw) ss_name e1
              · refine zAsgD (t := t) (dI := denI Γ gl it) (dC := denC Γ gl cond) (dK := denE Γ gl kx) (dV := denE Γ gl vx) G.good.bi.calm G.good.nd (by rw [own_map]; exact k1) nm.at' yl sw i1 ok (fun s' H C cl fp => (soundTg (X := X.blk s' H s (compEnvC s cl C X.env) fp) G.good.bi.calm G.good.nd (blk_names G.good) t tg' k4).1)
                  (fun s' H C cl fp => soundC _ (G.good.blk ok.kind) cond ifs k5) (fun s' H C cl fp => (soundE _ (G.good.blk ok.kind) kx y' k6).pe) (fun s' H C cl fp => (soundE _ (G.good.blk ok.kind) vx z' k7).pe) (argB.fold i2) ?_
                intro P G' ρ σ h τ H Q a r
                rw [own_map]
                have en : denN Γ gl (.dcomp kx vx t it cond own) σ h = ((denI Γ gl it σ h).bind fun p => (dcompD p.1.2 (dcompF t own (denC Γ gl cond) (denE Γ gl kx) (denE Γ gl vx) σ) p.1.1 [] p.2).map fun q => (.dct q.1, q.2)) := by rw [denN] <;> rfl
                rw [← en]
                refine fzD_run (d := denN Γ gl (.dcomp kx vx t it cond own)) (fun _ _ e => dcomp_dct e) a ?_
                rw [denE] at r
                exact r
            · cases hm
          · cases z
        | _ => unfold mN at hm; split at hm <;> first | cases hcb | cases hm
    · cases h1
theorem PS.of_eq {st : Stmt} {d d' : Fr → Hm → Res} (e : ∀ σ h, d' σ h = d σ h) (p : PS X st (tDS X.K d)) : PS X st (tDS X.K d') := by
  rw [show d' = d from funext fun σ => funext fun h => e σ h]; exact p
theorem PSs.of_eq {st : List Stmt} {d d' : Fr → Hm → Res} (e : ∀ σ h, d' σ h = d σ h) (p : PSs X st (tDS X.K d)) : PSs X st (tDS X.K d') := by
  rw [show d' = d from funext fun σ => funext fun h => e σ h]; exact p
mutual
theorem soundS (G : GoodS c np Γ gl X) : ∀ (s : S) (x : Stmt), mS c X.env.scope s x = true → PS X x (tDS X.K (denS Γ gl s))
  | .asg t e, x, h => by
    unfold mS at h; split at h
    · simp only [Bool.and_eq_true] at h
      exact PS.of_eq (fun σ h => by rw [denS] <;> rfl) (soundAsg G h.1.1 h.1.2 h.2)
    · cases h
  | .pars is es, x, h => by
    unfold mS at h; split at h
    · rename_i ts _ _ vs _ _ _
      simp only [Bool.and_eq_true, decide_eq_true_eq] at h
      obtain ⟨⟨⟨h1, h2⟩, h3⟩, h4⟩ := h
      have nm := nms_ok G h1
      obtain ⟨pa, _⟩ := soundEs X G.good es vs h2
      refine PS.of_eq (d := dPars is (denEs Γ gl es)) (fun σ h => by rw [denS] <;> rfl) ?_
      unfold swOk at h4
      split at h4
      · rename_i hs
        exact zPars G.good.bi.calm G.good.nd (Nat.le_trans h3 (by decide)) nm pa (swP_ok G.good.kind hs)
      · rename_i x' y' x _ y _ hs
        simp only [Bool.and_eq_true, decide_eq_true_eq] at h4
        obtain ⟨⟨⟨⟨rfl, rfl⟩, l1⟩, l2⟩, ne⟩ := h4
        cases nm with
        | cons r1 r2 =>
          cases r2 with
          | cons r2 r3 =>
            cases r3
            obtain ⟨_, _, e1, n1⟩ := r1
            obtain ⟨_, _, e2, n2⟩ := r2
            cases e1
            cases e2
            have hv : vs.length = 2 := by
              have := mEs_len h2
              unfold swP at hs
              split at hs
              · cases hs
              · rename_i hh
                simp at hh
                exact hh
            match vs, hv, pa, hs with
            | [v1, v2], _, pa, hs => exact zPar2 G.good.bi.calm G.good.nd n1.at' n2.at' ne (loc_of l1) (loc_of l2) pa (swP_ok G.good.kind hs)
      · rename_i x' y' z' x _ y _ z _ hs
        simp only [Bool.and_eq_true, decide_eq_true_eq] at h4
        obtain ⟨⟨⟨⟨⟨⟨⟨⟨rfl, rfl⟩, rfl⟩, l1⟩, l2⟩, l3⟩, ne1⟩, ne2⟩, ne3⟩ := h4
        cases nm with
        | cons r1 r2 =>
          cases r2 with
          | cons r2 r3 =>
            cases r3 with
            | cons r3 r4 =>
              cases r4
              obtain ⟨_, _, e1, n1⟩ := r1
              obtain ⟨_, _, e2, n2⟩ := r2
              obtain ⟨_, _, e3, n3⟩ := r3
              cases e1
              cases e2
              cases e3
              have hv : vs.length = 3 := by
                unfold swP at hs
                split at hs
                · cases hs
                · rename_i hh
                  simp at hh
                  exact hh
              match vs, hv, pa, hs with
              | [v1, v2, v3], _, pa, hs => exact zPar3 G.good.bi.calm G.good.nd n1.at' n2.at' n3.at' ne1 ne2 ne3 (loc_of l1) (loc_of l2) (loc_of l3) pa (swP_ok G.good.kind hs)
      · cases h4
    · cases h
  | .sset o i e, x, h => by
    unfold mS at h; split at h
    · simp only [Bool.and_eq_true] at h
      exact PS.of_eq (fun σ h => by rw [denS] <;> rfl) (zSset (soundE X G.good e _ h.2).pe (soundE X G.good o _ h.1.1).pe (soundE X G.good i _ h.1.2).pe (argB.slice (mE_arg h.1.2)) sw_sub ss_sub)
    · cases h
  | .dput o i e, x, h => by
    unfold mS at h; split at h
    · simp only [Bool.and_eq_true] at h
      exact PS.of_eq (fun σ h => by rw [denS] <;> rfl) (zDput G.good.bi.un (sw_sub1 _ ()) (soundE X G.good e _ h.2).pe (soundE X G.good o _ h.1.1).pe (soundE X G.good i _ h.1.2).pe)
    · cases h
  | .aug i o e, x, h => by
    unfold mS at h; split at h
    · simp only [Bool.and_eq_true, decide_eq_true_eq] at h
      obtain ⟨⟨⟨⟨h1, h2⟩, h3⟩, rfl⟩, h4⟩ := h
      exact PS.of_eq (fun σ h => by rw [denS] <;> rfl) (zAug G.good.nd (G.names i _ h1 h2) (soundE X G.good e _ h4).pe)
    · cases h
  | .saug o i op e, x, h => by
    unfold mS at h; split at h
    · simp only [Bool.and_eq_true, decide_eq_true_eq] at h
      obtain ⟨⟨⟨rfl, h1⟩, h2⟩, h3⟩ := h
      exact PS.of_eq (fun σ h => by rw [denS] <;> rfl) (zSaug (soundE X G.good o _ h1).pe (soundE X G.good i _ h2).pe (argB.slice (mE_arg h2)) (soundE X G.good e _ h3).pe)
    · cases h
  | .expr e, x, h => by
    unfold mS at h; split at h
    · simp only [Bool.and_eq_true, Bool.not_eq_true'] at h
      exact PS.of_eq (fun σ h => by rw [denS] <;> rfl) (zExpr (soundE X G.good e _ h.1).pe (sw_no h.2))
    · cases h
  | .ret e, x, h => by
    unfold mS at h; split at h
    · exact PS.of_eq (fun σ h => by rw [denS] <;> rfl) (zRet (soundE X G.good e _ h).pe)
    · cases h
  | .ifs t a b, x, h => by
    unfold mS at h; split at h
    · simp only [Bool.and_eq_true] at h
      exact PS.of_eq (fun σ h => by rw [denS] <;> rfl) (zIf (soundE X G.good t _ h.1.1).pt (soundSs G a _ h.1.2) (soundSs G b _ h.2))
    · cases h
  | .whl rg t b, x, h => by
    unfold mS at h; split at h
    · simp only [Bool.and_eq_true] at h
      exact PS.of_eq (fun σ h => by rw [denS] <;> rfl) (zWhile G.own (soundE X G.good t _ h.1).pt (soundSs G b _ h.2))
    · cases h
  | .loop rg t it b, x, h => by
    unfold mS at h; split at h
    · simp only [Bool.and_eq_true] at h
      obtain ⟨i1, i2⟩ := soundI X G.good it _ _ h.1.2
      exact PS.of_eq (fun σ h => by rw [denS] <;> rfl) (zFor G.own G.good.bi.calm i1 (soundTg G.good.bi.calm G.good.nd G.names t _ h.1.1).1 (soundSs G b _ h.2) (argB.fold i2))
    · cases h
  | .pass, x, h => by
    unfold mS at h; split at h
    · exact PS.of_eq (fun σ h => by rw [denS] <;> rfl) zPass
    · cases h
  | .brk, x, h => by
    unfold mS at h; split at h
    · exact PS.of_eq (fun σ h => by rw [denS] <;> rfl) zBreak
    · cases h
  | .cont, x, h => by
    unfold mS at h; split at h
    · exact PS.of_eq (fun σ h => by rw [denS] <;> rfl) zCont
    · cases h
  | .never, x, h => PS.of_eq (fun σ h => by rw [denS] <;> rfl) zNever
theorem soundSs (G : GoodS c np Γ gl X) : ∀ (ss : List S) (x : List Stmt), mSs c X.env.scope ss x = true → PSs X x (tDS X.K (denSs Γ gl ss))
  | [], x, h => by
    unfold mSs at h; split at h
    · exact PSs.of_eq (fun σ h => by rw [denSs] <;> rfl) zNil
    · cases h
  | s :: ss, x, h => by
    unfold mSs at h; split at h
    · rw [Bool.and_eq_true] at h
      exact PSs.of_eq (fun σ h => by rw [denSs] <;> rfl) (zSeq (soundS G s _ h.1) (soundSs G ss _ h.2))
    · cases h
end
end
end Mi
end
/-! ## MiS18 -/
section
set_option maxHeartbeats 4000000
/-! MiS18: a def does what its term says. -/
namespace Mi
open PySem PySem.Spec PyProof.Rows L2
section
variable {K : PySem.W.Frag} {P G G1 H H1 : Hp} {ρ ρ1 : List Addr} {h h1 h' : Hm} {σ : Fr} {τ : L2.St} {n : Nat}
def fzH (G H : Hp) (L : List Addr) : Hp := fun a => if a ∈ L then H a else G a
def rmH (G : Hp) (L : List Addr) : Hp := fun a => if a ∈ L then none else G a
theorem fzH_in {L : List Addr} {a : Addr} (h : a ∈ L) : fzH G H L a = H a := if_pos h
theorem fzH_out {L : List Addr} {a : Addr} (h : a ∉ L) : fzH G H L a = G a := if_neg h
theorem rmH_in {L : List Addr} {a : Addr} (h : a ∈ L) : rmH G L a = none := if_pos h
theorem rmH_out {L : List Addr} {a : Addr} (h : a ∉ L) : rmH G L a = G a := if_neg h
theorem fzH_sub {L : List Addr} (s : Sub G H) : Sub G (fzH G H L) := fun a u e => by
  by_cases m : a ∈ L
  · rw [fzH_in m]; exact s a u e
  · rw [fzH_out m]; exact e
theorem fzH_le {L : List Addr} (s : Sub G H) : Sub (fzH G H L) H := fun a u e => by
  by_cases m : a ∈ L
  · rw [fzH_in m] at e; exact e
  · rw [fzH_out m] at e; exact s a u e
theorem take_drop_nd (nd : ρ.Nodup) {a : Addr} (h1 : a ∈ ρ.take n) (h2 : a ∈ ρ.drop n) : False := by
  have := List.take_append_drop n ρ ▸ nd
  rw [List.nodup_append] at this
  exact this.2.2 a h1 a h2 rfl
theorem in_drop {i : Nat} {p : Addr} (e : ρ[i]? = some p) (hi : n ≤ i) : p ∈ ρ.drop n := by
  refine List.mem_of_getElem? (i := i - n) ?_
  rw [List.getElem?_drop]
  rw [show n + (i - n) = i by omega]; exact e
theorem snap_rel (rh : RelH K P G ρ h H) (hn : n ≤ h.length) : ∀ (k : Nat) (v : Val) (d : PyData) (x : V), snap k (List.replicate n .dead ++ h.drop n) v = some d → RelW K G ρ v x → RelD (fzH G H (ρ.drop n)) d x
  | k, .dat d', d, x, e, r => by
    have : some d' = some d := by cases k <;> exact e
    cases this
    exact RelD.keep (fzH_sub rh.sub).keeps r
  | k, .scr ns, d, x, e, r => by cases k <;> cases e
  | 0, .ref a, d, x, e, r => by cases e
  | k + 1, .ref a, d, x, e, r => by
    unfold snap at e
    split at e
    · rename_i vs hs
      obtain ⟨ds, e1, rfl⟩ := Option.map_eq_some_iff.mp e
      have ha : n ≤ a := by
        by_cases hl : a < n
        · rw [List.getElem?_append_left (by rw [List.length_replicate]; exact hl), List.getElem?_replicate_of_lt hl] at hs
          cases hs
        · omega
      have hs' : h[a]? = some (.lst vs) := by
        rw [List.getElem?_append_right (by rw [List.length_replicate]; exact ha), List.length_replicate, List.getElem?_drop, show n + (a - n) = a by omega] at hs
        exact hs
      obtain ⟨p, xs, ep, hp, z, rl⟩ := rh.lst hs'
      obtain ⟨p', ep', rfl⟩ := r
      rw [ep] at ep'; cases ep'
      unfold RelD
      refine ⟨p, xs, rfl, by rw [fzH_in (in_drop ep ha)]; exact hp, z, ?_⟩
      have all : ∀ (vs : List Val) (ds : List PyData) (xs : List V), mapO (snap k (List.replicate n .dead ++ h.drop n)) vs = some ds → RelWs K G ρ vs xs → RelDs (fzH G H (ρ.drop n)) ds xs := by
        intro vs
        induction vs with
        | nil =>
          intro ds xs e r
          cases r
          unfold mapO at e
          cases e
          unfold RelDs
          rfl
        | cons w ws ih =>
          intro ds xs e r
          cases r with
          | cons r rs =>
            unfold mapO at e
            obtain ⟨d1, e1, e2⟩ := Option.bind_eq_some_iff.mp e
            obtain ⟨ds1, e3, rfl⟩ := Option.map_eq_some_iff.mp e2
            unfold RelDs
            exact ⟨_, _, rfl, snap_rel rh hn k w d1 _ e1 r, ih ds1 _ e3 rs⟩
      exact all vs ds xs e1 rl
    · cases e
/-- data without lists keeps to tuples -/
theorem noL_keep {G' : Hp} (s : ∀ a o vs, G a = some (.frz o (.tup vs)) → G' a = some (.frz o (.tup vs))) : ∀ (k : Nat) (d : PyData) (x : V), noL k d = true → RelD G d x → RelD G' d x
  | 0, d, x, e, r => by cases e
  | k + 1, .none, x, e, r => r
  | k + 1, .bool _, x, e, r => r
  | k + 1, .int _, x, e, r => r
  | k + 1, .str _, x, e, r => r
  | k + 1, .list _, x, e, r => by cases e
  | k + 1, .dict _, x, e, r => by cases e
  | k + 1, .tuple ds, x, e, r => by
    unfold RelD at r ⊢
    obtain ⟨a, o, vs, ex, g, dn, z, rs⟩ := r
    refine ⟨a, o, vs, ex, s a o vs g, dn, z, ?_⟩
    have e' : ds.all (noL k) = true := e
    clear e g z
    induction ds generalizing vs with
    | nil => unfold RelDs at rs ⊢; exact rs
    | cons d ds ih =>
      unfold RelDs at rs ⊢
      obtain ⟨v, w, ev, r1, r2⟩ := rs
      rw [List.all_cons, Bool.and_eq_true] at e'
      exact ⟨v, w, ev, noL_keep s k d v e'.1 r1, ih w r2 e'.2⟩
theorem noLs_keep {G' : Hp} (s : ∀ a o vs, G a = some (.frz o (.tup vs)) → G' a = some (.frz o (.tup vs))) : ∀ {vs : List Val} {xs : List V}, vs.all Val.noL = true → RelWs K G ρ vs xs → RelWs K G' ρ vs xs
  | [], _, _, .nil => .nil
  | v :: vs, _, e, .cons r rs => by
    rw [List.all_cons, Bool.and_eq_true] at e
    refine .cons ?_ (noLs_keep s e.2 rs)
    cases v with
    | dat d => exact noL_keep s 8 d _ e.1 r
    | ref a => exact r
    | scr ns => cases e.1
/-- behind a call of a def that sees the first n objects alone -/
theorem back (rh : RelH K P G ρ h H) (hn : n ≤ h.length) (rh1 : RelH K P G1 ρ1 h1 H1) (pre : Pre (ρ.take n) ρ1) (sG : Sub G G1) (keep : ∀ p ∈ ρ.drop n, H1 p = H p ∧ p ∉ ρ1) (cut : cutH n h1 = some h')
    (hv : ∀ ob ∈ h', ∀ o, RelO K G1 ρ1 ob o → RelO K (fzH (rmH G1 (ρ.drop n)) H1 (ρ1.drop n)) ρ1 ob o) :
    RelH K P (fzH (rmH G1 (ρ.drop n)) H1 (ρ1.drop n)) ρ (h' ++ h.drop n) H1 ∧ Sub G (fzH (rmH G1 (ρ.drop n)) H1 (ρ1.drop n)) ∧ ρ1.take n = ρ.take n := by
  have hl : (ρ.take n).length = n := by rw [List.length_take, rh.len]; omega
  have et : ρ1.take n = ρ.take n := by
    obtain ⟨t, rfl⟩ := pre
    rw [List.take_append_of_le_length (by omega), List.take_of_length_le (by omega)]
  have hl1 : n ≤ ρ1.length := by
    have := pre.length_le
    omega
  obtain ⟨eh, hb⟩ := cutH_some cut
  have hl2 : h'.length = n := by rw [eh, List.length_take, ← rh1.len]; omega
  have sG' : Sub G (fzH (rmH G1 (ρ.drop n)) H1 (ρ1.drop n)) := fun a u e => by
    by_cases m : a ∈ ρ1.drop n
    · rw [fzH_in m]; exact rh1.sub a u (sG a u e)
    · have : a ∉ ρ.drop n := fun m => by
        have := rh.off a (List.mem_of_mem_drop m)
        rw [e] at this; cases this
      rw [fzH_out m, rmH_out this]; exact sG a u e
  refine ⟨⟨rh1.kp, fun a u e => ?_, fun a u e => ?_, ?_, rh.nd, fun p hp => ?_, fun i ob e => ?_⟩, sG', et⟩
  · obtain ⟨g1, g2⟩ := rh1.apart a u e
    refine ⟨?_, (rh.apart a u e).2⟩
    rw [fzH_out fun m => g2 (List.mem_of_mem_drop m)]
    by_cases m : a ∈ ρ.drop n
    · rw [rmH_in m]
    · rw [rmH_out m]; exact g1
  · by_cases m : a ∈ ρ1.drop n
    · rw [fzH_in m] at e; exact e
    · rw [fzH_out m] at e
      by_cases m2 : a ∈ ρ.drop n
      · rw [rmH_in m2] at e; cases e
      · rw [rmH_out m2] at e; exact rh1.sub a u e
  · rw [List.length_append, hl2, List.length_drop, rh.len]; omega
  · rw [← List.take_append_drop n ρ] at hp
    rcases List.mem_append.mp hp with m | m
    · have m1 : p ∈ ρ1.take n := by rw [et]; exact m
      have n1 : p ∉ ρ1.drop n := fun z => take_drop_nd rh1.nd m1 z
      rw [fzH_out n1, rmH_out fun z => take_drop_nd rh.nd m z]
      exact rh1.off p (List.mem_of_mem_take m1)
    · have n1 : p ∉ ρ1.drop n := fun z => (keep p m).2 (List.mem_of_mem_drop z)
      rw [fzH_out n1, rmH_in m]
  · by_cases hi : i < n
    · rw [List.getElem?_append_left (by omega)] at e
      have hm := List.mem_of_getElem? e
      have e1 : h1[i]? = some ob := by rw [eh, List.getElem?_take_of_lt hi] at e; exact e
      obtain ⟨p, o, ep, eo, ro⟩ := rh1.obj i ob e1
      have ep' : ρ[i]? = some p := by
        rw [← List.getElem?_take_of_lt hi, ← et, List.getElem?_take_of_lt hi]; exact ep
      refine ⟨p, o, ep', eo, ?_⟩
      have q := below_ob (hb ob (by rw [← eh]; exact hm)) (hv ob hm o ro)
      rw [et] at q
      exact q.mono Sub.rfl (List.take_prefix _ _)
    · rw [List.getElem?_append_right (by omega), hl2, List.getElem?_drop, show n + (i - n) = i by omega] at e
      obtain ⟨p, o, ep, eo, ro⟩ := rh.obj i ob e
      exact ⟨p, o, ep, by rw [(keep p (in_drop ep (by omega))).1]; exact eo, ro.mono sG' (List.prefix_refl _)⟩
/-- a list that was made within is handed on as an object -/
theorem thaw {Gb : Hp} {h9 : Hm} {p : Addr} {xs : List V} {ds : List PyData} (rh : RelH K P G ρ h H) (b : RelH K P Gb ρ h9 H1) (sG : Sub G Gb) (gp : G p = none) (gb : Gb p = some (.lst xs)) (z : xs.length ≤ sizeLine) (rd : RelDs Gb ds xs) (hd : ds.all (noL 8) = true)
    (hob : ∀ (i : Nat) ob, h9[i]? = some ob → ob.noL = true ∨ ∀ p' o, ρ[i]? = some p' → H1 p' = some o → RelO K G ρ ob o) :
    RelH K P (rmH Gb [p]) (ρ ++ [p]) (h9 ++ [.lst (ds.map .dat)]) H1 ∧ Sub G (rmH Gb [p]) := by
  have sR : Sub G (rmH Gb [p]) := fun a u e => by
    rw [rmH_out fun m => ?_]
    · exact sG a u e
    · rw [List.mem_singleton.mp m, gp] at e; cases e
  have np : p ∉ ρ := fun m => by rw [b.off p m] at gb; cases gb
  have tk : ∀ a o vs, Gb a = some (.frz o (.tup vs)) → rmH Gb [p] a = some (.frz o (.tup vs)) := fun a o vs q => by
    rw [rmH_out fun m => ?_]
    · exact q
    · rw [List.mem_singleton.mp m, gb] at q; cases q
  have hp : Pre ρ (ρ ++ [p]) := List.prefix_append _ _
  refine ⟨⟨b.kp, fun a u e => ⟨?_, fun m => ?_⟩, fun a u e => ?_, by rw [List.length_append, List.length_append, b.len]; rfl, ?_, fun q hq => ?_, fun i ob e => ?_⟩, sR⟩
  · by_cases m : a ∈ [p]
    · rw [rmH_in m]
    · rw [rmH_out m]; exact (b.apart a u e).1
  · rcases List.mem_append.mp m with m | m
    · exact (b.apart a u e).2 m
    · rw [List.mem_singleton.mp m] at e
      have := (b.apart p u e).1
      rw [gb] at this; cases this
  · by_cases m : a ∈ [p]
    · rw [rmH_in m] at e; cases e
    · rw [rmH_out m] at e; exact b.sub a u e
  · rw [List.nodup_append]
    exact ⟨b.nd, by simp, fun a ha c hc => by rw [List.mem_singleton.mp hc]; rintro rfl; exact np ha⟩
  · rcases List.mem_append.mp hq with m | m
    · by_cases m2 : q ∈ [p]
      · rw [rmH_in m2]
      · rw [rmH_out m2]; exact b.off q m
    · rw [rmH_in m]
  · by_cases hi : i < h9.length
    · rw [List.getElem?_append_left hi] at e
      obtain ⟨p', o, e1, e2, q⟩ := b.obj i ob e
      refine ⟨p', o, hp.get e1, e2, ?_⟩
      rcases hob i ob e with k | k
      · cases ob with
        | lst ws => obtain ⟨ys, e', zz, q⟩ := q; exact ⟨ys, e', zz, RelWs.mono Sub.rfl hp (noLs_keep tk k q)⟩
        | dct ws => cases k
        | dead => cases k
      · exact (k p' o e1 e2).mono sR hp
    · have hi' : i = h9.length := by
        have := (List.getElem?_eq_some_iff.mp e).1
        rw [List.length_append, List.length_singleton] at this; omega
      subst hi'
      rw [List.getElem?_append_right (Nat.le_refl _), Nat.sub_self] at e
      cases e
      refine ⟨p, .lst xs, by rw [← b.len, List.getElem?_append_right (Nat.le_refl _), Nat.sub_self]; rfl, b.sub p _ gb, xs, rfl, z, ?_⟩
      have rw' : RelWs K Gb (ρ ++ [p]) (ds.map .dat) xs := RelDs.ws rd
      refine noLs_keep tk ?_ rw'
      clear rw' rd gb z hob
      induction ds with
      | nil => rfl
      | cons d ds ih =>
        rw [List.all_cons, Bool.and_eq_true] at hd
        rw [List.map_cons, List.all_cons, ih hd.2]
        show (noL 8 d && true) = true
        rw [hd.1]; rfl
/-! ### the frame at the start -/
theorem RelF.start {N : List Str} {args : List Val} {vs : List V} {np ns : Nat} (r : RelWs K G ρ args vs) (h1 : args.length = np) (h2 : N.length = ns) : RelF K G ρ (args.map some ++ List.replicate (ns - np) none) (L2.start N vs) := by
  have hl := Paired.length r
  unfold L2.start
  rw [h2, ← hl, h1]
  refine Paired.app ?_ ?_
  · clear h1 hl
    induction r with
    | nil => exact .nil
    | cons q _ ih => exact .cons ⟨_, rfl, q⟩ ih
  · generalize ns - np = k
    induction k with
    | zero => exact .nil
    | succ k ih => exact .cons trivial ih
/-- the end of a body -/
theorem ret_end {fl : Fl} {v : Val} {τ' : L2.St} {Q : VK} (e : resV fl = some v) (q : ∀ x, RelW K G ρ v x → Q x H) : endS K G ρ { nx := fun _ H' => Q .non H', rt := fun v H' => Q v H' } fl τ' H := by
  cases fl with
  | next => cases e; exact q _ rwNon
  | ret w => cases e; exact q
  | brk => cases e
  | cont => cases e
theorem snapB_lt {a : Nat} (ha : a < n) : snapBelow n h (.ref a) = some (.ref a) := if_pos ha
theorem snapB_ge {a : Nat} (ha : ¬ a < n) : snapBelow n h (.ref a) = (snap 4 (List.replicate n .dead ++ h.drop n) (.ref a)).map .dat := if_neg ha
theorem below_snap : ∀ {args args' : List Val}, args.all (Val.below n) = true → mapO (snapBelow n h) args = some args' → args' = args
  | [], args', _, e => by unfold mapO at e; cases e; rfl
  | v :: vs, args', hb, e => by
    rw [List.all_cons, Bool.and_eq_true] at hb
    unfold mapO at e
    obtain ⟨w, e1, e2⟩ := Option.bind_eq_some_iff.mp e
    obtain ⟨ws, e3, rfl⟩ := Option.map_eq_some_iff.mp e2
    rw [below_snap hb.2 e3]
    cases v with
    | dat d => cases e1; rfl
    | scr ns => cases e1; rfl
    | ref a =>
      have ha : a < n := of_decide_eq_true hb.1
      rw [snapB_lt ha] at e1
      cases e1; rfl
theorem snapB_rel (rh : RelH K P G ρ h H) (hn : n ≤ h.length) {v v' : Val} {x : V} (e : snapBelow n h v = some v') (r : RelW K G ρ v x) : RelW K (fzH G H (ρ.drop n)) (ρ.take n) v' x := by
  cases v with
  | dat d => cases e; exact RelD.keep (fzH_sub rh.sub).keeps r
  | scr ns =>
    cases e
    obtain ⟨a, ea, q, z⟩ := r
    exact ⟨a, ea, sqSub (fzH_sub rh.sub) q, z⟩
  | ref a =>
    by_cases ha : a < n
    · rw [snapB_lt ha] at e
      cases e
      exact below_rel (v := .ref a) (decide_eq_true ha) r
    · rw [snapB_ge ha] at e
      obtain ⟨d, e1, rfl⟩ := Option.map_eq_some_iff.mp e
      exact snap_rel rh hn 4 (.ref a) d x e1 r
theorem snapBs_rel (rh : RelH K P G ρ h H) (hn : n ≤ h.length) : ∀ {vs vs' : List Val} {xs : List V}, mapO (snapBelow n h) vs = some vs' → RelWs K G ρ vs xs → RelWs K (fzH G H (ρ.drop n)) (ρ.take n) vs' xs
  | [], vs', _, e, .nil => by unfold mapO at e; cases e; exact .nil
  | v :: vs, vs', _, e, .cons r rs => by
    unfold mapO at e
    obtain ⟨w, e1, e2⟩ := Option.bind_eq_some_iff.mp e
    obtain ⟨ws, e3, rfl⟩ := Option.map_eq_some_iff.mp e2
    exact .cons (snapB_rel rh hn e1 r) (snapBs_rel rh hn e3 rs)
theorem mapO_len {α β : Type} {f : α → Option β} : ∀ {xs : List α} {ys : List β}, mapO f xs = some ys → ys.length = xs.length
  | [], ys, e => by unfold mapO at e; cases e; rfl
  | x :: xs, ys, e => by
    unfold mapO at e
    obtain ⟨y, e1, e2⟩ := Option.bind_eq_some_iff.mp e
    obtain ⟨zs, e3, rfl⟩ := Option.map_eq_some_iff.mp e2
    rw [List.length_cons, List.length_cons, mapO_len e3]
theorem dats_inv : ∀ {vs : List Val} {ds : List PyData}, dats vs = some ds → vs = ds.map .dat
  | [], ds, e => by unfold dats mapO at e; cases e; rfl
  | v :: vs, ds, e => by
    obtain ⟨y, t, e1, e2, rfl⟩ := mapO_cons e
    cases v with
    | dat d => cases e1; rw [List.map_cons, dats_inv e2]
    | ref n => cases e1
    | scr ns => cases e1
/-- THE DEF -/
theorem df_run {Γ : Env} {gl : Glo} {d : Df} {N : List Str} {vs : List V} {Q : VK} (hN : N.length = d.ns) (w : spM K (runDf Γ gl d) vs H Q) :
    tDS K (denSs Γ gl d.body) { nx := fun _ H' => Q .non H', rt := fun v H' => Q v H' } (L2.start N vs) H := by
  obtain ⟨P, G, ρ, h, args, rh, ra, v', h9, e, z⟩ := w
  unfold runDf at e
  split at e
  · rename_i hnp
    split at e
    · -- keep
      obtain ⟨⟨⟨fl, σ'⟩, h1⟩, e1, e2⟩ := Option.bind_eq_some_iff.mp e
      obtain ⟨v, e3, e4⟩ := Option.map_eq_some_iff.mp e2
      cases e4
      exact ⟨P, G, ρ, _, h, rh, RelF.start ra hnp hN, fl, σ', h1, e1, fun G1 ρ1 H1 τ1 s p rh1 rf1 => ret_end e3 fun x rx => z G1 ρ1 H1 x s p rh1 rx⟩
    · rename_i n _
      split at e
      · rename_i hn
        obtain ⟨args', ea, e⟩ := Option.bind_eq_some_iff.mp e
        obtain ⟨h0, e0, e⟩ := Option.bind_eq_some_iff.mp e
        obtain ⟨⟨⟨fl, σ'⟩, h1⟩, e1, e⟩ := Option.bind_eq_some_iff.mp e
        obtain ⟨v, e3, e⟩ := Option.bind_eq_some_iff.mp e
        obtain ⟨w, ew, e⟩ := Option.bind_eq_some_iff.mp e
        obtain ⟨h2, e4, e⟩ := Option.bind_eq_some_iff.mp e
        have hn' : (args'.length = d.np) := (mapO_len ea).trans hnp
        have rh0 := rh.cut e0
        have hl : (ρ.take n).length = n := by rw [List.length_take, rh.len]; omega
        have fin : ∀ {G1 H1 : Hp} {ρ1 : List Addr} {x : V}, RelH K P G1 ρ1 h1 H1 → Pre (ρ.take n) ρ1 → Sub G G1 → (∀ p ∈ ρ.drop n, H1 p = H p ∧ p ∉ ρ1) → (∀ ob ∈ h2, ∀ o, RelO K G1 ρ1 ob o → RelO K (fzH (rmH G1 (ρ.drop n)) H1 (ρ1.drop n)) ρ1 ob o) →
            RelW K (fzH (rmH G1 (ρ.drop n)) H1 (ρ1.drop n)) (ρ1.take n) w x → (w, h2 ++ h.drop n) = (v', h9) → Q x H1 := by
          intro G1 H1 ρ1 x rh1 pre sG keep hv rw ee
          cases ee
          obtain ⟨b1, b2, b3⟩ := back rh hn rh1 pre sG keep e4 hv
          rw [b3] at rw
          exact z _ ρ H1 x b2 (List.prefix_refl _) b1 (rw.mono Sub.rfl (List.take_prefix _ _))
        split at e
        · rename_i hok
          have ee : (w, h2 ++ h.drop n) = (v', h9) := Option.some.inj e
          by_cases hall : args.all (Val.below n) = true
          · -- nothing is handed over but what is below
            have : args' = args := below_snap hall ea
            subst this
            let P0 := fzH P H (ρ.drop n)
            have rhP : RelH K P0 G (ρ.take n) h0 H := by
              refine ⟨fzH_le rh.kp, fun a u q => ?_, rh0.sub, rh0.len, rh0.nd, rh0.off, rh0.obj⟩
              by_cases m : a ∈ ρ.drop n
              · exact ⟨rh.off a (List.mem_of_mem_drop m), fun t => take_drop_nd rh.nd t m⟩
              · exact rh0.apart a u (by rw [← fzH_out (G := P) (H := H) m]; exact q)
            refine ⟨P0, G, ρ.take n, _, h0, rhP, RelF.start (below_all hall ra) hnp hN, fl, σ', h1, e1, fun G1 ρ1 H1 τ1 s p rh1 rf1 => ret_end e3 fun x rx => ?_⟩
            have k1 : ∀ q ∈ ρ.drop n, ∃ u, H q = some u ∧ P0 q = some u := fun q m => by
              obtain ⟨i, hi⟩ := List.getElem?_of_mem (List.mem_of_mem_drop m)
              have hlt : i < h.length := by rw [← rh.len]; exact (List.getElem?_eq_some_iff.mp hi).1
              obtain ⟨p', o, ep, eo, _⟩ := rh.obj i _ (List.getElem?_eq_getElem hlt)
              rw [hi] at ep; cases ep
              exact ⟨o, eo, by show fzH P H (ρ.drop n) q = some o; rw [fzH_in m]; exact eo⟩
            have keep : ∀ q ∈ ρ.drop n, H1 q = H q ∧ q ∉ ρ1 := fun q m => by
              obtain ⟨u, g1, g2⟩ := k1 q m
              exact ⟨by rw [rh1.kp q u g2, g1], (rh1.apart q u g2).2⟩
            have rh1P : RelH K P G1 ρ1 h1 H1 := by
              have sP : Sub P P0 := fzH_sub rh.kp
              exact ⟨sP.trans rh1.kp, fun a u q => rh1.apart a u (sP a u q), rh1.sub, rh1.len, rh1.nd, rh1.off, rh1.obj⟩
            have sR : Sub (fzH G1 H1 (ρ1.drop n)) (fzH (rmH G1 (ρ.drop n)) H1 (ρ1.drop n)) := fun a u q => by
              by_cases m : a ∈ ρ1.drop n
              · rw [fzH_in m] at q ⊢; exact q
              · rw [fzH_out m] at q ⊢
                rw [rmH_out fun m2 => ?_]
                · exact q
                · obtain ⟨u2, _, g2⟩ := k1 a m2
                  rw [(rh1.apart a u2 g2).1] at q; cases q
            have hn1 : n ≤ h1.length := by rw [← rh1.len]; have := p.length_le; omega
            refine fin rh1P p s keep (fun ob _ o ro => ro.mono ((fzH_sub rh1.sub).trans sR) (List.prefix_refl _)) ?_ ee
            exact (snapB_rel rh1 hn1 ew rx).mono sR (List.prefix_refl _)
          · -- lists are handed over: nothing of them comes back
            rw [Bool.or_eq_true, Bool.and_eq_true] at hok
            have hno := hok.resolve_left hall
            let G0 := fzH G H (ρ.drop n)
            have s0 : Sub G G0 := fzH_sub rh.sub
            have rhG : RelH K P G0 (ρ.take n) h0 H := by
              refine ⟨rh0.kp, fun a u q => ⟨?_, (rh0.apart a u q).2⟩, fzH_le rh.sub, rh0.len, rh0.nd, fun p m => ?_, fun i ob q => ?_⟩
              · have : a ∉ ρ.drop n := fun m => (rh.apart a u q).2 (List.mem_of_mem_drop m)
                show fzH G H (ρ.drop n) a = none
                rw [fzH_out this]; exact (rh.apart a u q).1
              · show fzH G H (ρ.drop n) p = none
                rw [fzH_out fun m2 => take_drop_nd rh.nd m m2]
                exact rh0.off p m
              · obtain ⟨p, o, ep, eo, ro⟩ := rh0.obj i ob q
                exact ⟨p, o, ep, eo, ro.mono s0 (List.prefix_refl _)⟩
            refine ⟨P, G0, ρ.take n, _, h0, rhG, RelF.start (snapBs_rel rh hn ea ra) hn' hN, fl, σ', h1, e1, fun G1 ρ1 H1 τ1 s p rh1 rf1 => ret_end e3 fun x rx => ?_⟩
            have k1 : ∀ q ∈ ρ.drop n, ∃ u, H q = some u ∧ G1 q = some u ∧ ∀ o vs, u ≠ .frz o (.tup vs) := fun q m => by
              obtain ⟨i, hi⟩ := List.getElem?_of_mem (List.mem_of_mem_drop m)
              have hlt : i < h.length := by rw [← rh.len]; exact (List.getElem?_eq_some_iff.mp hi).1
              obtain ⟨p', o, ep, eo, ro⟩ := rh.obj i _ (List.getElem?_eq_getElem hlt)
              rw [hi] at ep; cases ep
              refine ⟨o, eo, s q o (by show fzH G H (ρ.drop n) q = some o; rw [fzH_in m]; exact eo), fun o2 vs2 he => ?_⟩
              subst he
              cases hob : h[i] with
              | lst ws => rw [hob] at ro; obtain ⟨_, e', _⟩ := ro; cases e'
              | dct ws => rw [hob] at ro; obtain ⟨_, e', _⟩ := ro; cases e'
              | dead => rw [hob] at ro; exact ro
            have keep : ∀ q ∈ ρ.drop n, H1 q = H q ∧ q ∉ ρ1 := fun q m => by
              obtain ⟨u, g1, g2, _⟩ := k1 q m
              refine ⟨by rw [rh1.sub q u g2, g1], fun hm => ?_⟩
              rw [rh1.off q hm] at g2; cases g2
            have tk : ∀ a o vs, G1 a = some (.frz o (.tup vs)) → fzH (rmH G1 (ρ.drop n)) H1 (ρ1.drop n) a = some (.frz o (.tup vs)) := fun a o vs q => by
              by_cases m : a ∈ ρ1.drop n
              · rw [fzH_in m]; exact rh1.sub a _ q
              · rw [fzH_out m, rmH_out fun m2 => ?_]
                · exact q
                · obtain ⟨u, _, g2, g3⟩ := k1 a m2
                  rw [g2] at q; cases q
                  exact g3 o vs rfl
            refine fin rh1 p (s0.trans s) keep (fun ob hm o ro => ?_) ?_ ee
            · have hb := List.all_eq_true.mp hno.2 ob hm
              cases ob with
              | lst ws => obtain ⟨xs, e', zz, q⟩ := ro; exact ⟨xs, e', zz, noLs_keep tk hb q⟩
              | dct ws => cases hb
              | dead => cases hb
            · have hw := hno.1
              cases v with
              | dat d0 => cases ew; exact noL_keep tk 8 d0 x hw rx
              | scr ns => cases ew; cases hw
              | ref a =>
                by_cases ha : a < n
                · rw [snapB_lt ha] at ew
                  cases ew
                  obtain ⟨p', ep, ex⟩ := rx
                  exact ⟨p', by rw [List.getElem?_take_of_lt ha]; exact ep, ex⟩
                · rw [snapB_ge ha] at ew
                  obtain ⟨d0, e5, rfl⟩ := Option.map_eq_some_iff.mp ew
                  exfalso
                  unfold snap at e5
                  split at e5
                  · obtain ⟨ds, _, rfl⟩ := Option.map_eq_some_iff.mp e5
                    cases hw
                  · cases e5
        · cases e
      · cases e
    · -- give
      rename_i n _
      split at e
      · rename_i hna
        obtain ⟨hn, hall⟩ := hna
        obtain ⟨h0, e0, e⟩ := Option.bind_eq_some_iff.mp e
        obtain ⟨⟨⟨fl, σ'⟩, h1⟩, e1, e⟩ := Option.bind_eq_some_iff.mp e
        split at e
        · rename_i a e3
          split at e
          · rename_i vs' ea
            obtain ⟨ds, eds, e⟩ := Option.bind_eq_some_iff.mp e
            obtain ⟨h2, e4, e⟩ := Option.bind_eq_some_iff.mp e
            split at e
            · rename_i hok
              obtain ⟨hna, hds, hno⟩ := hok
              cases e
              have rh0 := rh.cut e0
              have hl : (ρ.take n).length = n := by rw [List.length_take, rh.len]; omega
              let P0 := fzH P H (ρ.drop n)
              have rhP : RelH K P0 G (ρ.take n) h0 H := by
                refine ⟨fzH_le rh.kp, fun a u q => ?_, rh0.sub, rh0.len, rh0.nd, rh0.off, rh0.obj⟩
                by_cases m : a ∈ ρ.drop n
                · exact ⟨rh.off a (List.mem_of_mem_drop m), fun t => take_drop_nd rh.nd t m⟩
                · exact rh0.apart a u (by rw [← fzH_out (G := P) (H := H) m]; exact q)
              refine ⟨P0, G, ρ.take n, _, h0, rhP, RelF.start (below_all hall ra) hnp hN, fl, σ', h1, e1, fun G1 ρ1 H1 τ1 s p rh1 rf1 => ret_end e3 fun x rx => ?_⟩
              have k1 : ∀ q ∈ ρ.drop n, ∃ u, H q = some u ∧ P0 q = some u := fun q m => by
                obtain ⟨i, hi⟩ := List.getElem?_of_mem (List.mem_of_mem_drop m)
                have hlt : i < h.length := by rw [← rh.len]; exact (List.getElem?_eq_some_iff.mp hi).1
                obtain ⟨p', o, ep, eo, _⟩ := rh.obj i _ (List.getElem?_eq_getElem hlt)
                rw [hi] at ep; cases ep
                exact ⟨o, eo, by show fzH P H (ρ.drop n) q = some o; rw [fzH_in m]; exact eo⟩
              have keep : ∀ q ∈ ρ.drop n, H1 q = H q ∧ q ∉ ρ1 := fun q m => by
                obtain ⟨u, g1, g2⟩ := k1 q m
                exact ⟨by rw [rh1.kp q u g2, g1], (rh1.apart q u g2).2⟩
              have rh1P : RelH K P G1 ρ1 h1 H1 := by
                have sP : Sub P P0 := fzH_sub rh.kp
                exact ⟨sP.trans rh1.kp, fun a u q => rh1.apart a u (sP a u q), rh1.sub, rh1.len, rh1.nd, rh1.off, rh1.obj⟩
              have sR : Sub (fzH G1 H1 (ρ1.drop n)) (fzH (rmH G1 (ρ.drop n)) H1 (ρ1.drop n)) := fun a u q => by
                by_cases m : a ∈ ρ1.drop n
                · rw [fzH_in m] at q ⊢; exact q
                · rw [fzH_out m] at q ⊢
                  rw [rmH_out fun m2 => ?_]
                  · exact q
                  · obtain ⟨u2, _, g2⟩ := k1 a m2
                    rw [(rh1.apart a u2 g2).1] at q; cases q
              obtain ⟨b1, b2, b3⟩ := back rh hn rh1P p s keep e4 (fun ob _ o ro => ro.mono ((fzH_sub rh1.sub).trans sR) (List.prefix_refl _))
              obtain ⟨pa, epa, rfl⟩ := rx
              obtain ⟨pa', xs, epa', hpa, zx, rl⟩ := rh1P.lst ea
              rw [epa] at epa'; cases epa'
              have md := in_drop epa hna
              have gb : fzH (rmH G1 (ρ.drop n)) H1 (ρ1.drop n) pa = some (.lst xs) := by rw [fzH_in md]; exact hpa
              have gp : G pa = none := by
                cases hg : G pa with
                | none => rfl
                | some u =>
                  have := s pa u hg
                  rw [rh1P.off pa (List.mem_of_mem_drop md)] at this; cases this
              have rd : RelDs (fzH (rmH G1 (ρ.drop n)) H1 (ρ1.drop n)) ds xs := RelDs.keep ((fzH_sub rh1.sub).trans sR).keeps (dats_rel eds rl)
              have evs : vs' = ds.map .dat := dats_inv eds
              obtain ⟨eh, _⟩ := cutH_some e4
              have hl2 : h2.length = n := by
                rw [eh, List.length_take, ← rh1.len]
                have := p.length_le
                omega
              obtain ⟨t1, t2⟩ := thaw (p := pa) rh b1 b2 gp gb zx rd hds fun i ob ei => by
                by_cases hi : i < n
                · rw [List.getElem?_append_left (by omega)] at ei
                  exact .inl (List.all_eq_true.mp hno ob (List.mem_of_getElem? ei))
                · rw [List.getElem?_append_right (by omega), hl2, List.getElem?_drop, show n + (i - n) = i by omega] at ei
                  refine .inr fun p' o ep eo => ?_
                  obtain ⟨p2, o2, ep2, eo2, ro⟩ := rh.obj i ob ei
                  rw [ep] at ep2; cases ep2
                  rw [(keep p' (in_drop ep (by omega))).1, eo2] at eo
                  cases eo
                  exact ro
              rw [evs] at z
              refine z _ _ H1 (.ref pa) t2 (List.prefix_append _ _) t1 ⟨pa, ?_, rfl⟩
              rw [← b1.len, List.getElem?_append_right (Nat.le_refl _), Nat.sub_self]; rfl
            · cases e
          · cases e
        · cases e
      · cases e
  · cases e
end
end Mi
end
/-! ## MiS19 -/
section
set_option maxHeartbeats 4000000
/-! MiS19: a table of defs does what its terms say. -/
namespace Mi
open PySem PySem.Spec PyProof.Rows L2
/-- a def of the text and its term; N its names, ps its parameters -/
structure DfEx (fs gs : List Str) (d : Df) (D : He.DefD) (N ps : List Str) : Prop where
  sc : FnScope N ps D.scope
  hp : ps.length = d.np
  hN : N.length = d.ns
  hm : mSs ⟨N, fs, gs⟩ D.scope d.body D.body = true
  hd : D.dfl = []
  hb : ∀ (kV doc pm : Value) (an : Option Addr) (cdv ct : Value) (us : List Value), us.length = ps.length → bindArgs (PySem.W.fnOf D.name D.qual D.params D.body D.scope .none kV doc pm an cdv ct) ⟨us, []⟩ = pure (ps.zip us)
def DfOk (fs gs : List Str) (d : Df) (D : He.DefD) : Prop := ∃ N ps, DfEx fs gs d D N ps
inductive All2 {α β : Type} (R : α → β → Prop) : List α → List β → Prop where
  | nil : All2 R [] []
  | cons {a b l m} : R a b → All2 R l m → All2 R (a :: l) (b :: m)
theorem All2.get {α β : Type} {R : α → β → Prop} : ∀ {l : List α} {m : List β} {i : Nat} {b : β}, All2 R l m → m[i]? = some b → ∃ a, l[i]? = some a ∧ R a b
  | _, _, _, _, .nil, h => by simp at h
  | _, _, 0, _, .cons r _, h => by simp at h; subst h; exact ⟨_, rfl, r⟩
  | _, _, i + 1, b, .cons _ t, h => by
    obtain ⟨a, e, r⟩ := All2.get (i := i) t (by simpa using h)
    exact ⟨a, by simpa using e, r⟩
theorem All2.getL {α β : Type} {R : α → β → Prop} : ∀ {l : List α} {m : List β} {i : Nat} {a : α}, All2 R l m → l[i]? = some a → ∃ b, m[i]? = some b ∧ R a b
  | _, _, _, _, .nil, h => by simp at h
  | _, _, 0, _, .cons r _, h => by simp at h; subst h; exact ⟨_, rfl, r⟩
  | _, _, i + 1, b, .cons _ t, h => by
    obtain ⟨a, e, r⟩ := All2.getL (i := i) t (by simpa using h)
    exact ⟨a, by simpa using e, r⟩
def npOf (T : List Df) (f : Nat) : Nat := ((T[f]?).map Df.np).getD 0
theorem callN_np {T : List Df} {gl : Glo} : ∀ (n f : Nat) (args : List Val) (h : Hm) (r : Val × Hm), callN T gl n f args h = some r → args.length = npOf T f
  | 0, f, args, h, r, e => by cases e
  | n + 1, f, args, h, r, e => by
    unfold callN at e
    obtain ⟨d, e1, e2⟩ := Option.bind_eq_some_iff.mp e
    unfold runDf at e2
    split at e2
    · rename_i hl
      unfold npOf
      rw [e1]; exact hl
    · cases e2
section
variable {Pg : Program} {w : World} {K : PySem.W.Frag} {mg : Str → Option Value} {base : Heap} {T : List Df} {Ds : List He.DefD} {gs : List Str} {gl : Glo}
/-- what the head gives -/
structure Tab (K : PySem.W.Frag) (mg : Str → Option Value) (T : List Df) (Ds : List He.DefD) (gs : List Str) (gl : Glo) : Prop where
  ok : All2 (DfOk (Ds.map (·.name)) gs) T Ds
  fd : ∀ D ∈ Ds, ∃ fd, FunD K D.name D.qual D.params D.body D.scope (D.dvs K) (D.kws K) (He.fAd K D.at_) fd
  mgD : ∀ D ∈ Ds, mg D.name = some (.ref (He.fAd K D.at_))
  mgB : ∀ y ∈ biNames, mg y = none
  gls : ∀ g y d, gs[g]? = some y → gl g = some d → ∃ u x, mg y = some u ∧ RelV x u ∧ ∀ G, RelD G d x
theorem tab_fn (B : Tab K mg T Ds gs gl) : ∀ (n i : Nat) (d : Df) (D : He.DefD) (N ps : List Str) (fd : FuncData), T[i]? = some d → DfEx (Ds.map (·.name)) gs d D N ps → FunD K D.name D.qual D.params D.body D.scope (D.dvs K) (D.kws K) (He.fAd K D.at_) fd →
    FnG Pg w K mg base n (He.fAd K D.at_) fd ps (spM K (callN T gl n i)) ∧ Binds K fd ps []
  | n, i, d, D, N, ps, fd, ed, X, F => by
    have hv : D.dvs K = [] := by unfold He.DefD.dvs; rw [X.hd]; rfl
    have F' := F
    rw [hv] at F'
    have bn := F'.bindsN X.hb
    obtain ⟨oc, od, dV, kV, doc, pm, an, cdv, ct, osl, rfl, lk, hcd, _, _⟩ := F.ex
    refine ⟨?_, bn⟩
    cases n with
    | zero =>
      constructor
      intro A outer s H args us vs Q _ _ _ _ _ _ w
      obtain ⟨P, G, ρ, h, args, _, _, r⟩ := w
      exact Run.not r
    | succ n =>
      refine fnG_of lk hcd X.sc fun A outer s H vs Q room gd hl wish => ?_
      have good : GoodS ⟨N, Ds.map (·.name), gs⟩ (npOf T) (callN T gl n) gl (cxOf cx0 Pg w K mg base N D.qual D.scope (He.fAd K D.at_) cdv A outer s H e0) := by
        refine ⟨⟨rfl, X.sc.nd, ⟨rfl, gd, by have := room.un; show (A.deeper _).units + 65 < cLine; omega⟩, X.sc.kind, B.mgB, fun f y ef => ?_, callN_np n, B.gls⟩, fun _ => rfl, passes_of (K := fun e s'' => cx0 outer H s e0 e s'') (E₁ := fun e' s'' => cx0 outer H s e0 e' s'') rfl⟩
        have ef' : (Ds.map (·.name))[f]? = some y := ef
        rw [List.getElem?_map] at ef'
        obtain ⟨D2, eD2, rfl⟩ := Option.map_eq_some_iff.mp ef'
        obtain ⟨d2, ed2, N2, ps2, X2⟩ := B.ok.get eD2
        obtain ⟨fd2, FD2⟩ := B.fd D2 (List.mem_of_getElem? eD2)
        obtain ⟨F2, b2⟩ := tab_fn B n f d2 D2 N2 ps2 fd2 ed2 X2 FD2
        have np2 : npOf T f = d2.np := by unfold npOf; rw [ed2]; rfl
        exact ⟨n, _, fd2, ps2, F2, room, B.mgD D2 (List.mem_of_getElem? eD2), FD2.kp, b2, by rw [np2]; exact X2.hp⟩
      refine ⟨_, soundSs good d.body D.body X.hm, df_run (d := d) X.hN ?_⟩
      obtain ⟨P, G, ρ, h, args, rh, ra, r⟩ := wish
      refine ⟨P, G, ρ, h, args, rh, ra, ?_⟩
      have ec : callN T gl (n + 1) i args h = runDf (callN T gl n) gl d args h := by
        show ((T[i]?).bind fun d => runDf (callN T gl n) gl d args h) = _
        rw [ed]; rfl
      rw [← ec]
      exact r
termination_by n => n
/-- the law: its call by the script gives True -/
theorem law_tab {l : PySem.W.OpenLaw} {n iL : Nat} {dL : Df} {DL : He.DefD} {x : Str} {N : List Str} (B : Tab K mg T Ds gs gl) (ed : T[iL]? = some dL) (eD : Ds[iL]? = some DL) (X : DfEx (Ds.map (·.name)) gs dL DL N [x])
    (plain : ∀ ns : List Int, ns.length ≤ 63 → ∃ h', callN T gl n iL [.scr ns] [] = some (vb true, h')) {fa : Addr} (hfa : mg DL.name = some (.ref fa)) {hh : Heap} (inK : K.In hh) :
    ∃ (K : PySem.W.Frag) (fd : FuncData) (sp : SpG), K.In hh ∧ (∀ (s : Shared) (u : Value), BindsTo s fd ⟨[u], []⟩ [(x, u)]) ∧
        (∀ (H : Hp) (a : Addr) (ns : List Int), ns.length ≤ 63 → Only H → SqL K H a (ns.map V.int) → sp [.ref a] H (fun v _ => v = .bl true)) ∧
        ∀ base : Heap, K.In base → base.Ns mainGlobals mg → FnG l.prog w K mg base n fa fd [x] sp := by
  have eM := B.mgD DL (List.mem_of_getElem? eD)
  rw [eM] at hfa
  cases hfa
  obtain ⟨fd, F⟩ := B.fd DL (List.mem_of_getElem? eD)
  refine ⟨K, fd, spM K (callN T gl n iL), inK, ?_, ?_, fun base _ _ => (tab_fn B n iL dL DL N [x] fd ed X F).1⟩
  · have hv : DL.dvs K = [] := by unfold He.DefD.dvs; rw [X.hd]; rfl
    rw [hv] at F
    intro s u
    exact F.bindsA X.hb s [u] rfl
  · intro H a ns hl only sq
    obtain ⟨h', e⟩ := plain ns hl
    refine ⟨fun _ => none, H, [], [], [.scr ns], ?_, .cons ⟨a, rfl, sq, Nat.le_trans hl (by decide)⟩ .nil, vb true, h', e, fun G' ρ' H' x _ _ _ rx => dBl rx⟩
    exact ⟨(fun _ _ e => by cases e), (fun _ _ e => by cases e), Sub.rfl, rfl, List.nodup_nil, (fun p hp => absurd hp List.not_mem_nil), (fun i ob e => by cases i <;> cases e)⟩
end
end Mi
end
/-! ## MiP1 -/
section
set_option maxHeartbeats 2000000
/-! MiP1: plain facts: decks and draws. -/
namespace Mi
open PySem
theorem mapO_map {α β γ : Type} (f : α → β) (g : β → Option γ) (k : α → γ) (h : ∀ a, g (f a) = some (k a)) : ∀ l : List α, mapO g (l.map f) = some (l.map k)
  | [] => rfl
  | a :: l => by rw [List.map_cons, mapO, h, mapO_map f g k h l]; rfl
theorem snap_ints {h : Hm} {a k : Nat} {xs : List Int} (e : h[a]? = some (.lst (xs.map vi))) : snap (k + 1) h (.ref a) = some (.list (xs.map .int)) := by
  rw [snap, e]
  show (mapO (snap k h) (xs.map vi)).map PyData.list = _
  rw [mapO_map vi (snap k h) .int (fun i => by cases k <;> rfl)]
  rfl
theorem below_ints (n : Nat) (xs : List Int) : (xs.map vi).all (Val.below n) = true := by
  induction xs with
  | nil => rfl
  | cons x xs ih => rw [List.map_cons, List.all_cons, ih]; rfl
theorem noL_ints (xs : List Int) : (xs.map vi).all Val.noL = true := by
  induction xs with
  | nil => rfl
  | cons x xs ih => rw [List.map_cons, List.all_cons, ih]; rfl
theorem okD_ints (k : Nat) (xs : List Int) : okD (k + 2) (.list (xs.map .int)) = true := by
  show (xs.map PyData.int).all (okD (k + 1)) = true
  induction xs with
  | nil => rfl
  | cons x xs ih => rw [List.map_cons, List.all_cons, ih]; rfl
/-- the deck -/
def dk (big cells : List Int) (c : Nat) : Hm := [.lst (big.map vi), .lst (cells.map vi), .lst [.ref 0, .ref 1, vi (c : Int)]]
theorem dk_cut (big cells : List Int) (c : Nat) (rest : Hm) : cutH 3 (dk big cells c ++ rest) = some (dk big cells c) := by
  unfold cutH dk
  show (if (([.lst (big.map vi), .lst (cells.map vi), .lst [.ref 0, .ref 1, vi (c : Int)]] : Hm).all (Ob.below 3)) = true then _ else _) = _
  rw [if_pos]
  · rfl
  · simp only [List.all_cons, Ob.below, below_ints, List.all_nil]
    rfl
theorem dk_noL (big cells : List Int) (c : Nat) : (dk big cells c).all Ob.noL = true := by
  simp only [dk, List.all_cons, Ob.noL, noL_ints, List.all_nil, Val.noL]
  rfl
def drawD : Df := { np := 2, ns := 5, md := .sub 3, body := [(.whl false (.cmp .ne (.sub (.var 0) (.int 0)) (.fz (.lst []))) [(.asg (.name 4) (.sub (.sub (.var 0) (.int 0)) (.int 0))),
    (.ifs (.cmp .gt (.var 4) (.int 0)) [(.sset (.sub (.var 0) (.int 0)) (.int 0) (.op .fdiv (.var 4) (.var 1))),
    (.ret (.op .mod (.var 4) (.var 1)))] []),
    (.expr (.met .popAt (.sub (.var 0) (.int 0)) [(.int 0)]))]),
    (.sset (.var 0) (.int 2) (.op .add (.sub (.var 0) (.int 2)) (.int 1))),
    (.asg (.name 2) (.op .mod (.sub (.sub (.var 0) (.int 1)) (.op .mod (.sub (.var 0) (.int 2)) (.bi .len [(.sub (.var 0) (.int 1))]))) (.int 2147483629))),
    (.asg (.name 3) (.op .add (.op .mul (.var 2) (.op .add (.int 69621) (.op .mul (.int 2) (.sub (.var 0) (.int 2))))) (.int 30011))),
    (.asg (.name 3) (.op .mod (.op .add (.var 3) (.op .mul (.op .mul (.int 48271) (.sub (.var 0) (.int 2))) (.sub (.var 0) (.int 2)))) (.int 2147483587))),
    (.ret (.op .mod (.op .fdiv (.op .mod (.op .mul (.var 3) (.var 3)) (.int 2147483563)) (.int 16)) (.var 1)))] }
section
variable {Γ : Env} {gl : Glo}
abbrev whC : E := .cmp .ne (.sub (.var 0) (.int 0)) (.fz (.lst []))
abbrev whB : List S := [(.asg (.name 4) (.sub (.sub (.var 0) (.int 0)) (.int 0))),
    (.ifs (.cmp .gt (.var 4) (.int 0)) [(.sset (.sub (.var 0) (.int 0)) (.int 0) (.op .fdiv (.var 4) (.var 1))),
    (.ret (.op .mod (.var 4) (.var 1)))] []),
    (.expr (.met .popAt (.sub (.var 0) (.int 0)) [(.int 0)]))]
theorem whC_nil {cells : List Int} {c : Nat} {b : Int} {x4 : Option Val} : denE Γ gl whC [some (.ref 2), some (vi b), none, none, x4] (dk [] cells c) = some (vb false, dk [] cells c) := by
  simp only [whC, denE, denN, denEs, dk]
  rfl
theorem whC_cons {x : Int} {big cells : List Int} {c : Nat} {b : Int} {x4 : Option Val} : denE Γ gl whC [some (.ref 2), some (vi b), none, none, x4] (dk (x :: big) cells c) = some (vb true, dk (x :: big) cells c) := by
  have e1 : snap 4 (dk (x :: big) cells c) (.ref 0) = some (.list ((x :: big).map .int)) := snap_ints rfl
  have e2 : okD 12 (.list ((x :: big).map .int)) = true := okD_ints 10 _
  simp only [whC, denE, denN, denEs]
  show ((eqD0 (dk (x :: big) cells c) (.ref 0) (vl [])).map (!·)).map _ = _
  unfold eqD0
  rw [e1]
  show (((if (okD 12 (.list ((x :: big).map .int)) && true) = true then some (PyData.eqv (.list ((x :: big).map .int)) (.list [])) else none) : Option Bool).map (!·)).map _ = _
  rw [e2]
  rfl
theorem wh_ok {cells : List Int} {c : Nat} {b : Int} (h1 : 1 ≤ b) (h2 : b < 1073741824) : ∀ (big : List Int) (k : Nat) (x4 : Option Val), big.length < k →
    (∃ r big' x4', 0 ≤ r ∧ r < b ∧ big'.length ≤ big.length ∧ whileD false 3 (denE Γ gl whC) (denSs Γ gl whB) k [some (.ref 2), some (vi b), none, none, x4] (dk big cells c) = some ((.ret (vi r), [some (.ref 2), some (vi b), none, none, x4']), dk big' cells c)) ∨
    (∃ x4', whileD false 3 (denE Γ gl whC) (denSs Γ gl whB) k [some (.ref 2), some (vi b), none, none, x4] (dk big cells c) = some ((.next, [some (.ref 2), some (vi b), none, none, x4']), dk [] cells c))
  | [], k + 1, x4, _ => by
    refine .inr ⟨x4, ?_⟩
    rw [whileD, whC_nil]
    rfl
  | x :: big, k + 1, x4, hk => by
    have hk' : big.length < k := by simpa using hk
    by_cases hx : 0 < x
    · refine .inl ⟨x % b, (x / b) :: big, some (vi x), Int.emod_nonneg _ (by omega), Int.emod_lt_of_pos _ (by omega), Nat.le_refl _, ?_⟩
      rw [whileD, whC_cons]
      have hd : decide (0 < x) = true := decide_eq_true hx
      have e : denSs Γ gl whB [some (.ref 2), some (vi b), none, none, x4] (dk (x :: big) cells c) = some ((.ret (vi (x % b)), [some (.ref 2), some (vi b), none, none, some (vi x)]), dk ((x / b) :: big) cells c) := by
        have hb : 0 < b := by omega
        simp [whB, denSs, denS, denE, denEs, dk, subV, items, atI, ixN, cmpV, ltI, op2, setSub, tgSet, hx, hb, h2]
      show ((denSs Γ gl whB _ _).bind _) = _
      rw [e]
      rfl
    · have ih := wh_ok (cells := cells) (c := c) h1 h2 big k (some (vi x)) hk'
      have e : whileD false 3 (denE Γ gl whC) (denSs Γ gl whB) (k + 1) [some (.ref 2), some (vi b), none, none, x4] (dk (x :: big) cells c) = whileD false 3 (denE Γ gl whC) (denSs Γ gl whB) k [some (.ref 2), some (vi b), none, none, some (vi x)] (dk big cells c) := by
        rw [whileD, whC_cons]
        simp [whB, denSs, denS, denE, denEs, dk, subV, items, atI, ixN, cmpV, ltI, op2, setSub, tgSet, hx, metV, mtOk, isLst, endTurn]
      rw [e]
      rcases ih with ⟨r, big', x4', a, b', c', d⟩ | ⟨x4', d⟩
      · exact .inl ⟨r, big', x4', a, b', Nat.le_succ_of_le c', d⟩
      · exact .inr ⟨x4', d⟩
/-! ### steps -/
theorem ss_next {s : S} {ss : List S} {σ σ' : Fr} {h h' : Hm} (e : denS Γ gl s σ h = some ((.next, σ'), h')) : denSs Γ gl (s :: ss) σ h = denSs Γ gl ss σ' h' := by rw [denSs, e]; rfl
theorem ss_ret {s : S} {ss : List S} {σ σ' : Fr} {h h' : Hm} {v : Val} (e : denS Γ gl s σ h = some ((.ret v, σ'), h')) : denSs Γ gl (s :: ss) σ h = some ((.ret v, σ'), h') := by rw [denSs, e]; rfl
theorem op_add (i j : Int) : op2 .add (vi i) (vi j) = some (vi (i + j)) := rfl
theorem op_sub (i j : Int) : op2 .sub (vi i) (vi j) = some (vi (i - j)) := rfl
theorem op_mul {i j : Int} (h : (-(2 ^ 64) < i ∧ i < 2 ^ 64) ∨ (-(2 ^ 64) < j ∧ j < 2 ^ 64)) : op2 .mul (vi i) (vi j) = some (vi (i * j)) := if_pos h
theorem op_mod {i j : Int} (h : 0 < j) : op2 .mod (vi i) (vi j) = some (vi (i % j)) := if_pos h
theorem op_fdiv {i j : Int} (h : 0 < j ∧ j < 1073741824) : op2 .fdiv (vi i) (vi j) = some (vi (i / j)) := if_pos h
theorem e_var {i : Nat} {σ : Fr} {h : Hm} {v : Val} (e : σ[i]? = some (some v)) : denE Γ gl (.var i) σ h = some (v, h) := by rw [denE, e]; rfl
theorem e_int {i : Int} {σ : Fr} {h : Hm} : denE Γ gl (.int i) σ h = some (vi i, h) := by rw [denE]
theorem e_op {o : Op2} {a b : E} {σ : Fr} {h h1 h2 : Hm} {v w u : Val} (e1 : denE Γ gl a σ h = some (v, h1)) (e2 : denE Γ gl b σ h1 = some (w, h2)) (e3 : op2 o v w = some u) : denE Γ gl (.op o a b) σ h = some (u, h2) := by
  rw [denE, e1]
  show ((denE Γ gl b σ h1).bind _) = _
  rw [e2]
  show (op2 o v w).map _ = _
  rw [e3]; rfl
theorem e_sub {a b : E} {σ : Fr} {h h1 h2 : Hm} {v w u : Val} (e1 : denE Γ gl a σ h = some (v, h1)) (e2 : denE Γ gl b σ h1 = some (w, h2)) (e3 : subV h2 v w = some u) : denE Γ gl (.sub a b) σ h = some (u, h2) := by
  rw [denE, e1]
  show ((denE Γ gl b σ h1).bind _) = _
  rw [e2]
  show (subV h2 v w).map _ = _
  rw [e3]; rfl
theorem s_asg {i : Nat} {e : E} {σ : Fr} {h h1 : Hm} {v : Val} (e1 : denE Γ gl e σ h = some (v, h1)) : denS Γ gl (.asg (.name i) e) σ h = some ((.next, σ.set i (some v)), h1) := by rw [denS, e1]; rfl
theorem s_ret {e : E} {σ : Fr} {h h1 : Hm} {v : Val} (e1 : denE Γ gl e σ h = some (v, h1)) : denS Γ gl (.ret e) σ h = some ((.ret v, σ), h1) := by rw [denS, e1]; rfl
theorem es_nil {σ : Fr} {h : Hm} : denEs Γ gl [] σ h = some ([], h) := by rw [denEs]
theorem es_cons {a : E} {as : List E} {σ : Fr} {h h1 h2 : Hm} {v : Val} {vs : List Val} (e1 : denE Γ gl a σ h = some (v, h1)) (e2 : denEs Γ gl as σ h1 = some (vs, h2)) : denEs Γ gl (a :: as) σ h = some (v :: vs, h2) := by
  rw [denEs, e1]; simp only [Option.bind_some, e2, Option.map_some]
theorem s_sset {o i e : E} {σ : Fr} {h h1 h2 h3 h4 : Hm} {v w u : Val} (e1 : denE Γ gl e σ h = some (v, h1)) (e2 : denE Γ gl o σ h1 = some (w, h2)) (e3 : denE Γ gl i σ h2 = some (u, h3)) (e4 : setSub h3 w u v = some h4) : denS Γ gl (.sset o i e) σ h = some ((.next, σ), h4) := by
  rw [denS, e1]; simp only [Option.bind_some, e2, e3, e4, Option.map_some]
theorem e_bi {b : Bi} {es : List E} {σ : Fr} {h h1 : Hm} {vs : List Val} {u : Val} (e1 : denEs Γ gl es σ h = some (vs, h1)) (e2 : biV b h1 vs = some u) : denE Γ gl (.bi b es) σ h = some (u, h1) := by
  rw [denE, e1]; simp only [Option.bind_some, e2, Option.map_some]
theorem e_call {f : Nat} {es : List E} {σ : Fr} {h h1 : Hm} {vs : List Val} {r : Val × Hm} (e1 : denEs Γ gl es σ h = some (vs, h1)) (e2 : Γ f vs h1 = some r) : denE Γ gl (.call f es) σ h = some r := by
  rw [denE, e1]; simp only [Option.bind_some, e2]
theorem e_met {m : Mt} {o : E} {es : List E} {σ : Fr} {h h1 h2 : Hm} {v : Val} {vs : List Val} {r : Val × Hm} (e1 : denE Γ gl o σ h = some (v, h1)) (ok : mtOk m h1 v = true) (e2 : denEs Γ gl es σ h1 = some (vs, h2)) (e3 : metV m h2 v vs = some r) : denE Γ gl (.met m o es) σ h = some r := by
  rw [denE, e1]; simp only [Option.bind_some, ok, ↓reduceIte, e2, e3]
theorem e_cmp {o : Cp} {a b : E} {σ : Fr} {h h1 h2 : Hm} {v w : Val} {u : Bool} (e1 : denE Γ gl a σ h = some (v, h1)) (e2 : denE Γ gl b σ h1 = some (w, h2)) (e3 : cmpV o h2 v w = some u) : denE Γ gl (.cmp o a b) σ h = some (vb u, h2) := by
  rw [denE, e1]; simp only [Option.bind_some, e2, e3, Option.map_some]
theorem e_and {a b : E} {σ : Fr} {h h1 h2 : Hm} {u w : Bool} (e1 : denE Γ gl a σ h = some (vb u, h1)) (e2 : u = true → denE Γ gl b σ h1 = some (vb w, h2)) (e3 : u = false → h2 = h1) : denE Γ gl (.and a b) σ h = some (vb (u && w), h2) := by
  rw [denE, e1]
  cases u with
  | true => simp only [Option.bind_some, e2 rfl, Bool.true_and]
  | false => simp only [Option.bind_some, e3 rfl, Bool.false_and]
theorem e_or {a b : E} {σ : Fr} {h h1 h2 : Hm} {u w : Bool} (e1 : denE Γ gl a σ h = some (vb u, h1)) (e2 : u = false → denE Γ gl b σ h1 = some (vb w, h2)) (e3 : u = true → h2 = h1) : denE Γ gl (.or a b) σ h = some (vb (u || w), h2) := by
  rw [denE, e1]
  cases u with
  | false => simp only [Option.bind_some, e2 rfl, Bool.false_or]
  | true => simp only [Option.bind_some, e3 rfl, Bool.true_or]
theorem e_not {a : E} {σ : Fr} {h h1 : Hm} {u : Bool} (e1 : denE Γ gl a σ h = some (vb u, h1)) : denE Γ gl (.not a) σ h = some (vb (!u), h1) := by
  rw [denE, e1]; rfl
theorem e_ite {c a b : E} {σ : Fr} {h h1 : Hm} {u : Bool} {r : Val × Hm} (e1 : denE Γ gl c σ h = some (vb u, h1)) (e2 : (if u then denE Γ gl a σ h1 else denE Γ gl b σ h1) = some r) : denE Γ gl (.ite c a b) σ h = some r := by
  rw [denE, e1]
  cases u with
  | true => exact e2
  | false => exact e2
theorem e_tup {es : List E} {σ : Fr} {h h1 : Hm} {vs : List Val} {ds : List PyData} (e1 : denEs Γ gl es σ h = some (vs, h1)) (e2 : dats vs = some ds) (hl : ds.length ≤ sizeLine) : denE Γ gl (.tup es) σ h = some (vt ds, h1) := by
  rw [denE, e1]; simp only [Option.bind_some, e2, hl, ↓reduceIte]
theorem e_fz {n : N} {σ : Fr} {h h1 : Hm} {vs : List Val} {ds : List PyData} (e1 : denN Γ gl n σ h = some (.lst vs, h1)) (e2 : dats vs = some ds) : denE Γ gl (.fz n) σ h = some (vl ds, h1) := by
  rw [denE, e1]; simp only [Option.bind_some, e2, Option.map_some]
theorem e_nw {n : N} {σ : Fr} {h h1 : Hm} {ob : Ob} (e1 : denN Γ gl n σ h = some (ob, h1)) : denE Γ gl (.nw n) σ h = some (.ref h1.length, h1 ++ [ob]) := by
  rw [denE, e1]; rfl
theorem n_lst {es : List E} {σ : Fr} {h h1 : Hm} {vs : List Val} (e1 : denEs Γ gl es σ h = some (vs, h1)) (hl : vs.length ≤ sizeLine) : denN Γ gl (.lst es) σ h = some (.lst vs, h1) := by
  rw [denN, e1]; simp only [Option.bind_some, hl, ↓reduceIte]
theorem s_expr {e : E} {σ : Fr} {h h1 : Hm} {v : Val} (e1 : denE Γ gl e σ h = some (v, h1)) : denS Γ gl (.expr e) σ h = some ((.next, σ), h1) := by rw [denS, e1]; rfl
theorem s_if {c : E} {a b : List S} {σ : Fr} {h h1 : Hm} {u : Bool} (e1 : denE Γ gl c σ h = some (vb u, h1)) : denS Γ gl (.ifs c a b) σ h = if u then denSs Γ gl a σ h1 else denSs Γ gl b σ h1 := by
  rw [denS, e1]
  cases u <;> rfl
theorem s_pars {is : List Nat} {es : List E} {σ σ' : Fr} {h h1 : Hm} {vs : List Val} (e1 : denEs Γ gl es σ h = some (vs, h1)) (e2 : setAll is vs σ = some σ') : denS Γ gl (.pars is es) σ h = some ((.next, σ'), h1) := by
  rw [denS, e1]; simp only [Option.bind_some, e2, Option.map_some]
theorem runDf_sub {d : Df} {n : Nat} {args args' : List Val} {h h0 : Hm} (hm : d.md = .sub n) (h1 : args.length = d.np) (h2 : n ≤ h.length) (h3 : mapO (snapBelow n h) args = some args') (h4 : cutH n h = some h0) :
    runDf Γ gl d args h = (denSs Γ gl d.body (args'.map some ++ List.replicate (d.ns - d.np) none) h0).bind fun r => (resV r.1.1).bind fun v => (snapBelow n r.2 v).bind fun v' => (cutH n r.2).bind fun h' =>
      if args.all (Val.below n) || (v'.noL && h'.all Ob.noL) then some (v', h' ++ h.drop n) else none := by
  unfold runDf
  rw [if_pos h1, hm]
  simp only []
  rw [if_pos h2, h3, h4]
  rfl
theorem runDf_deck {d : Df} {args args' : List Val} {big cells big' : List Int} {c c' : Nat} {rest more : Hm} {r : PyData} {σ' : Fr} (hm : d.md = .sub 3) (h1 : args.length = d.np) (h3 : mapO (snapBelow 3 (dk big cells c ++ rest)) args = some args')
    (hb : denSs Γ gl d.body (args'.map some ++ List.replicate (d.ns - d.np) none) (dk big cells c) = some ((.ret (.dat r), σ'), dk big' cells c' ++ more)) (hr : args.all (Val.below 3) = true ∨ noL 8 r = true) :
    runDf Γ gl d args (dk big cells c ++ rest) = some (.dat r, dk big' cells c' ++ rest) := by
  rw [runDf_sub hm h1 (by rw [List.length_append]; exact Nat.le_add_right 3 _) h3 (dk_cut _ _ _ _), hb]
  show (cutH 3 (dk big' cells c' ++ more)).bind _ = _
  rw [dk_cut]
  show (if (args.all (Val.below 3) || (noL 8 r && (dk big' cells c').all Ob.noL)) = true then _ else none) = _
  rw [if_pos]
  · rfl
  · rcases hr with k | k
    · rw [k]; rfl
    · rw [k, dk_noL, Bool.or_eq_true]; exact .inr rfl
/-! ### what follows the big cells -/
abbrev drR : List S := drawD.body.drop 1
theorem deck_sub {cells big : List Int} {c : Nat} {σ : Fr} {rest : Hm} (e : σ[0]? = some (some (.ref 2))) : denE Γ gl (.sub (.var 0) (.int 2)) σ (dk big cells c ++ rest) = some (vi c, dk big cells c ++ rest) := e_sub (e_var e) e_int rfl
theorem deck_sub1 {cells big : List Int} {c : Nat} {σ : Fr} {rest : Hm} (e : σ[0]? = some (some (.ref 2))) : denE Γ gl (.sub (.var 0) (.int 1)) σ (dk big cells c ++ rest) = some (.ref 1, dk big cells c ++ rest) := e_sub (e_var e) e_int rfl
theorem drR_ok {cells : List Int} {c : Nat} {b : Int} {x4 : Option Val} (hc : cells ≠ []) (hc2 : c < 1000000000) (h1 : 1 ≤ b) : ∃ r σ', 0 ≤ r ∧ r < b ∧ denSs Γ gl drR [some (.ref 2), some (vi b), none, none, x4] (dk [] cells c) = some ((.ret (vi r), σ'), dk [] cells (c + 1)) := by
  have hl : 0 < cells.length := List.length_pos_iff.mpr hc
  have hb : 0 < b := by omega
  generalize hC : ((c + 1 : Nat) : Int) = C
  have hC0 : 0 ≤ C ∧ C < 2000000000 := by omega
  generalize hm : C % (cells.length : Int) = m
  have hm0 : 0 ≤ m := by rw [← hm]; exact Int.emod_nonneg _ (by omega)
  have hm1 : m < cells.length := by rw [← hm]; exact Int.emod_lt_of_pos _ (by omega)
  have hmn : m.toNat < cells.length := by omega
  generalize hcell : cells[m.toNat] % 2147483629 = q
  have q0 : 0 ≤ q := by rw [← hcell]; exact Int.emod_nonneg _ (by omega)
  have q1 : q < 2147483629 := by rw [← hcell]; exact Int.emod_lt_of_pos _ (by omega)
  generalize hz : (q * (69621 + 2 * C) + 30011 + 48271 * C * C) % 2147483587 = z
  have z0 : 0 ≤ z := by rw [← hz]; exact Int.emod_nonneg _ (by omega)
  have z1 : z < 2147483587 := by rw [← hz]; exact Int.emod_lt_of_pos _ (by omega)
  refine ⟨z * z % 2147483563 / 16 % b, [some (.ref 2), some (vi b), some (vi q), some (vi z), x4], Int.emod_nonneg _ (by omega), Int.emod_lt_of_pos _ hb, ?_⟩
  have sub2 : ∀ {σ : Fr}, σ[0]? = some (some (.ref 2)) → denE Γ gl (.sub (.var 0) (.int 2)) σ (dk [] cells (c + 1)) = some (vi C, dk [] cells (c + 1)) := fun {σ} e => by
    have := deck_sub (Γ := Γ) (gl := gl) (cells := cells) (big := []) (c := c + 1) (rest := []) e
    rw [List.append_nil, hC] at this
    exact this
  have sub1 : ∀ {σ : Fr}, σ[0]? = some (some (.ref 2)) → denE Γ gl (.sub (.var 0) (.int 1)) σ (dk [] cells (c + 1)) = some (.ref 1, dk [] cells (c + 1)) := fun {σ} e => by
    have := deck_sub1 (Γ := Γ) (gl := gl) (cells := cells) (big := []) (c := c + 1) (rest := []) e
    rw [List.append_nil] at this
    exact this
  refine (ss_next (h' := dk [] cells (c + 1)) (σ' := [some (.ref 2), some (vi b), none, none, x4]) ?_).trans ?_
  · have := deck_sub (Γ := Γ) (gl := gl) (cells := cells) (big := []) (c := c) (rest := []) (σ := [some (.ref 2), some (vi b), none, none, x4]) rfl
    rw [List.append_nil] at this
    exact s_sset (e_op this e_int (op_add _ _)) (e_var rfl) e_int rfl
  refine (ss_next (s_asg (v := vi q) (h1 := dk [] cells (c + 1)) ?_)).trans ?_
  · refine e_op (v := vi cells[m.toNat]) (w := vi 2147483629) (e_sub (sub1 rfl) (e_op (sub2 rfl) (w := vi cells.length) ?_ (op_mod (by omega))) ?_) e_int (by rw [op_mod (by omega), hcell])
    · refine e_bi (es_cons (sub1 rfl) es_nil) ?_
      show some (vi ((cells.map vi).length : Int)) = _
      rw [List.length_map]
    · rw [hm]
      show atI (cells.map vi) m = _
      unfold atI ixN
      rw [if_pos hm0, List.length_map, if_pos hm1]
      show (cells.map vi)[m.toNat]? = _
      rw [List.getElem?_map, List.getElem?_eq_getElem hmn]
      rfl
  refine (ss_next (s_asg (v := vi (q * (69621 + 2 * C) + 30011)) (h1 := dk [] cells (c + 1)) ?_)).trans ?_
  · exact e_op (e_op (e_var rfl) (e_op e_int (e_op e_int (sub2 rfl) (op_mul (.inl (by decide)))) (op_add _ _)) (op_mul (.inl ⟨by omega, by omega⟩))) e_int (op_add _ _)
  refine (ss_next (s_asg (v := vi z) (h1 := dk [] cells (c + 1)) ?_)).trans ?_
  · exact e_op (e_op (e_var rfl) (e_op (e_op e_int (sub2 rfl) (op_mul (.inl (by decide)))) (sub2 rfl) (op_mul (.inr ⟨by omega, by omega⟩))) (op_add _ _)) e_int (by rw [op_mod (by decide), hz])
  refine ss_ret (s_ret ?_)
  exact e_op (e_op (e_op (e_op (e_var rfl) (e_var rfl) (op_mul (.inl ⟨by omega, by omega⟩))) e_int (op_mod (by decide))) e_int (op_fdiv (by decide))) (e_var rfl) (op_mod hb)
theorem draw_ok {cells big : List Int} {c : Nat} {b : Int} {rest : Hm} (hc : cells ≠ []) (hl : big.length ≤ 63) (hc2 : c < 1000000000) (h1 : 1 ≤ b) (h2 : b < 1073741824) :
    ∃ r big' c', 0 ≤ r ∧ r < b ∧ big'.length ≤ 63 ∧ c' ≤ c + 1 ∧ runDf Γ gl drawD [.ref 2, vi b] (dk big cells c ++ rest) = some (vi r, dk big' cells c' ++ rest) := by
  have fin : ∀ {r : Int} {big' : List Int} {c' : Nat} {σ' : Fr}, denSs Γ gl drawD.body [some (.ref 2), some (vi b), none, none, none] (dk big cells c) = some ((.ret (vi r), σ'), dk big' cells c') →
      runDf Γ gl drawD [.ref 2, vi b] (dk big cells c ++ rest) = some (vi r, dk big' cells c' ++ rest) := fun {r big' c' σ'} e =>
    runDf_deck (args' := [.ref 2, vi b]) (more := []) rfl rfl rfl (by rw [List.append_nil]; exact e) (.inl rfl)
  have ew : denSs Γ gl drawD.body [some (.ref 2), some (vi b), none, none, none] (dk big cells c) = (whileD false 3 (denE Γ gl whC) (denSs Γ gl whB) wfuel [some (.ref 2), some (vi b), none, none, none] (dk big cells c)).bind fun r => match r.1.1 with
      | .next => denSs Γ gl drR r.1.2 r.2
      | _ => some r := by
    show denSs Γ gl ((.whl false whC whB) :: drR) _ _ = _
    rw [denSs, denS]
    rfl
  rcases wh_ok (Γ := Γ) (gl := gl) (cells := cells) (c := c) h1 h2 big wfuel none (Nat.lt_of_le_of_lt hl (by decide)) with ⟨r, big', x4', a1, a2, a3, a4⟩ | ⟨x4', a4⟩
  · exact ⟨r, big', c, a1, a2, Nat.le_trans a3 hl, Nat.le_succ _, fin (by rw [ew, a4]; rfl)⟩
  · obtain ⟨r, σ', b1, b2, b3⟩ := drR_ok (Γ := Γ) (gl := gl) (x4 := x4') hc hc2 h1
    exact ⟨r, [], c + 1, b1, b2, Nat.zero_le _, Nat.le_refl _, fin (by rw [ew, a4]; exact b3)⟩
end
end Mi
end
/-! ## MiP2 -/
section
set_option maxHeartbeats 2000000
/-! MiP2: plain facts: mixed, picked. -/
namespace Mi
open PySem
theorem map_vi (xs : List Int) : xs.map vi = (xs.map PyData.int).map Val.dat := by rw [List.map_map]; rfl
theorem snap_dats {h : Hm} {a k : Nat} {ds : List PyData} (e : h[a]? = some (.lst (ds.map .dat))) : snap (k + 1) h (.ref a) = some (.list ds) := by
  rw [snap, e]
  show (mapO (snap k h) (ds.map Val.dat)).map PyData.list = _
  rw [mapO_map Val.dat (snap k h) id (fun i => by cases k <;> rfl), List.map_id]
  rfl
theorem dats_dats (ds : List PyData) : dats (ds.map .dat) = some ds := by
  unfold dats
  rw [mapO_map Val.dat _ id (fun _ => rfl), List.map_id]
theorem eqv_nil (ds : List PyData) : PyData.eqv (.list ds) (.list []) = ds.isEmpty := by
  cases ds with
  | nil => rfl
  | cons d ds => rfl
theorem okD_list {ds : List PyData} (h : ds.all (okD 11) = true) : okD 12 (.list ds) = true := h
theorem ne_nil {h : Hm} {a : Nat} {ds : List PyData} (e : h[a]? = some (.lst (ds.map .dat))) (ok : ds.all (okD 11) = true) : cmpV .ne h (.ref a) (vl []) = some (!ds.isEmpty) := by
  show (eqD0 h (.ref a) (vl [])).map (!·) = _
  unfold eqD0
  rw [snap_dats e]
  show (((if (okD 12 (.list ds) && true) = true then some (PyData.eqv (.list ds) (.list [])) else none) : Option Bool).map (!·)) = _
  rw [okD_list ok, eqv_nil]
  rfl
theorem ok_ints (xs : List Int) : (xs.map PyData.int).all (okD 11) = true := by
  induction xs with
  | nil => rfl
  | cons x xs ih => rw [List.map_cons, List.all_cons, ih]; rfl
theorem erase_perm {α : Type} : ∀ {l : List α} {n : Nat} (h : n < l.length), List.Perm ([l[n]] ++ l.eraseIdx n) l
  | a :: l, 0, h => List.Perm.refl _
  | a :: l, n + 1, h => by
    have h' : n < l.length := by simpa using h
    show List.Perm (l[n] :: a :: l.eraseIdx n) (a :: l)
    exact (List.Perm.swap a l[n] _).trans (List.Perm.cons a (erase_perm h'))
theorem erase_map {α β : Type} (f : α → β) : ∀ (l : List α) (n : Nat), (l.map f).eraseIdx n = (l.eraseIdx n).map f
  | [], _ => rfl
  | a :: l, 0 => rfl
  | a :: l, n + 1 => by
    show f a :: (l.map f).eraseIdx n = f a :: (l.eraseIdx n).map f
    rw [erase_map f l n]
section
variable {Γ : Env} {gl : Glo}
theorem e_nil {σ : Fr} {h : Hm} : denE Γ gl (.fz (.lst [])) σ h = some (vl [], h) := e_fz (n_lst es_nil (by decide)) rfl
/-- what a draw does -/
def DrawSp (Γ : Env) (f : Nat) : Prop := ∀ (big cells : List Int) (c : Nat) (b : Int) (rest : Hm), cells ≠ [] → big.length ≤ 63 → c < 1000000000 → 1 ≤ b → b < 1073741824 →
  ∃ r big' c', 0 ≤ r ∧ r < b ∧ big'.length ≤ 63 ∧ c' ≤ c + 1 ∧ Γ f [.ref 2, vi b] (dk big cells c ++ rest) = some (vi r, dk big' cells c' ++ rest)
theorem draw_sp {T : List Df} {f : Nat} (e : T[f]? = some drawD) (k : Nat) : DrawSp (callN T gl (k + 1)) f := by
  intro big cells c b rest h1 h2 h3 h4 h5
  obtain ⟨r, big', c', a1, a2, a3, a4, a5⟩ := draw_ok (Γ := callN T gl k) (gl := gl) (rest := rest) h1 h2 h3 h4 h5
  refine ⟨r, big', c', a1, a2, a3, a4, ?_⟩
  show ((T[f]?).bind fun d => runDf (callN T gl k) gl d _ _) = _
  rw [e]
  exact a5
def mixedD (f : Nat) : Df := { np := 2, ns := 4, md := .sub 3, body := [(.pars [2, 3] [(.nw (.list (.var 1))), (.nw (.lst []))]),
    (.whl false (.cmp .ne (.var 2) (.fz (.lst []))) [(.expr (.met .append (.var 3) [(.met .popAt (.var 2) [(.call f [(.var 0), (.bi .len [(.var 2)])])])]))]),
    (.ret (.bi .tuple [(.var 3)]))] }
theorem mx_loop {f : Nat} (D : DrawSp Γ f) {cells : List Int} (hc : cells ≠ []) {x1 : Val} {n : Nat} : ∀ (m : Nat) (ls fs big : List Int) (c k : Nat), ls.length = m → m < k → fs.length + m ≤ 100000 → big.length ≤ 63 → c + m < 1000000000 →
    ∃ (fs' big' : List Int) (c' : Nat), fs'.Perm (fs ++ ls) ∧ big'.length ≤ 63 ∧ c' ≤ c + m ∧
      whileD false n (denE Γ gl (.cmp .ne (.var 2) (.fz (.lst [])))) (denSs Γ gl [(.expr (.met .append (.var 3) [(.met .popAt (.var 2) [(.call f [(.var 0), (.bi .len [(.var 2)])])])]))]) k
        [some (.ref 2), some x1, some (.ref 3), some (.ref 4)] (dk big cells c ++ [.lst (ls.map vi), .lst (fs.map vi)]) = some ((.next, [some (.ref 2), some x1, some (.ref 3), some (.ref 4)]), dk big' cells c' ++ [.lst [], .lst (fs'.map vi)])
  | 0, ls, fs, big, c, k + 1, hl, hk, hz, hb, hcc => by
    have : ls = [] := List.length_eq_zero_iff.mp hl
    subst this
    refine ⟨fs, big, c, by rw [List.append_nil], hb, by omega, ?_⟩
    have e : denE Γ gl (.cmp .ne (.var 2) (.fz (.lst []))) [some (.ref 2), some x1, some (.ref 3), some (.ref 4)] (dk big cells c ++ [.lst (([] : List Int).map vi), .lst (fs.map vi)]) = some (vb false, dk big cells c ++ [.lst (([] : List Int).map vi), .lst (fs.map vi)]) :=
      e_cmp (e_var rfl) e_nil (ne_nil (ds := []) rfl rfl)
    rw [whileD, e]
    rfl
  | m + 1, ls, fs, big, c, k + 1, hl, hk, hz, hb, hcc => by
    have hne : (!(ls.map PyData.int).isEmpty) = true := by cases ls with
      | nil => cases hl
      | cons _ _ => rfl
    have e : denE Γ gl (.cmp .ne (.var 2) (.fz (.lst []))) [some (.ref 2), some x1, some (.ref 3), some (.ref 4)] (dk big cells c ++ [.lst (ls.map vi), .lst (fs.map vi)]) = some (vb true, dk big cells c ++ [.lst (ls.map vi), .lst (fs.map vi)]) := by
      have := ne_nil (h := dk big cells c ++ [.lst (ls.map vi), .lst (fs.map vi)]) (a := 3) (ds := ls.map .int) (by rw [← map_vi]; rfl) (ok_ints ls)
      rw [hne] at this
      exact e_cmp (e_var rfl) e_nil this
    obtain ⟨r, big1, c1, r0, r1, b1, c1', ed⟩ := D big cells c (ls.length : Int) [.lst (ls.map vi), .lst (fs.map vi)] hc hb (by omega) (by omega) (by omega)
    have hr : r.toNat < ls.length := by omega
    obtain ⟨fs', big', c', p1, p2, p3, p4⟩ := mx_loop D hc m (ls.eraseIdx r.toNat) (fs ++ [ls[r.toNat]]) big1 c1 k (by rw [List.length_eraseIdx_of_lt hr]; omega) (by omega) (by rw [List.length_append, List.length_singleton]; omega) b1 (by omega)
    refine ⟨fs', big', c', ?_, p2, by omega, ?_⟩
    · refine p1.trans ?_
      rw [List.append_assoc]
      exact List.Perm.append_left fs (erase_perm hr)
    · rw [whileD, e]
      have body : denSs Γ gl [(.expr (.met .append (.var 3) [(.met .popAt (.var 2) [(.call f [(.var 0), (.bi .len [(.var 2)])])])]))] [some (.ref 2), some x1, some (.ref 3), some (.ref 4)] (dk big cells c ++ [.lst (ls.map vi), .lst (fs.map vi)]) =
          some ((.next, [some (.ref 2), some x1, some (.ref 3), some (.ref 4)]), dk big1 cells c1 ++ [.lst ((ls.eraseIdx r.toNat).map vi), .lst ((fs ++ [ls[r.toNat]]).map vi)]) := by
        refine (ss_next (s_expr (v := vn) (h1 := dk big1 cells c1 ++ [.lst ((ls.eraseIdx r.toNat).map vi), .lst ((fs ++ [ls[r.toNat]]).map vi)]) ?_)).trans (by rw [denSs])
        refine e_met (e_var rfl) rfl (es_cons (v := vi ls[r.toNat]) (h1 := dk big1 cells c1 ++ [.lst ((ls.eraseIdx r.toNat).map vi), .lst (fs.map vi)]) ?_ es_nil) ?_
        · refine e_met (e_var rfl) rfl (es_cons (e_call (es_cons (e_var rfl) (es_cons (e_bi (es_cons (e_var rfl) es_nil) ?_) es_nil)) ed) es_nil) ?_
          · show some (vi ((ls.map vi).length : Int)) = some (vi (ls.length : Int))
            rw [List.length_map]
          · show ((ixN (ls.map vi).length r).bind fun k => ((ls.map vi)[k]?).map fun v => (v, (dk big1 cells c1 ++ [Ob.lst (ls.map vi), Ob.lst (fs.map vi)]).set 3 (.lst ((ls.map vi).eraseIdx k)))) = _
            unfold ixN
            rw [if_pos r0, List.length_map, if_pos r1]
            show ((ls.map vi)[r.toNat]?).map _ = _
            rw [List.getElem?_map, List.getElem?_eq_getElem hr]
            show some (vi ls[r.toNat], _) = _
            rw [erase_map]
            rfl
        · show (if (fs.map vi).length < sizeLine then some (vn, (dk big1 cells c1 ++ [Ob.lst ((ls.eraseIdx r.toNat).map vi), Ob.lst (fs.map vi)]).set 4 (.lst (fs.map vi ++ [vi ls[r.toNat]]))) else none) = _
          rw [if_pos]
          · rw [List.map_append]
            rfl
          · rw [List.length_map]
            exact Nat.lt_of_le_of_lt (show fs.length ≤ 100000 by omega) (by decide)
      show ((denSs Γ gl _ _ _).bind _) = _
      rw [body]
      exact p4
theorem mixed_ok {f : Nat} (D : DrawSp Γ f) {cells big : List Int} {c : Nat} {rest : Hm} {xs : List Int} (hc : cells ≠ []) (hl : big.length ≤ 63) (hx : xs.length ≤ 1000) (hc2 : c + xs.length < 1000000000) :
    ∃ (ys big' : List Int) (c' : Nat), ys.Perm xs ∧ big'.length ≤ 63 ∧ c' ≤ c + xs.length ∧ runDf Γ gl (mixedD f) [.ref 2, vl (xs.map .int)] (dk big cells c ++ rest) = some (vt (ys.map .int), dk big' cells c' ++ rest) := by
  obtain ⟨ys, big', c', p1, p2, p3, p4⟩ := mx_loop (gl := gl) (n := (dk big cells c ++ [Ob.lst (xs.map vi), Ob.lst []]).length) D hc (x1 := vl (xs.map .int)) xs.length xs [] big c wfuel rfl (Nat.lt_of_le_of_lt hx (by decide)) (by simp; omega) hl hc2
  refine ⟨ys, big', c', by simpa using p1, p2, p3, ?_⟩
  refine runDf_deck (args' := [.ref 2, vl (xs.map .int)]) (σ' := [some (.ref 2), some (vl (xs.map .int)), some (.ref 3), some (.ref 4)]) (more := [.lst [], .lst (ys.map vi)]) rfl rfl rfl ?_ (.inl rfl)
  refine (ss_next (s_pars (vs := [.ref 3, .ref 4]) (h1 := dk big cells c ++ [.lst (xs.map vi), .lst []]) ?_ rfl)).trans ?_
  · refine es_cons (e_nw (ob := .lst (xs.map vi)) (h1 := dk big cells c) ?_) (es_cons (e_nw (n_lst es_nil (by decide))) es_nil)
    rw [denN, e_var (v := vl (xs.map .int)) rfl]
    show some (Ob.lst ((xs.map PyData.int).map Val.dat), dk big cells c) = _
    rw [← map_vi]
  refine (ss_next (σ' := [some (.ref 2), some (vl (xs.map .int)), some (.ref 3), some (.ref 4)]) (h' := dk big' cells c' ++ [.lst [], .lst (ys.map vi)]) ?_).trans ?_
  · rw [denS]
    exact p4
  refine ss_ret (s_ret (e_bi (es_cons (e_var rfl) es_nil) ?_))
  show (dats (ys.map vi)).map vt = _
  rw [map_vi, dats_dats]
  rfl
def pickD (f : Nat) : Df := { np := 2, ns := 2, md := .sub 3, body := [(.ret (.sub (.var 1) (.call f [(.var 0), (.bi .len [(.var 1)])])))] }
theorem pick_ok {f : Nat} (D : DrawSp Γ f) {cells big : List Int} {c : Nat} {rest : Hm} {ds : List PyData} (hc : cells ≠ []) (hl : big.length ≤ 63) (hd : ds ≠ []) (hx : ds.length ≤ 1000000) (hc2 : c < 1000000000) :
    ∃ (i : Nat) (hi : i < ds.length) (big' : List Int) (c' : Nat), big'.length ≤ 63 ∧ c' ≤ c + 1 ∧ runDf Γ gl (pickD f) [.ref 2, vl ds] (dk big cells c ++ rest) = some (.dat ds[i], dk big' cells c' ++ rest) := by
  have hp : 0 < ds.length := List.length_pos_iff.mpr hd
  obtain ⟨r, big1, c1, r0, r1, b1, c1', ed⟩ := D big cells c (ds.length : Int) [] hc hl hc2 (by omega) (by omega)
  have hr : r.toNat < ds.length := by omega
  refine ⟨r.toNat, hr, big1, c1, b1, c1', ?_⟩
  refine runDf_deck (args' := [.ref 2, vl ds]) (σ' := [some (.ref 2), some (vl ds)]) (more := []) rfl rfl rfl ?_ (.inl rfl)
  rw [List.append_nil, List.append_nil] at ed
  rw [List.append_nil]
  refine ss_ret (s_ret (e_sub (e_var rfl) (e_call (es_cons (e_var rfl) (es_cons (e_bi (es_cons (e_var rfl) es_nil) ?_) es_nil)) ed) ?_))
  · show some (vi ((ds.map Val.dat).length : Int)) = some (vi (ds.length : Int))
    rw [List.length_map]
  · show atI (ds.map Val.dat) r = _
    unfold atI ixN
    rw [if_pos r0, List.length_map, if_pos r1]
    show (ds.map Val.dat)[r.toNat]? = _
    rw [List.getElem?_map, List.getElem?_eq_getElem hr]
    rfl
end
end Mi
end
/-! ## MiP3 -/
section
set_option maxHeartbeats 2000000
/-! MiP3: plain facts: histories as the laws make them. -/
namespace Mi
open PySem
abbrev tI (r : List Int) : PyData := .tuple (r.map .int)
abbrev tP (p : Int × Int) : PyData := .tuple [.int p.1, .int p.2]
def hH (R : List (List Int)) (O : List (Int × Int)) : Hm := [Ob.lst ((R.map tI).map .dat), Ob.lst ((O.map tP).map .dat)]
def push (R : List (List Int)) (p : Nat) (x : Int) : List (List Int) := R.set p (R.getD p [] ++ [x])
/-- what the laws' generator of histories reaches: turns, rows, messages under way (number, sender), messages sent -/
inductive Gen (nm : Nat → Int) (cnt : Nat) : Nat → List (List Int) → List (Int × Int) → Nat → Prop
  | zero : Gen nm cnt 0 (List.replicate cnt []) [] 0
  | save {j R O u p} : Gen nm cnt j R O u → p < cnt → Gen nm cnt (j + 1) (push R p 0) O u
  | send {j R O u p} : Gen nm cnt j R O u → p < cnt → u < 24 → Gen nm cnt (j + 1) (push R p (nm u)) (O ++ [(nm u, (p : Int))]) (u + 1)
  | skip {j R O u} : Gen nm cnt j R O u → Gen nm cnt (j + 1) R O u
  | recv {j R O u p k m q} : Gen nm cnt j R O u → p < cnt → O[k]? = some (m, q) → q ≠ (p : Int) → Gen nm cnt (j + 1) (push R p (0 - m)) (O.eraseIdx k) u
theorem Gen.len {nm : Nat → Int} {cnt j u : Nat} {R : List (List Int)} {O : List (Int × Int)} (g : Gen nm cnt j R O u) : R.length = cnt ∧ u ≤ 24 ∧ O.length ≤ j ∧ ∀ r ∈ R, r.length ≤ j := by
  have pushed : ∀ {R : List (List Int)} {p : Nat} {x : Int} {j : Nat}, (∀ r ∈ R, r.length ≤ j) → ∀ r ∈ push R p x, r.length ≤ j + 1 := fun {R p x j} h r hr => by
    unfold push at hr
    rcases List.mem_or_eq_of_mem_set hr with k | k
    · exact Nat.le_succ_of_le (h r k)
    · subst k
      rw [List.length_append, List.length_singleton]
      by_cases hp : p < R.length
      · rw [List.getD_eq_getElem?_getD, List.getElem?_eq_getElem hp]
        exact Nat.succ_le_succ (h _ (List.getElem_mem hp))
      · rw [List.getD_eq_getElem?_getD, List.getElem?_eq_none (by omega)]
        exact Nat.succ_le_succ (Nat.zero_le _)
  induction g with
  | zero => exact ⟨List.length_replicate, Nat.zero_le _, Nat.le_refl _, fun r hr => by rw [List.eq_of_mem_replicate hr]; exact Nat.le_refl _⟩
  | save _ _ ih => exact ⟨by unfold push; rw [List.length_set]; exact ih.1, ih.2.1, Nat.le_succ_of_le ih.2.2.1, pushed ih.2.2.2⟩
  | send _ _ hu ih => exact ⟨by unfold push; rw [List.length_set]; exact ih.1, hu, by rw [List.length_append]; exact Nat.succ_le_succ ih.2.2.1, pushed ih.2.2.2⟩
  | skip _ ih => exact ⟨ih.1, ih.2.1, Nat.le_succ_of_le ih.2.2.1, fun r hr => Nat.le_succ_of_le (ih.2.2.2 r hr)⟩
  | recv _ _ _ _ ih => exact ⟨by unfold push; rw [List.length_set]; exact ih.1, ih.2.1, Nat.le_trans (List.length_eraseIdx_le _ _) (Nat.le_succ_of_le ih.2.2.1), pushed ih.2.2.2⟩
/-! ### walks -/
theorem compD_filter {α : Type} {g : Gd} {F : Itm → Hm → Option (Option Val × Hm)} {h : Hm} (ok : g.ok h = true) (f : α → Itm) (keep : α → Bool) (val : α → Val) : ∀ (xs : List α) (acc : List Val), (∀ a ∈ xs, F (f a) h = some (if keep a then (some (val a), h) else (none, h))) →
    compD g F (xs.map f) acc h = some (acc ++ (xs.filter keep).map val, h)
  | [], acc, _ => by
    rw [List.map_nil, compD, if_pos ok, List.filter_nil, List.map_nil, List.append_nil]
  | a :: xs, acc, hF => by
    have ha := hF a List.mem_cons_self
    rw [List.map_cons, compD, if_pos ok, ha]
    cases hk : keep a with
    | true =>
      show compD g F (xs.map f) (acc ++ [val a]) h = _
      rw [compD_filter ok f keep val xs _ fun b hb => hF b (List.mem_cons_of_mem _ hb), List.filter_cons_of_pos hk, List.map_cons, List.append_assoc]
      rfl
    | false =>
      show compD g F (xs.map f) acc h = _
      rw [compD_filter ok f keep val xs _ fun b hb => hF b (List.mem_cons_of_mem _ hb), List.filter_cons_of_neg (by rw [hk]; decide)]
theorem forD_inv {n : Nat} {f : Itm → Fr → Hm → Res} (J : Nat → Fr → Hm → Prop) : ∀ (its : List Itm) (i : Nat) (σ : Fr) (h : Hm), (∀ k it, its[k]? = some it → ∀ σ h, J (i + k) σ h → ∃ σ' h', f it σ h = some ((.next, σ'), h') ∧ J (i + k + 1) σ' h') → J i σ h →
    ∃ σ' h', forD none false n f its σ h = some ((.next, σ'), h') ∧ J (i + its.length) σ' h'
  | [], i, σ, h, _, j => ⟨σ, h, rfl, j⟩
  | it :: its, i, σ, h, H, j => by
    obtain ⟨σ1, h1, e1, j1⟩ := H 0 it rfl σ h j
    obtain ⟨σ2, h2, e2, j2⟩ := forD_inv J its (i + 1) σ1 h1 (fun k it' e σ h j => by
      have := H (k + 1) it' (by simpa using e) σ h (by rw [show i + (k + 1) = i + 1 + k by omega]; exact j)
      rw [show i + (k + 1) + 1 = i + 1 + k + 1 by omega] at this
      exact this) (by simpa using j1)
    refine ⟨σ2, h2, ?_, by rw [List.length_cons, show i + (its.length + 1) = i + 1 + its.length by omega]; exact j2⟩
    rw [forD]
    show ((f it σ h).bind _) = _
    rw [e1]
    exact e2
section
variable {Γ : Env} {gl : Glo}
theorem cmp_lt {h : Hm} {i j : Int} : cmpV .lt h (vi i) (vi j) = some (decide (i < j)) := rfl
theorem cmp_eqi {h : Hm} {i j : Int} : cmpV .eq h (vi i) (vi j) = some (i == j) := rfl
theorem cmp_nei {h : Hm} {i j : Int} : cmpV .ne h (vi i) (vi j) = some (!(i == j)) := rfl
theorem ok_pairs (O : List (Int × Int)) : (O.map tP).all (okD 11) = true := by
  induction O with
  | nil => rfl
  | cons x xs ih => rw [List.map_cons, List.all_cons, ih]; rfl
theorem ok_pairs12 (O : List (Int × Int)) : (O.map tP).all (okD 12) = true := by
  induction O with
  | nil => rfl
  | cons x xs ih => rw [List.map_cons, List.all_cons, ih]; rfl
theorem eq_nil {h : Hm} {ds : List PyData} (ok : ds.all (okD 11) = true) : cmpV .eq h (vl ds) (vl []) = some ds.isEmpty := by
  show (if (okD 12 (.list ds) && true) = true then some (PyData.eqv (.list ds) (.list [])) else none) = _
  rw [okD_list ok, eqv_nil]
  rfl
theorem c_some {e : E} {σ : Fr} {h h1 : Hm} {b : Bool} (e1 : denE Γ gl e σ h = some (vb b, h1)) : denC Γ gl (some e) σ h = some (b, h1) := by rw [denC, e1]; rfl
theorem eqv_pair (a b : Int × Int) : PyData.eqv (tP a) (tP b) = (a == b) := by
  obtain ⟨a1, a2⟩ := a
  obtain ⟨b1, b2⟩ := b
  show (a1 == b1 && (a2 == b2 && true)) = ((a1, a2) == (b1, b2))
  rw [Bool.and_true]
  rfl
theorem find_pair {O : List (Int × Int)} {q : Int × Int} (h : q ∈ O) : ∃ k, findD (tP q) (O.map tP) = some k ∧ O[k]? = some q := by
  induction O with
  | nil => cases h
  | cons a O ih =>
    unfold findD
    rw [List.map_cons, List.findIdx?_cons, eqv_pair]
    by_cases e : a = q
    · subst e
      exact ⟨0, by rw [beq_self_eq_true]; rfl, rfl⟩
    · have hq : q ∈ O := by
        rcases List.mem_cons.mp h with z | z
        · exact absurd z.symm e
        · exact z
      obtain ⟨k, e1, e2⟩ := ih hq
      unfold findD at e1
      exact ⟨k + 1, by rw [e1, beq_false_of_ne e]; rfl, by simpa using e2⟩
def histB (fD fP : Nat) : List S := [(.pars [11, 12] [(.call fD [(.var 0), (.var 3)]), (.call fD [(.var 0), (.int 6)])]),
    (.asg (.name 10) (.fz (.comp (.var 13) (.name 13) (.e (.var 8)) (some (.cmp .ne (.sub (.var 13) (.int 1)) (.var 11))) [13]))),
    (.ifs (.or (.and (.cmp .lt (.var 12) (.int 2)) (.cmp .ne (.var 6) (.int 3))) (.cmp .eq (.var 12) (.int 0))) [(.sset (.var 7) (.var 11) (.op .add (.sub (.var 7) (.var 11)) (.tup [(.int 0)])))] [(.ifs (.or (.and (.cmp .lt (.var 12) (.int 4)) (.cmp .lt (.var 9) (.int 24))) (.cmp .eq (.var 10) (.fz (.lst [])))) [(.ifs (.cmp .lt (.var 9) (.int 24)) [(.asg (.name 14) (.ite (.cmp .eq (.var 6) (.int 0)) (.op .add (.var 9) (.int 1)) (.sub (.var 4) (.var 9)))),
    (.sset (.var 7) (.var 11) (.op .add (.sub (.var 7) (.var 11)) (.tup [(.var 14)]))),
    (.expr (.met .append (.var 8) [(.tup [(.var 14), (.var 11)])])),
    (.asg (.name 9) (.op .add (.var 9) (.int 1)))] [])] [(.asg (.name 13) (.ite (.cmp .eq (.var 6) (.int 1)) (.sub (.var 10) (.int 0)) (.call fP [(.var 0), (.var 10)]))),
    (.expr (.met .remove (.var 8) [(.var 13)])),
    (.sset (.var 7) (.var 11) (.op .add (.sub (.var 7) (.var 11)) (.tup [(.op .sub (.int 0) (.sub (.var 13) (.int 0)))])))])])]
def histD (fD fM fP : Nat) : Df := { np := 3, ns := 15, md := .sub 3, body := [(.asg (.name 3) (.op .add (.int 1) (.call fD [(.var 0), (.var 1)]))),
    (.asg (.name 4) (.call fM [(.var 0), (.fz (.listR (.int 1) (.int 25)))])),
    (.pars [6, 7, 8, 9] [(.call fD [(.var 0), (.int 4)]), (.nw (.rep (.fz (.lst [(.tup [])])) (.var 3))), (.nw (.lst [])), (.int 0)]),
    (.loop false (.name 5) (.range1 (.call fD [(.var 0), (.op .add (.var 2) (.int 1))])) (histB fD fP)),
    (.ret (.bi .tuple [(.var 7)]))] }
/-- rows[p] = rows[p] + (x,) -/
theorem push_row {R : List (List Int)} {O : List (Int × Int)} {big cells : List Int} {c p : Nat} {x : Int} {e : E} {σ : Fr} (h7 : σ[7]? = some (some (.ref 3))) (h11 : σ[11]? = some (some (vi (p : Int)))) (hp : p < R.length) (hz : ∀ r ∈ R, r.length ≤ 1000) (he : denE Γ gl e σ (dk big cells c ++ hH R O) = some (vi x, dk big cells c ++ hH R O)) :
    denS Γ gl (.sset (.var 7) (.var 11) (.op .add (.sub (.var 7) (.var 11)) (.tup [e]))) σ (dk big cells c ++ hH R O) = some ((.next, σ), dk big cells c ++ hH (push R p x) O) := by
  have ix : ixN ((R.map tI).map Val.dat).length (p : Int) = some p := by
    unfold ixN
    rw [if_pos (Int.natCast_nonneg p), List.length_map, List.length_map, if_pos (by omega)]
    rfl
  have g : ((R.map tI).map Val.dat)[p]? = some (.dat (tI R[p])) := by rw [List.getElem?_map, List.getElem?_map, List.getElem?_eq_getElem hp]; rfl
  have gd : R.getD p [] = R[p] := by rw [List.getD_eq_getElem?_getD, List.getElem?_eq_getElem hp]; rfl
  refine s_sset (v := .dat (tI (R[p] ++ [x]))) (e_op (e_sub (u := .dat (tI R[p])) (e_var h7) (e_var h11) ?_) (e_tup (es_cons he es_nil) rfl (show 1 ≤ sizeLine by decide)) ?_) (e_var h7) (e_var h11) ?_
  · show atI ((R.map tI).map Val.dat) (p : Int) = _
    unfold atI
    rw [ix]
    exact g
  · show (if (R[p].map PyData.int).length + 1 ≤ sizeLine then some (vt (R[p].map PyData.int ++ [.int x])) else none) = _
    rw [if_pos]
    · show some (vt (R[p].map PyData.int ++ [.int x])) = some (vt ((R[p] ++ [x]).map PyData.int))
      rw [List.map_append]
      rfl
    · rw [List.length_map]
      exact Nat.le_trans (Nat.succ_le_succ (hz _ (List.getElem_mem hp))) (by decide)
  · show ((ixN ((R.map tI).map Val.dat).length (p : Int)).map fun k => (dk big cells c ++ hH R O).set 3 (Ob.lst (((R.map tI).map Val.dat).set k (.dat (tI (R[p] ++ [x])))))) = _
    rw [ix]
    show some (dk big cells c ++ [Ob.lst (((R.map tI).map Val.dat).set p (.dat (tI (R[p] ++ [x])))), Ob.lst ((O.map tP).map .dat)]) = some (dk big cells c ++ [Ob.lst (((push R p x).map tI).map Val.dat), Ob.lst ((O.map tP).map .dat)])
    unfold push
    rw [gd, List.map_set, List.map_set]
def PickSp (Γ : Env) (f : Nat) : Prop := ∀ (big cells : List Int) (c : Nat) (ds : List PyData) (rest : Hm), cells ≠ [] → big.length ≤ 63 → ds ≠ [] → ds.length ≤ 1000000 → c < 1000000000 →
  ∃ (i : Nat) (hi : i < ds.length) (big' : List Int) (c' : Nat), big'.length ≤ 63 ∧ c' ≤ c + 1 ∧ Γ f [.ref 2, vl ds] (dk big cells c ++ rest) = some (.dat ds[i], dk big' cells c' ++ rest)
theorem pick_sp {T : List Df} {f fD : Nat} (eD : T[fD]? = some drawD) (e : T[f]? = some (pickD fD)) (k : Nat) : PickSp (callN T gl (k + 2)) f := by
  intro big cells c ds rest h1 h2 h3 h4 h5
  obtain ⟨i, hi, big', c', a1, a2, a3⟩ := pick_ok (gl := gl) (rest := rest) (draw_sp (gl := gl) eD k) h1 h2 h3 h4 h5
  refine ⟨i, hi, big', c', a1, a2, ?_⟩
  show ((T[f]?).bind fun d => runDf (callN T gl (k + 1)) gl d _ _) = _
  rw [e]
  exact a3
def MixSp (Γ : Env) (f : Nat) : Prop := ∀ (big cells : List Int) (c : Nat) (xs : List Int) (rest : Hm), cells ≠ [] → big.length ≤ 63 → xs.length ≤ 1000 → c + xs.length < 1000000000 →
  ∃ (ys big' : List Int) (c' : Nat), ys.Perm xs ∧ big'.length ≤ 63 ∧ c' ≤ c + xs.length ∧ Γ f [.ref 2, vl (xs.map .int)] (dk big cells c ++ rest) = some (vt (ys.map .int), dk big' cells c' ++ rest)
theorem mix_sp {T : List Df} {f fD : Nat} (eD : T[fD]? = some drawD) (e : T[f]? = some (mixedD fD)) (k : Nat) : MixSp (callN T gl (k + 2)) f := by
  intro big cells c xs rest h1 h2 h3 h4
  obtain ⟨ys, big', c', a1, a2, a3, a4⟩ := mixed_ok (gl := gl) (rest := rest) (draw_sp (gl := gl) eD k) h1 h2 h3 h4
  refine ⟨ys, big', c', a1, a2, a3, ?_⟩
  show ((T[f]?).bind fun d => runDf (callN T gl (k + 1)) gl d _ _) = _
  rw [e]
  exact a4
def compFx (Γ : Env) (gl : Glo) (σ : Fr) : Itm → Hm → Option (Option Val × Hm) := fun x h => (tgItm (.name 13) x (wipeF σ [13])).bind fun σ' => (denC Γ gl (some (.cmp .ne (.sub (.var 13) (.int 1)) (.var 11))) σ' h).bind fun q => if q.1 then (denE Γ gl (.var 13) σ' q.2).map fun r => (some r.1, r.2) else some (none, q.2)
def hfr (vm vs : Val) (cnt : Nat) (names : List Int) (kind : Int) (u : Nat) (x5 x10 x11 x12 x13 x14 : Option Val) : Fr :=
  [some (.ref 2), some vm, some vs, some (vi (cnt : Int)), some (vt (names.map .int)), x5, some (vi kind), some (.ref 3), some (.ref 4), some (vi (u : Int)), x10, x11, x12, x13, x14]
def nmOf (kind : Int) (names : List Int) (u : Nat) : Int := if kind = 0 then (u : Int) + 1 else names.getD u 0
theorem hist_turn {fD fP : Nat} (D : DrawSp Γ fD) (Pk : PickSp Γ fP) {cells : List Int} (hc : cells ≠ []) {vm vs : Val} {cnt : Nat} {names : List Int} {kind : Int} (hcnt : 1 ≤ cnt) (hcnt2 : cnt ≤ 1000000) (hnm : names.length = 24) {j u c : Nat} {R : List (List Int)} {O : List (Int × Int)} {big : List Int} {x5 x10 x11 x12 x13 x14 : Option Val}
    (hb : big.length ≤ 63) (hcc : c + 3 < 1000000000) (hj : j < 900) (g : Gen (nmOf kind names) cnt j R O u) :
    ∃ R' O' u' big' c' x10' x11' x12' x13' x14', denSs Γ gl (histB fD fP) (hfr vm vs cnt names kind u x5 x10 x11 x12 x13 x14) (dk big cells c ++ hH R O) = some ((.next, hfr vm vs cnt names kind u' x5 x10' x11' x12' x13' x14'), dk big' cells c' ++ hH R' O') ∧
      big'.length ≤ 63 ∧ c' ≤ c + 3 ∧ Gen (nmOf kind names) cnt (j + 1) R' O' u' := by
  obtain ⟨gl1, gl2, gl3, gl4⟩ := g.len
  have hz : ∀ r ∈ R, r.length ≤ 1000 := fun r hr => Nat.le_trans (gl4 r hr) (by omega)
  obtain ⟨p, big1, c1, p0, p1, b1, c1', e1⟩ := D big cells c (cnt : Int) (hH R O) hc hb (by omega) (by omega) (by omega)
  obtain ⟨w, big2, c2, w0, w1, b2, c2', e2⟩ := D big1 cells c1 6 (hH R O) hc b1 (by omega) (by omega) (by omega)
  obtain ⟨pn, rfl⟩ : ∃ pn : Nat, p = (pn : Int) := ⟨p.toNat, by omega⟩
  have hp : pn < cnt := by omega
  have hpR : pn < R.length := by omega
  let rdy : List (Int × Int) := O.filter fun q => !(q.2 == (pn : Int))
  let σ2 : Fr := hfr vm vs cnt names kind u x5 (some (vl (rdy.map tP))) (some (vi (pn : Int))) (some (vi w)) x13 x14
  have s1 : denSs Γ gl (histB fD fP) (hfr vm vs cnt names kind u x5 x10 x11 x12 x13 x14) (dk big cells c ++ hH R O) = denSs Γ gl ((histB fD fP).drop 2) σ2 (dk big2 cells c2 ++ hH R O) := by
    refine (ss_next (s_pars (vs := [vi (pn : Int), vi w]) (h1 := dk big2 cells c2 ++ hH R O) (σ' := hfr vm vs cnt names kind u x5 x10 (some (vi (pn : Int))) (some (vi w)) x13 x14) ?_ rfl)).trans ?_
    · exact es_cons (e_call (es_cons (e_var rfl) (es_cons (e_var rfl) es_nil)) e1) (es_cons (e_call (es_cons (e_var rfl) (es_cons e_int es_nil)) e2) es_nil)
    · refine (ss_next (s_asg (v := vl (rdy.map tP)) (h1 := dk big2 cells c2 ++ hH R O) ?_)).trans rfl
      refine e_fz (vs := (rdy.map tP).map .dat) ?_ (dats_dats _)
      rw [denN, denI, e_var (v := .ref 4) rfl]
      have gok : Gd.ok (some (4, (O.map tP).map .dat)) (dk big2 cells c2 ++ hH R O) = true := decide_eq_true rfl
      have := compD_filter (g := some (4, (O.map tP).map .dat)) (F := compFx Γ gl (hfr vm vs cnt names kind u x5 x10 (some (vi (pn : Int))) (some (vi w)) x13 x14)) gok (fun q : Int × Int => Itm.one (.dat (tP q))) (fun q => !(q.2 == (pn : Int))) (fun q => .dat (tP q)) O [] ?_
      · have e3 : ((O.map tP).map Val.dat).map Itm.one = O.map fun q : Int × Int => Itm.one (.dat (tP q)) := by rw [List.map_map, List.map_map]; rfl
        show ((compD (some (4, (O.map tP).map .dat)) (compFx Γ gl (hfr vm vs cnt names kind u x5 x10 (some (vi (pn : Int))) (some (vi w)) x13 x14)) (((O.map tP).map Val.dat).map Itm.one) [] (dk big2 cells c2 ++ hH R O)).map fun q => (Ob.lst q.1, q.2)) = _
        rw [e3, this, List.nil_append]
        show some (Ob.lst (rdy.map fun q => Val.dat (tP q)), _) = _
        rw [List.map_map]
        rfl
      · intro q _
        have ec : denC Γ gl (some (.cmp .ne (.sub (.var 13) (.int 1)) (.var 11))) (hfr vm vs cnt names kind u x5 x10 (some (vi (pn : Int))) (some (vi w)) (some (.dat (tP q))) x14) (dk big2 cells c2 ++ hH R O) = some (!(q.2 == (pn : Int)), dk big2 cells c2 ++ hH R O) :=
          c_some (e_cmp (e_sub (e_var rfl) e_int rfl) (e_var rfl) cmp_nei)
        show ((denC Γ gl (some (.cmp .ne (.sub (.var 13) (.int 1)) (.var 11))) (hfr vm vs cnt names kind u x5 x10 (some (vi (pn : Int))) (some (vi w)) (some (.dat (tP q))) x14) (dk big2 cells c2 ++ hH R O)).bind fun r => if r.1 then (denE Γ gl (.var 13) (hfr vm vs cnt names kind u x5 x10 (some (vi (pn : Int))) (some (vi w)) (some (.dat (tP q))) x14) r.2).map fun r => (some r.1, r.2) else some (none, r.2)) = _
        rw [ec]
        cases hq : (!(q.2 == (pn : Int))) with
        | true =>
          have ev : denE Γ gl (.var 13) (hfr vm vs cnt names kind u x5 x10 (some (vi (pn : Int))) (some (vi w)) (some (.dat (tP q))) x14) (dk big2 cells c2 ++ hH R O) = some (.dat (tP q), dk big2 cells c2 ++ hH R O) := e_var rfl
          simp only [Option.bind_some, ↓reduceIte, ev, Option.map_some]
        | false => rfl
  rw [s1]
  let H2 : Hm := dk big2 cells c2 ++ hH R O
  have one : ∀ {s : S} {σ' : Fr} {h' : Hm}, denS Γ gl s σ2 H2 = some ((.next, σ'), h') → denSs Γ gl [s] σ2 H2 = some ((.next, σ'), h') := fun {s σ' h'} e => (ss_next e).trans (by rw [denSs])
  have k1 : denE Γ gl (.or (.and (.cmp .lt (.var 12) (.int 2)) (.cmp .ne (.var 6) (.int 3))) (.cmp .eq (.var 12) (.int 0))) σ2 H2 = some (vb ((decide (w < 2) && !(kind == 3)) || (w == 0)), H2) :=
    e_or (e_and (e_cmp (e_var rfl) e_int cmp_lt) (fun _ => e_cmp (e_var rfl) e_int cmp_nei) fun _ => rfl) (fun _ => e_cmp (e_var rfl) e_int cmp_eqi) fun _ => rfl
  have k2 : denE Γ gl (.or (.and (.cmp .lt (.var 12) (.int 4)) (.cmp .lt (.var 9) (.int 24))) (.cmp .eq (.var 10) (.fz (.lst [])))) σ2 H2 = some (vb ((decide (w < 4) && decide ((u : Int) < 24)) || (rdy.map tP).isEmpty), H2) :=
    e_or (e_and (e_cmp (e_var rfl) e_int cmp_lt) (fun _ => e_cmp (e_var rfl) e_int cmp_lt) fun _ => rfl) (fun _ => e_cmp (e_var rfl) e_nil (eq_nil (ok_pairs rdy))) fun _ => rfl
  have k3 : denE Γ gl (.cmp .lt (.var 9) (.int 24)) σ2 H2 = some (vb (decide ((u : Int) < 24)), H2) := e_cmp (e_var rfl) e_int cmp_lt
  cases hb1 : ((decide (w < 2) && !(kind == 3)) || (w == 0)) with
  | true =>
    refine ⟨push R pn 0, O, u, big2, c2, some (vl (rdy.map tP)), some (vi (pn : Int)), some (vi w), x13, x14, one ?_, b2, by omega, g.save hp⟩
    rw [s_if k1, hb1]
    exact (ss_next (push_row rfl rfl hpR hz e_int)).trans (by rw [denSs])
  | false =>
    cases hb2 : ((decide (w < 4) && decide ((u : Int) < 24)) || (rdy.map tP).isEmpty) with
    | true =>
      cases hb3 : decide ((u : Int) < 24) with
      | false =>
        refine ⟨R, O, u, big2, c2, some (vl (rdy.map tP)), some (vi (pn : Int)), some (vi w), x13, x14, one ?_, b2, by omega, g.skip⟩
        rw [s_if k1, hb1]
        refine one ?_
        rw [s_if k2, hb2]
        refine one ?_
        rw [s_if k3, hb3]
        show denSs Γ gl [] σ2 H2 = _
        rw [denSs]
      | true =>
        have hu : u < 24 := by have := of_decide_eq_true hb3; omega
        have nmu : (if (kind == 0) = true then vi ((u : Int) + 1) else vi (names.getD u 0)) = vi (nmOf kind names u) := by
          unfold nmOf
          by_cases hk : kind = 0
          · subst hk; rfl
          · rw [if_neg hk, if_neg (by simpa using hk)]
        refine ⟨push R pn (nmOf kind names u), O ++ [(nmOf kind names u, (pn : Int))], u + 1, big2, c2, some (vl (rdy.map tP)), some (vi (pn : Int)), some (vi w), x13, some (vi (nmOf kind names u)), one ?_, b2, by omega, g.send hp hu⟩
        rw [s_if k1, hb1]
        refine one ?_
        rw [s_if k2, hb2]
        refine one ?_
        rw [s_if k3, hb3]
        refine (ss_next (s_asg (v := vi (nmOf kind names u)) (h1 := H2) ?_)).trans ?_
        · refine e_ite (u := (kind == 0)) (e_cmp (e_var rfl) e_int cmp_eqi) ?_
          rw [← nmu]
          cases hk : (kind == 0) with
          | true => exact e_op (e_var rfl) e_int (op_add _ _)
          | false =>
            refine e_sub (e_var rfl) (e_var rfl) ?_
            show atI ((names.map PyData.int).map Val.dat) (u : Int) = _
            unfold atI ixN
            rw [if_pos (Int.natCast_nonneg u), List.length_map, List.length_map, if_pos (by omega)]
            show ((names.map PyData.int).map Val.dat)[u]? = _
            have hun : u < names.length := by omega
            rw [List.getElem?_map, List.getElem?_map, List.getElem?_eq_getElem hun, List.getD_eq_getElem?_getD, List.getElem?_eq_getElem hun]
            rfl
        refine (ss_next (push_row (x := nmOf kind names u) rfl rfl hpR hz (e_var rfl))).trans ?_
        refine (ss_next (s_expr (v := vn) (h1 := dk big2 cells c2 ++ hH (push R pn (nmOf kind names u)) (O ++ [(nmOf kind names u, (pn : Int))])) ?_)).trans ?_
        · refine e_met (e_var rfl) rfl (es_cons (e_tup (es_cons (e_var rfl) (es_cons (e_var rfl) es_nil)) rfl (show 2 ≤ sizeLine by decide)) es_nil) ?_
          show (if ((O.map tP).map Val.dat).length < sizeLine then some (vn, (dk big2 cells c2 ++ hH (push R pn (nmOf kind names u)) O).set 4 (Ob.lst ((O.map tP).map Val.dat ++ [.dat (tP (nmOf kind names u, (pn : Int)))]))) else none) = _
          rw [if_pos]
          · show some (vn, dk big2 cells c2 ++ [_, Ob.lst ((O.map tP).map Val.dat ++ [.dat (tP (nmOf kind names u, (pn : Int)))])]) = some (vn, dk big2 cells c2 ++ [_, Ob.lst (((O ++ [(nmOf kind names u, (pn : Int))]).map tP).map Val.dat)])
            rw [List.map_append, List.map_append]
            rfl
          · rw [List.length_map, List.length_map]
            exact Nat.lt_of_le_of_lt (show O.length ≤ 900 by omega) (by decide)
        refine (ss_next (s_asg (v := vi (((u + 1 : Nat)) : Int)) (e_op (e_var rfl) e_int (op_add _ _)))).trans ?_
        rw [denSs]
        rfl
    | false =>
      have hne : rdy ≠ [] := fun z => by
        rw [Bool.or_eq_false_iff, z] at hb2
        cases hb2.2
      have hlr : rdy.length ≤ O.length := List.length_filter_le _ _
      obtain ⟨i, hi, big3, c3, b3, c3', e3⟩ := Pk big2 cells c2 (rdy.map tP) (hH R O) hc b2 (by simpa using hne) (by rw [List.length_map]; omega) (by omega)
      have hpos : 0 < rdy.length := List.length_pos_iff.mpr hne
      have hi' : i < rdy.length := by rw [List.length_map] at hi; exact hi
      have hsub : ∀ q ∈ rdy, q ∈ O ∧ q.2 ≠ (pn : Int) := fun q hq => by
        obtain ⟨a, b⟩ := List.mem_filter.mp hq
        exact ⟨a, by simpa using b⟩
      -- the pair
      have pair : ∃ q ∈ rdy, ∃ big4 c4, big4.length ≤ 63 ∧ c4 ≤ c2 + 1 ∧ denE Γ gl (.ite (.cmp .eq (.var 6) (.int 1)) (.sub (.var 10) (.int 0)) (.call fP [(.var 0), (.var 10)])) σ2 H2 = some (.dat (tP q), dk big4 cells c4 ++ hH R O) := by
        cases hk : (kind == 1) with
        | true =>
          refine ⟨rdy[0], List.getElem_mem hpos, big2, c2, b2, by omega, ?_⟩
          refine e_ite (u := true) (by rw [← hk]; exact e_cmp (e_var rfl) e_int cmp_eqi) ?_
          refine e_sub (e_var rfl) e_int ?_
          show atI ((rdy.map tP).map Val.dat) 0 = _
          unfold atI ixN
          rw [if_pos (by decide), List.length_map, List.length_map, if_pos (by omega)]
          show ((rdy.map tP).map Val.dat)[0]? = _
          rw [List.getElem?_map, List.getElem?_map, List.getElem?_eq_getElem hpos]
          rfl
        | false =>
          refine ⟨rdy[i], List.getElem_mem hi', big3, c3, b3, c3', ?_⟩
          refine e_ite (u := false) (by rw [← hk]; exact e_cmp (e_var rfl) e_int cmp_eqi) ?_
          refine e_call (es_cons (e_var rfl) (es_cons (e_var rfl) es_nil)) ?_
          rw [e3, List.getElem_map]
      obtain ⟨q, hq, big4, c4, b4, c4', e4⟩ := pair
      obtain ⟨hqO, hqp⟩ := hsub q hq
      obtain ⟨k, fk, ok⟩ := find_pair hqO
      refine ⟨push R pn (0 - q.1), O.eraseIdx k, u, big4, c4, some (vl (rdy.map tP)), some (vi (pn : Int)), some (vi w), some (.dat (tP q)), x14, one ?_, b4, by omega, g.recv (m := q.1) (q := q.2) hp ok hqp⟩
      rw [s_if k1, hb1]
      refine one ?_
      rw [s_if k2, hb2]
      refine (ss_next (s_asg e4)).trans ?_
      refine (ss_next (s_expr (v := vn) (h1 := dk big4 cells c4 ++ hH R (O.eraseIdx k)) ?_)).trans ?_
      · refine e_met (e_var rfl) rfl (es_cons (e_var (v := .dat (tP q)) rfl) es_nil) ?_
        show ((dats ((O.map tP).map Val.dat)).bind fun ds => if (okD 12 (tP q) && ds.all (okD 12)) = true then (findD (tP q) ds).map fun k => (vn, (dk big4 cells c4 ++ hH R O).set 4 (Ob.lst (((O.map tP).map Val.dat).eraseIdx k))) else none) = _
        rw [dats_dats]
        show (if (okD 12 (tP q) && (O.map tP).all (okD 12)) = true then (findD (tP q) (O.map tP)).map _ else none) = _
        rw [if_pos, fk]
        · show some (vn, dk big4 cells c4 ++ [_, Ob.lst (((O.map tP).map Val.dat).eraseIdx k)]) = some (vn, dk big4 cells c4 ++ [_, Ob.lst (((O.eraseIdx k).map tP).map Val.dat)])
          rw [erase_map, erase_map]
        · rw [ok_pairs12]
          rfl
      refine (ss_next (push_row (x := 0 - q.1) rfl rfl hpR hz (e_op e_int (e_sub (e_var rfl) e_int rfl) (op_sub _ _)))).trans ?_
      rw [denSs]
      rfl
end
end Mi
end
/-! ## MiP4 -/
section
set_option maxHeartbeats 2000000
/-! MiP4: plain facts: the whole history; the deck made. -/
namespace Mi
open PySem
theorem flat_one {α : Type} (a : α) : ∀ n : Nat, (List.replicate n [a]).flatten = List.replicate n a
  | 0 => rfl
  | n + 1 => by rw [List.replicate_succ, List.flatten_cons, flat_one a n, List.replicate_succ]; rfl
def nums24 : List Int := (List.range 24).map fun (k : Nat) => 1 + (k : Int)
section
variable {Γ : Env} {gl : Glo}
theorem n_list24 {σ : Fr} {h : Hm} : denN Γ gl (.listR (.int 1) (.int 25)) σ h = some (.lst (nums24.map vi), h) := by
  rw [denN, e_int]
  simp only [Option.bind_some, e_int]
  rw [if_pos (by decide)]
  show some (Ob.lst ((List.range 24).map fun (k : Nat) => vi (1 + (k : Int))), h) = some (Ob.lst (((List.range 24).map fun (k : Nat) => 1 + (k : Int)).map vi), h)
  rw [List.map_map]
  rfl
theorem rep_lo {n : Nat} : -(2 ^ 63) ≤ (n : Int) := Int.le_trans (by decide) (Int.natCast_nonneg n)
theorem rep_hi {n : Nat} (hn : n ≤ 1000) : (n : Int) < 2 ^ 63 := Int.lt_of_le_of_lt (Int.ofNat_le.mpr hn) (by decide)
theorem rep_if {n : Nat} {h2 : Hm} {xs : List Val} {lo hi : Int} (h1 : lo ≤ (n : Int)) (h3 : (n : Int) < hi) (hz : xs.length * n ≤ sizeLine) : (if lo ≤ (n : Int) ∧ (n : Int) < hi ∧ xs.length * ((n : Int)).toNat ≤ sizeLine then some (Ob.lst (List.replicate ((n : Int)).toNat xs).flatten, h2) else none) = some (Ob.lst (List.replicate n xs).flatten, h2) := by
  rw [if_pos ⟨h1, h3, by rw [Int.toNat_natCast]; exact hz⟩, Int.toNat_natCast]
def repF (p q : Val × Hm) : Option (Ob × Hm) := match q.1 with
      | .dat (.int k) => (lsOf q.2 p.1).bind fun xs => if -(2 ^ 63) ≤ k ∧ k < 2 ^ 63 ∧ xs.length * k.toNat ≤ sizeLine then some (.lst (List.replicate k.toNat xs).flatten, q.2) else none
      | _ => none
theorem repF_eq {v : Val} {h1 h2 : Hm} {n : Nat} : repF (v, h1) (vi (n : Int), h2) = (lsOf h2 v).bind fun xs => if -(2 ^ 63) ≤ (n : Int) ∧ (n : Int) < 2 ^ 63 ∧ xs.length * ((n : Int)).toNat ≤ sizeLine then some (.lst (List.replicate ((n : Int)).toNat xs).flatten, h2) else none := rfl
theorem n_rep {a k : E} {σ : Fr} {h h1 h2 : Hm} {v : Val} {n : Nat} {xs : List Val} (e1 : denE Γ gl a σ h = some (v, h1)) (e2 : denE Γ gl k σ h1 = some (vi (n : Int), h2)) (e3 : lsOf h2 v = some xs) (hz : xs.length * n ≤ sizeLine) (hn : n ≤ 1000) : denN Γ gl (.rep a k) σ h = some (.lst (List.replicate n xs).flatten, h2) := by
  have e4 : denN Γ gl (.rep a k) σ h = ((denE Γ gl a σ h).bind fun p => (denE Γ gl k σ p.2).bind fun q => repF p q) := by rw [denN] <;> rfl
  rw [e4, e1, Option.bind_some, e2, Option.bind_some, repF_eq, e3, Option.bind_some]
  exact rep_if rep_lo (rep_hi hn) hz
theorem rows0 (n : Nat) : (List.replicate n [Val.dat (.tuple [])]).flatten = ((List.replicate n ([] : List Int)).map tI).map .dat := by
  rw [flat_one, List.map_replicate, List.map_replicate]
  rfl
theorem sz1000 : 1000 ≤ sizeLine := by decide
theorem n_rows {σ : Fr} {h : Hm} {n : Nat} (hs : σ[3]? = some (some (vi (n : Int)))) (hn : n ≤ 1000) : denE Γ gl (.nw (.rep (.fz (.lst [(.tup [])])) (.var 3))) σ h = some (.ref h.length, h ++ [Ob.lst (((List.replicate n ([] : List Int)).map tI).map .dat)]) := by
  have e1 : denE Γ gl (.fz (.lst [(.tup [])])) σ h = some (vl [.tuple []], h) := e_fz (n_lst (es_cons (e_tup es_nil rfl (by decide)) es_nil) (show 1 ≤ sizeLine by decide)) rfl
  have hz : [Val.dat (.tuple [])].length * n ≤ sizeLine := by
    rw [List.length_singleton, Nat.one_mul]
    exact Nat.le_trans hn sz1000
  have e2 := n_rep (xs := [Val.dat (.tuple [])]) (n := n) e1 (e_var hs) rfl hz hn
  rw [rows0] at e2
  exact e_nw e2
theorem hist_ok {fD fM fP : Nat} (D : DrawSp Γ fD) (M : MixSp Γ fM) (Pk : PickSp Γ fP) {cells big : List Int} {c : Nat} {rest : Hm} {many most : Int} (hc : cells ≠ []) (hb : big.length ≤ 63) (hcc : c + 5000 < 1000000000) (m1 : 1 ≤ many) (m2 : many ≤ 1000) (t1 : 0 ≤ most) (t2 : most ≤ 800) :
    ∃ (R : List (List Int)) (O : List (Int × Int)) (u j cnt : Nat) (kind : Int) (names big' : List Int) (c' : Nat), names.Perm nums24 ∧ 1 ≤ cnt ∧ (cnt : Int) ≤ many ∧ (j : Int) ≤ most ∧ Gen (nmOf kind names) cnt j R O u ∧ big'.length ≤ 63 ∧ c' ≤ c + 3000 ∧
      runDf Γ gl (histD fD fM fP) [.ref 2, vi many, vi most] (dk big cells c ++ rest) = some (vt (R.map tI), dk big' cells c' ++ rest) := by
  obtain ⟨r1, big1, c1, a1, a2, b1, c1', e1⟩ := D big cells c many [] hc hb (by omega) m1 (by omega)
  have l24 : nums24.length = 24 := by decide
  obtain ⟨names, big2, c2, pm, b2, c2', e2⟩ := M big1 cells c1 nums24 [] hc b1 (by decide) (by rw [l24]; omega)
  rw [l24] at c2'
  obtain ⟨kind, big3, c3, k1, k2, b3, c3', e3⟩ := D big2 cells c2 4 [] hc b2 (by omega) (by omega) (by omega)
  obtain ⟨n1, rfl⟩ : ∃ n1 : Nat, r1 = (n1 : Int) := ⟨r1.toNat, by omega⟩
  let cnt : Nat := n1 + 1
  have hcn : cnt ≤ 1000 := by show n1 + 1 ≤ 1000; omega
  let R0 : List (List Int) := List.replicate cnt []
  obtain ⟨jj, big4, c4, j1, j2, b4, c4', e4⟩ := D big3 cells c3 (most + 1) (hH R0 []) hc b3 (by omega) (by omega) (by omega)
  obtain ⟨j, rfl⟩ : ∃ j : Nat, jj = (j : Int) := ⟨jj.toNat, by omega⟩
  have hnm : names.length = 24 := pm.length_eq.trans l24
  let J : Nat → Fr → Hm → Prop := fun i σ h => ∃ R O u big c' x5 x10 x11 x12 x13 x14, σ = hfr (vi many) (vi most) cnt names kind u x5 x10 x11 x12 x13 x14 ∧ h = dk big cells c' ++ hH R O ∧ big.length ≤ 63 ∧ c' ≤ c4 + 3 * i ∧ Gen (nmOf kind names) cnt i R O u
  let its : List Itm := (List.range j).map fun (k : Nat) => Itm.one (vi (k : Int))
  have hlen : its.length = j := by rw [List.length_map, List.length_range]
  obtain ⟨σ9, h9, e9, R, O, u, big9, c9, x5, x10, x11, x12, x13, x14, rfl, rfl, b9, c9', g9⟩ := forD_inv (n := (dk big4 cells c4 ++ hH R0 []).length) (f := fun x σ h => (tgItm (.name 5) x σ).bind fun σ' => denSs Γ gl (histB fD fP) σ' h) J its 0 (hfr (vi many) (vi most) cnt names kind 0 none none none none none none) (dk big4 cells c4 ++ hH R0 [])
    (fun k it ek σ h jk => by
      obtain ⟨R, O, u, bigk, ck, x5, x10, x11, x12, x13, x14, rfl, rfl, bk, ck', gk⟩ := jk
      have hk : k < j := by
        have := (List.getElem?_eq_some_iff.mp ek).1
        omega
      rw [List.getElem?_map] at ek
      obtain ⟨v, _, rfl⟩ := Option.map_eq_some_iff.mp ek
      have q1 : 1 ≤ cnt := Nat.le_add_left 1 n1
      have q2 : cnt ≤ 1000000 := by show n1 + 1 ≤ 1000000; omega
      have q3 : ck + 3 < 1000000000 := by omega
      have q4 : 0 + k < 900 := by omega
      obtain ⟨R', O', u', big', c', y10, y11, y12, y13, y14, ey, yb, yc, yg⟩ := hist_turn (gl := gl) (c := ck) (big := bigk) (x5 := some (vi (v : Int))) (x10 := x10) (x11 := x11) (x12 := x12) (x13 := x13) (x14 := x14) (vm := vi many) (vs := vi most) D Pk hc (cnt := cnt) q1 q2 hnm bk q3 q4 gk
      exact ⟨_, _, ey, R', O', u', big', c', _, y10, y11, y12, y13, y14, rfl, rfl, yb, by omega, yg⟩)
    ⟨R0, [], 0, big4, c4, none, none, none, none, none, none, rfl, rfl, b4, by omega, Gen.zero⟩
  rw [Nat.zero_add, hlen] at g9 c9'
  refine ⟨R, O, u, j, cnt, kind, names, big9, c9, pm, by omega, by omega, by omega, g9, b9, by omega, ?_⟩
  refine runDf_deck (args' := [.ref 2, vi many, vi most]) (σ' := hfr (vi many) (vi most) cnt names kind u x5 x10 x11 x12 x13 x14) (more := hH R O) rfl rfl rfl ?_ (.inl rfl)
  rw [List.append_nil] at e1 e2 e3
  have e1' : Γ fD [.ref 2, vi many] (dk big cells c) = some (vi (n1 : Int), dk big1 cells c1) := by rw [e1, List.append_nil]
  have e2' : Γ fM [.ref 2, vl (nums24.map .int)] (dk big1 cells c1) = some (vt (names.map .int), dk big2 cells c2) := by rw [e2, List.append_nil]
  have e3' : Γ fD [.ref 2, vi 4] (dk big2 cells c2) = some (vi kind, dk big3 cells c3) := by rw [e3, List.append_nil]
  refine (ss_next (s_asg (v := vi (cnt : Int)) (h1 := dk big1 cells c1) ?_)).trans ?_
  · refine e_op e_int (e_call (es_cons (e_var rfl) (es_cons (e_var rfl) es_nil)) e1') ?_
    show some (vi (1 + (n1 : Int))) = some (vi ((n1 + 1 : Nat) : Int))
    rw [show (1 + (n1 : Int)) = ((n1 + 1 : Nat) : Int) by omega]
  refine (ss_next (s_asg (v := vt (names.map .int)) (h1 := dk big2 cells c2) ?_)).trans ?_
  · refine e_call (es_cons (e_var rfl) (es_cons (v := vl (nums24.map .int)) (e_fz (vs := nums24.map vi) ?_ ?_) es_nil)) e2'
    · exact n_list24
    · rw [map_vi, dats_dats]
  refine (ss_next (s_pars (vs := [vi kind, .ref 3, .ref 4, vi 0]) (h1 := dk big3 cells c3 ++ hH R0 []) (σ' := hfr (vi many) (vi most) cnt names kind 0 none none none none none none) ?_ rfl)).trans ?_
  · refine es_cons (e_call (es_cons (e_var rfl) (es_cons e_int es_nil)) e3') (es_cons (v := .ref 3) (h1 := dk big3 cells c3 ++ [Ob.lst ((R0.map tI).map .dat)]) ?_ (es_cons (v := .ref 4) (h1 := dk big3 cells c3 ++ hH R0 []) ?_ (es_cons e_int es_nil)))
    · exact n_rows rfl hcn
    · exact e_nw (n_lst es_nil (by decide))
  refine (ss_next (σ' := hfr (vi many) (vi most) cnt names kind u x5 x10 x11 x12 x13 x14) (h' := dk big9 cells c9 ++ hH R O) ?_).trans ?_
  · have ei : denI Γ gl (.range1 (.call fD [(.var 0), (.op .add (.var 2) (.int 1))])) (hfr (vi many) (vi most) cnt names kind 0 none none none none none none) (dk big3 cells c3 ++ hH R0 []) = some ((its, none), dk big4 cells c4 ++ hH R0 []) := by
      have ec : denE Γ gl (.call fD [(.var 0), (.op .add (.var 2) (.int 1))]) (hfr (vi many) (vi most) cnt names kind 0 none none none none none none) (dk big3 cells c3 ++ hH R0 []) = some (vi (j : Int), dk big4 cells c4 ++ hH R0 []) :=
        e_call (es_cons (e_var rfl) (es_cons (e_op (e_var rfl) e_int (op_add _ _)) es_nil)) e4
      rw [denI, ec]
      simp only [Option.bind_some, Int.toNat_natCast]
      have hz : j ≤ sizeLine := Nat.le_trans (show j ≤ 1000 by omega) (by decide)
      rw [if_pos ⟨by omega, hz⟩]
    rw [denS, ei]
    exact e9
  refine ss_ret (s_ret (e_bi (es_cons (e_var rfl) es_nil) ?_))
  show (dats ((R.map tI).map Val.dat)).map vt = _
  rw [dats_dats]
  rfl
/-! ### the deck is made -/
def stateD : Df := { np := 1, ns := 3, md := .keep, body := [(.asg (.name 1) (.fz (.comp (.bi .abs [(.var 2)]) (.name 2) (.e (.var 0)) none [2]))),
    (.ret (.nw (.lst [(.nw (.comp (.var 2) (.name 2) (.e (.var 1)) (some (.cmp .ge (.var 2) (.op .pow (.int 10) (.int 18)))) [2])), (.nw (.add (.var 1) (.fz (.lst [(.op .add (.bi .len [(.var 1)]) (.int 7))])))), (.int 0)])))] }
theorem n_comp {elt : E} {t : Tg} {it : I} {cond : Option E} {own : List Nat} {σ : Fr} {h h1 h2 : Hm} {is : List Itm} {g : Gd} {vs : List Val} (e1 : denI Γ gl it σ h = some ((is, g), h1))
    (e2 : compD g (fun x h => (tgItm t x (wipeF σ own)).bind fun σ' => (denC Γ gl cond σ' h).bind fun q => if q.1 then (denE Γ gl elt σ' q.2).map fun r => (some r.1, r.2) else some (none, q.2)) is [] h1 = some (vs, h2)) : denN Γ gl (.comp elt t it cond own) σ h = some (.lst vs, h2) := by
  rw [denN, e1]
  simp only [Option.bind_some, e2, Option.map_some]
theorem state_ok {ns : List Int} (hl : ns.length ≤ 63) : ∃ big cells : List Int, cells ≠ [] ∧ big.length ≤ 63 ∧ runDf Γ gl stateD [.scr ns] [] = some (.ref 2, dk big cells 0) := by
  let ab : List Int := ns.map fun i => if i < 0 then -i else i
  let big : List Int := ab.filter fun i => decide ((10 : Int) ^ 18 ≤ i)
  have lab : ab.length ≤ 63 := by rw [List.length_map]; exact hl
  refine ⟨big, ab ++ [(ab.length : Int) + 7], by simp, Nat.le_trans (List.length_filter_le _ _) lab, ?_⟩
  have ea : denE Γ gl (.fz (.comp (.bi .abs [(.var 2)]) (.name 2) (.e (.var 0)) none [2])) [some (.scr ns), none, none] [] = some (vl (ab.map .int), []) := by
    refine e_fz (vs := ab.map vi) (n_comp (is := ns.map fun i => .one (vi i)) (g := none) (h1 := []) ?_ ?_) (by rw [map_vi, dats_dats])
    · rw [denI, e_var (v := .scr ns) rfl]
      rfl
    · have := compD_filter (g := none) (h := []) (F := fun x h => (tgItm (.name 2) x (wipeF [some (.scr ns), none, none] [2])).bind fun σ' => (denC Γ gl none σ' h).bind fun q => if q.1 then (denE Γ gl (.bi .abs [(.var 2)]) σ' q.2).map fun r => (some r.1, r.2) else some (none, q.2)) rfl (fun i : Int => Itm.one (vi i)) (fun _ => true) (fun i => vi (if i < 0 then -i else i)) ns [] fun i _ => by
          have e1 : denE Γ gl (.bi .abs [(.var 2)]) [some (.scr ns), none, some (vi i)] [] = some (vi (if i < 0 then -i else i), []) := e_bi (es_cons (e_var rfl) es_nil) rfl
          show ((denC Γ gl none [some (.scr ns), none, some (vi i)] []).bind fun q => if q.1 then (denE Γ gl (.bi .abs [(.var 2)]) [some (.scr ns), none, some (vi i)] q.2).map fun r => (some r.1, r.2) else some (none, q.2)) = _
          rw [denC]
          simp only [Option.bind_some, ↓reduceIte, e1, Option.map_some]
      rw [this, List.nil_append, List.filter_eq_self.mpr (fun _ _ => rfl)]
      show some ((ns.map fun i => vi (if i < 0 then -i else i)), _) = some ((ns.map fun i => if i < 0 then -i else i).map vi, _)
      rw [List.map_map]
      rfl
  have eb : denN Γ gl (.comp (.var 2) (.name 2) (.e (.var 1)) (some (.cmp .ge (.var 2) (.op .pow (.int 10) (.int 18)))) [2]) [some (.scr ns), some (vl (ab.map .int)), none] [] = some (.lst (big.map vi), []) := by
    refine n_comp (is := ab.map fun i => .one (vi i)) (g := none) (h1 := []) ?_ ?_
    · rw [denI, e_var (v := vl (ab.map .int)) rfl]
      show some ((((ab.map PyData.int).map fun d => Itm.one (.dat d)), none), _) = _
      rw [List.map_map]
      rfl
    · have := compD_filter (g := none) (h := []) (F := fun x h => (tgItm (.name 2) x (wipeF [some (.scr ns), some (vl (ab.map .int)), none] [2])).bind fun σ' => (denC Γ gl (some (.cmp .ge (.var 2) (.op .pow (.int 10) (.int 18)))) σ' h).bind fun q => if q.1 then (denE Γ gl (.var 2) σ' q.2).map fun r => (some r.1, r.2) else some (none, q.2)) rfl (fun i : Int => Itm.one (vi i)) (fun i => decide ((10 : Int) ^ 18 ≤ i)) vi ab [] fun i _ => by
          have e1 : denC Γ gl (some (.cmp .ge (.var 2) (.op .pow (.int 10) (.int 18)))) [some (.scr ns), some (vl (ab.map .int)), some (vi i)] [] = some (decide ((10 : Int) ^ 18 ≤ i), []) := c_some (e_cmp (e_var rfl) (e_op e_int e_int rfl) rfl)
          have e2 : denE Γ gl (.var 2) [some (.scr ns), some (vl (ab.map .int)), some (vi i)] [] = some (vi i, []) := e_var rfl
          show ((denC Γ gl (some (.cmp .ge (.var 2) (.op .pow (.int 10) (.int 18)))) [some (.scr ns), some (vl (ab.map .int)), some (vi i)] []).bind fun q => if q.1 then (denE Γ gl (.var 2) [some (.scr ns), some (vl (ab.map .int)), some (vi i)] q.2).map fun r => (some r.1, r.2) else some (none, q.2)) = _
          rw [e1]
          cases decide ((10 : Int) ^ 18 ≤ i) with
          | true => simp only [Option.bind_some, ↓reduceIte, e2, Option.map_some]
          | false => rfl
      rw [this, List.nil_append]
  have body : denSs Γ gl stateD.body [some (.scr ns), none, none] [] = some ((.ret (.ref 2), [some (.scr ns), some (vl (ab.map .int)), none]), dk big (ab ++ [(ab.length : Int) + 7]) 0) := by
    refine (ss_next (s_asg ea)).trans ?_
    refine ss_ret (s_ret ?_)
    refine e_nw (h1 := [Ob.lst (big.map vi), Ob.lst ((ab ++ [(ab.length : Int) + 7]).map vi)]) ?_
    refine n_lst (vs := [.ref 0, .ref 1, vi 0]) (es_cons (e_nw eb) (es_cons (v := .ref 1) (h1 := [Ob.lst (big.map vi), Ob.lst ((ab ++ [(ab.length : Int) + 7]).map vi)]) (e_nw (h1 := [Ob.lst (big.map vi)]) ?_) (es_cons e_int es_nil))) (by decide)
    have e1 : denE Γ gl (.var 1) [some (.scr ns), some (vl (ab.map .int)), none] [Ob.lst (big.map vi)] = some (vl (ab.map .int), [Ob.lst (big.map vi)]) := e_var rfl
    have e2 : denE Γ gl (.fz (.lst [(.op .add (.bi .len [(.var 1)]) (.int 7))])) [some (.scr ns), some (vl (ab.map .int)), none] [Ob.lst (big.map vi)] = some (vl [.int ((ab.length : Int) + 7)], [Ob.lst (big.map vi)]) := by
      refine e_fz (n_lst (es_cons (e_op (e_bi (es_cons e1 es_nil) (u := vi (ab.length : Int)) ?_) e_int (op_add _ _)) es_nil) (show 1 ≤ sizeLine by decide)) rfl
      show some (vi (((ab.map PyData.int).map Val.dat).length : Int)) = _
      rw [List.length_map, List.length_map]
    show denN Γ gl (.add (.var 1) (.fz (.lst [(.op .add (.bi .len [(.var 1)]) (.int 7))]))) [some (.scr ns), some (vl (ab.map .int)), none] [Ob.lst (big.map vi)] = _
    rw [denN, e1]
    simp only [Option.bind_some, e2, lsOf, List.length_map, List.length_cons, List.length_nil]
    rw [if_pos (Nat.le_trans (show ab.length + 1 ≤ 64 by omega) (by decide))]
    rw [List.map_append, map_vi ab]
    rfl
  show ((denSs Γ gl stateD.body [some (.scr ns), none, none] []).bind fun r => (resV r.1.1).map fun v => (v, r.2)) = _
  rw [body]
  rfl
end
end Mi
end
/-! ## MiP5 -/
section
set_option maxHeartbeats 2000000
/-! MiP5: plain facts: repr of the same data, walks over rows. -/
namespace Mi
open PySem
theorem rsz_ints (k : Nat) (xs : List Int) (h : ∀ x ∈ xs, x.natAbs < 10 ^ 60) : ((xs.map PyData.int).map fun x => rsz (k + 1) x + 2).sum = 64 * xs.length := by
  induction xs with
  | nil => rfl
  | cons x xs ih =>
    have hx : rsz (k + 1) (.int x) = 62 := if_pos (h x List.mem_cons_self)
    rw [List.map_cons, List.map_cons, List.sum_cons, ih fun y hy => h y (List.mem_cons_of_mem _ hy), hx, List.length_cons]
    omega
section
variable {Γ : Env} {gl : Glo}
def sameD : Df := { np := 2, ns := 2, md := .sub 0, body := [(.ret (.cmp .eq (.bi .repr [(.var 0)]) (.bi .repr [(.var 1)])))] }
theorem repr_dat {h : Hm} {d : PyData} (hz : rsz 12 d ≤ 2 ^ 24) : biV .repr h [.dat d] = some (.dat (.str d.shown)) := by
  show (if rsz 12 d ≤ 2 ^ 24 then some (Val.dat (.str d.shown)) else none) = _
  rw [if_pos hz]
/-- a def that sees no object of the heap, called with data -/
theorem runDf_pure {d : Df} {ds : List PyData} {h more : Hm} {r : PyData} {σ' : Fr} (hm : d.md = .sub 0) (h1 : ds.length = d.np) (hb : denSs Γ gl d.body ((ds.map Val.dat).map some ++ List.replicate (d.ns - d.np) none) [] = some ((.ret (.dat r), σ'), more)) :
    runDf Γ gl d (ds.map Val.dat) h = some (.dat r, h) := by
  have e0 : mapO (snapBelow 0 h) (ds.map Val.dat) = some (ds.map Val.dat) := mapO_map Val.dat (snapBelow 0 h) Val.dat (fun _ => rfl) ds
  have ec : ∀ h : Hm, cutH 0 h = some [] := fun h => rfl
  have ea : (ds.map Val.dat).all (Val.below 0) = true := by
    clear hb h1 e0
    induction ds with
    | nil => rfl
    | cons d ds ih => rw [List.map_cons, List.all_cons, ih]; rfl
  rw [runDf_sub hm (by rw [List.length_map]; exact h1) (Nat.zero_le _) e0 (ec h), hb]
  have es : snapBelow 0 more (.dat r) = some (.dat r) := rfl
  simp only [Option.bind_some, resV, es, ec, ea, Bool.true_or, ↓reduceIte, List.nil_append, List.drop_zero]
theorem same_ok {d d' : PyData} {h : Hm} (h1 : rsz 12 d ≤ 2 ^ 24) (h2 : rsz 12 d' ≤ 2 ^ 24) : runDf Γ gl sameD [.dat d, .dat d'] h = some (vb (d.shown == d'.shown), h) := by
  refine runDf_pure (ds := [d, d']) (more := []) (σ' := [some (.dat d), some (.dat d')]) rfl rfl ?_
  exact ss_ret (s_ret (e_cmp (e_bi (es_cons (e_var rfl) es_nil) (repr_dat h1)) (e_bi (es_cons (e_var rfl) es_nil) (repr_dat h2)) rfl))
end
end Mi
end
/-! ## MiV1 -/
section
set_option maxHeartbeats 2000000
/-! MiV1: terms of Mi read as plain functions: encodings, expressions. -/
namespace Mi
open PySem
/-! ### encodings -/
abbrev eI : Int → PyData := PyData.int
abbrev eB : Bool → PyData := PyData.bool
abbrev eS : Str → PyData := PyData.str
abbrev eA : PyData → PyData := fun d => d
def eU : Unit → PyData := fun _ => .none
variable {α β γ δ ε τ A : Type}
def eT (f : α → PyData) (xs : List α) : PyData := .tuple (xs.map f)
def eL (f : α → PyData) (xs : List α) : PyData := .list (xs.map f)
def eP (f : α → PyData) (g : β → PyData) (p : α × β) : PyData := .tuple [f p.1, g p.2]
def e3 (f : α → PyData) (g : β → PyData) (k : γ → PyData) (p : α × β × γ) : PyData := .tuple [f p.1, g p.2.1, k p.2.2]
def e4 (f : α → PyData) (g : β → PyData) (k : γ → PyData) (l : δ → PyData) (p : α × β × γ × δ) : PyData := .tuple [f p.1, g p.2.1, k p.2.2.1, l p.2.2.2]
def e5 (f : α → PyData) (g : β → PyData) (k : γ → PyData) (l : δ → PyData) (m : ε → PyData) (p : α × β × γ × δ × ε) : PyData := .tuple [f p.1, g p.2.1, k p.2.2.1, l p.2.2.2.1, m p.2.2.2.2]
def eO (f : α → PyData) : Option α → PyData
  | none => .none
  | some a => f a
/-- f shows a sequence -/
def SqE (f : α → PyData) (g : β → PyData) (L : α → List β) (l : Bool) : Prop := ∀ x, f x = bif l then .list ((L x).map g) else .tuple ((L x).map g)
theorem sqL {f : α → PyData} : SqE (eL f) f (fun x => x) true := fun _ => rfl
theorem sqT {f : α → PyData} : SqE (eT f) f (fun x => x) false := fun _ => rfl
theorem sqP {f : α → PyData} : SqE (eP f f) f (fun x => [x.1, x.2]) false := fun _ => rfl
theorem sq3 {f : α → PyData} : SqE (e3 f f f) f (fun x => [x.1, x.2.1, x.2.2]) false := fun _ => rfl
/-- equal data are equal values -/
class EqE (f : α → PyData) [DecidableEq α] : Prop where
  eqv : ∀ x y, PyData.eqv (f x) (f y) = decide (x = y)
/-- no more than n deep, nothing but ints, bools, None within -/
class OkE (f : α → PyData) (n : outParam Nat) : Prop where
  ok : ∀ x k, n ≤ k → okD k (f x) = true
class NoLE (f : α → PyData) (n : outParam Nat) : Prop where
  no : ∀ x k, n ≤ k → noL k (f x) = true
class NnE (f : α → PyData) : Prop where
  nn : ∀ x, (Val.dat (f x)).isNon = false
instance : EqE eI := ⟨fun x y => by show (x == y) = _; rw [Bool.beq_eq_decide_eq]⟩
instance : EqE eB := ⟨fun x y => by cases x <;> cases y <;> rfl⟩
instance : EqE eU := ⟨fun x y => rfl⟩
theorem eqvL_map {f : α → PyData} [DecidableEq α] [EqE f] : ∀ xs ys : List α, PyData.eqvAll (xs.map f) (ys.map f) = decide (xs = ys)
  | [], [] => rfl
  | [], _ :: _ => rfl
  | _ :: _, [] => rfl
  | x :: xs, y :: ys => by
    show (PyData.eqv (f x) (f y) && PyData.eqvAll (xs.map f) (ys.map f)) = _
    rw [EqE.eqv, eqvL_map xs ys]
    by_cases h1 : x = y <;> by_cases h2 : xs = ys <;> simp [h1, h2]
instance {f : α → PyData} [DecidableEq α] [EqE f] : EqE (eT f) := ⟨fun x y => eqvL_map x y⟩
instance {f : α → PyData} [DecidableEq α] [EqE f] : EqE (eL f) := ⟨fun x y => eqvL_map x y⟩
instance {f : α → PyData} {g : β → PyData} [DecidableEq α] [DecidableEq β] [EqE f] [EqE g] : EqE (eP f g) := ⟨fun x y => by
  show (PyData.eqv (f x.1) (f y.1) && (PyData.eqv (g x.2) (g y.2) && true)) = _
  rw [EqE.eqv, EqE.eqv]
  obtain ⟨a, b⟩ := x
  obtain ⟨c, d⟩ := y
  by_cases h1 : a = c <;> by_cases h2 : b = d <;> simp [h1, h2]⟩
instance {f : α → PyData} {g : β → PyData} {k : γ → PyData} [DecidableEq α] [DecidableEq β] [DecidableEq γ] [EqE f] [EqE g] [EqE k] : EqE (e3 f g k) := ⟨fun x y => by
  show (PyData.eqv (f x.1) (f y.1) && (PyData.eqv (g x.2.1) (g y.2.1) && (PyData.eqv (k x.2.2) (k y.2.2) && true))) = _
  rw [EqE.eqv, EqE.eqv, EqE.eqv]
  obtain ⟨a, b, c⟩ := x
  obtain ⟨d, e, f⟩ := y
  by_cases h1 : a = d <;> by_cases h2 : b = e <;> by_cases h3 : c = f <;> simp [h1, h2, h3]⟩
instance : OkE eI 1 := ⟨fun x k h => by obtain ⟨k, rfl⟩ : ∃ j, k = j + 1 := ⟨k - 1, by omega⟩; rfl⟩
instance : OkE eB 1 := ⟨fun x k h => by obtain ⟨k, rfl⟩ : ∃ j, k = j + 1 := ⟨k - 1, by omega⟩; rfl⟩
instance : OkE eU 1 := ⟨fun x k h => by obtain ⟨k, rfl⟩ : ∃ j, k = j + 1 := ⟨k - 1, by omega⟩; rfl⟩
theorem okD_map {f : α → PyData} {n k : Nat} [OkE f n] (h : n ≤ k) (xs : List α) : (xs.map f).all (okD k) = true := by
  induction xs with
  | nil => rfl
  | cons x xs ih => rw [List.map_cons, List.all_cons, OkE.ok x k h, ih]; rfl
instance {f : α → PyData} {n : Nat} [OkE f n] : OkE (eT f) (n + 1) := ⟨fun x k h => by obtain ⟨k, rfl⟩ : ∃ j, k = j + 1 := ⟨k - 1, by omega⟩; exact okD_map (by omega) x⟩
instance {f : α → PyData} {n : Nat} [OkE f n] : OkE (eL f) (n + 1) := ⟨fun x k h => by obtain ⟨k, rfl⟩ : ∃ j, k = j + 1 := ⟨k - 1, by omega⟩; exact okD_map (by omega) x⟩
instance {f : α → PyData} {g : β → PyData} {n m : Nat} [OkE f n] [OkE g m] : OkE (eP f g) (max n m + 1) := ⟨fun x k h => by
  obtain ⟨k, rfl⟩ : ∃ j, k = j + 1 := ⟨k - 1, by omega⟩
  show (okD k (f x.1) && (okD k (g x.2) && true)) = true
  rw [OkE.ok x.1 k (by omega), OkE.ok x.2 k (by omega)]; rfl⟩
instance {f : α → PyData} {g : β → PyData} {q : γ → PyData} {n m l : Nat} [OkE f n] [OkE g m] [OkE q l] : OkE (e3 f g q) (max n (max m l) + 1) := ⟨fun x k h => by
  obtain ⟨k, rfl⟩ : ∃ j, k = j + 1 := ⟨k - 1, by omega⟩
  show (okD k (f x.1) && (okD k (g x.2.1) && (okD k (q x.2.2) && true))) = true
  rw [OkE.ok x.1 k (by omega), OkE.ok x.2.1 k (by omega), OkE.ok x.2.2 k (by omega)]; rfl⟩
instance : NoLE eI 1 := ⟨fun x k h => by obtain ⟨k, rfl⟩ : ∃ j, k = j + 1 := ⟨k - 1, by omega⟩; rfl⟩
instance : NoLE eB 1 := ⟨fun x k h => by obtain ⟨k, rfl⟩ : ∃ j, k = j + 1 := ⟨k - 1, by omega⟩; rfl⟩
instance : NoLE eS 1 := ⟨fun x k h => by obtain ⟨k, rfl⟩ : ∃ j, k = j + 1 := ⟨k - 1, by omega⟩; rfl⟩
instance : NoLE eU 1 := ⟨fun x k h => by obtain ⟨k, rfl⟩ : ∃ j, k = j + 1 := ⟨k - 1, by omega⟩; rfl⟩
theorem noL_map {f : α → PyData} {n k : Nat} [NoLE f n] (h : n ≤ k) (xs : List α) : (xs.map f).all (noL k) = true := by
  induction xs with
  | nil => rfl
  | cons x xs ih => rw [List.map_cons, List.all_cons, NoLE.no x k h, ih]; rfl
instance {f : α → PyData} {n : Nat} [NoLE f n] : NoLE (eT f) (n + 1) := ⟨fun x k h => by obtain ⟨k, rfl⟩ : ∃ j, k = j + 1 := ⟨k - 1, by omega⟩; exact noL_map (by omega) x⟩
instance {f : α → PyData} {g : β → PyData} {n m : Nat} [NoLE f n] [NoLE g m] : NoLE (eP f g) (max n m + 1) := ⟨fun x k h => by
  obtain ⟨k, rfl⟩ : ∃ j, k = j + 1 := ⟨k - 1, by omega⟩
  show (noL k (f x.1) && (noL k (g x.2) && true)) = true
  rw [NoLE.no x.1 k (by omega), NoLE.no x.2 k (by omega)]; rfl⟩
instance {f : α → PyData} {n : Nat} [NoLE f n] : NoLE (eO f) (n + 1) := ⟨fun x k h => by
  cases x with
  | none => obtain ⟨k, rfl⟩ : ∃ j, k = j + 1 := ⟨k - 1, by omega⟩; rfl
  | some x => exact NoLE.no x k (by omega)⟩
instance : NnE eI := ⟨fun _ => rfl⟩
instance : NnE eB := ⟨fun _ => rfl⟩
instance : NnE eS := ⟨fun _ => rfl⟩
instance {f : α → PyData} : NnE (eT f) := ⟨fun _ => rfl⟩
instance {f : α → PyData} : NnE (eL f) := ⟨fun _ => rfl⟩
instance {f : α → PyData} {g : β → PyData} : NnE (eP f g) := ⟨fun _ => rfl⟩
instance {f : α → PyData} {g : β → PyData} {k : γ → PyData} : NnE (e3 f g k) := ⟨fun _ => rfl⟩
/-! ### plain operations -/
def mulS (i j : Int) : Option Int := if (-(2 ^ 64) < i ∧ i < 2 ^ 64) ∨ (-(2 ^ 64) < j ∧ j < 2 ^ 64) then some (i * j) else none
def divS (i j : Int) : Option Int := if 0 < j ∧ j < 1073741824 then some (i / j) else none
def modS (i j : Int) : Option Int := if 0 < j then some (i % j) else none
def catS (xs ys : List α) : Option (List α) := if xs.length + ys.length ≤ sizeLine then some (xs ++ ys) else none
def pushS (xs : List α) (x : α) : Option (List α) := if xs.length < sizeLine then some (xs ++ [x]) else none
def reprS (d : PyData) : Option Str := if rsz 12 d ≤ 2 ^ 24 then some d.shown else none
def repS (xs : List α) (k : Int) : Option (List α) := if -(2 ^ 63) ≤ k ∧ k < 2 ^ 63 ∧ xs.length * k.toNat ≤ sizeLine then some (List.replicate k.toNat xs).flatten else none
def rng1 (j : Int) : Option (List Int) := if -(2 ^ 62) ≤ j ∧ j.toNat ≤ sizeLine then some ((List.range j.toNat).map fun (k : Nat) => (k : Int)) else none
def rng2 (i j : Int) : Option (List Int) := if -(2 ^ 62) ≤ i ∧ i < 2 ^ 62 ∧ j < 2 ^ 62 ∧ -(2 ^ 62) ≤ j ∧ (j - i).toNat ≤ sizeLine then some ((List.range (j - i).toNat).map fun (k : Nat) => i + (k : Int)) else none
def setS (xs : List α) (i : Int) (x : α) : Option (List α) := (ixN xs.length i).map fun k => xs.set k x
def enumS (i : Nat) : List α → List (Int × α)
  | [] => []
  | x :: xs => ((i : Int), x) :: enumS (i + 1) xs
def compS (c : α → Option Bool) (F : α → Option β) : List α → Option (List β)
  | [] => some []
  | x :: xs => (c x).bind fun b => if b then (F x).bind fun y => (compS c F xs).map (y :: ·) else compS c F xs
section
variable {Γ : Env} {gl : Glo} {σ : Fr} {h : Hm}
/-- the term gives the datum of the value -/
def P (Γ : Env) (gl : Glo) (e : E) (σ : Fr) (h : Hm) (f : α → PyData) (V : Option α) : Prop := ∀ v, V = some v → denE Γ gl e σ h = some (.dat (f v), h)
/-- w shows the datum: it is it, or a list of data of the heap -/
def Sh (h : Hm) (w : Val) (d : PyData) : Prop := w = .dat d ∨ ∃ a ds, w = .ref a ∧ h[a]? = some (.lst (ds.map .dat)) ∧ d = .list ds
def PA (Γ : Env) (gl : Glo) (e : E) (σ : Fr) (h : Hm) (f : α → PyData) (V : Option α) : Prop := ∀ v, V = some v → ∃ w, denE Γ gl e σ h = some (w, h) ∧ Sh h w (f v)
theorem PA_of {e : E} {f : α → PyData} {V : Option α} (p : P Γ gl e σ h f V) : PA Γ gl e σ h f V := fun v hv => ⟨_, p v hv, .inl rfl⟩
theorem PA_own {i a : Nat} {f : α → PyData} {xs : List α} (e1 : σ[i]? = some (some (.ref a))) (e2 : h[a]? = some (.lst (xs.map fun x => .dat (f x)))) : PA Γ gl (.var i) σ h (eL f) (some xs) := fun v hv => by
  cases hv
  exact ⟨_, e_var e1, .inr ⟨a, xs.map f, rfl, by rw [e2, List.map_map]; rfl, rfl⟩⟩
theorem Sh.snap {w : Val} {d : PyData} (s : Sh h w d) : snap 4 h w = some d := by
  rcases s with rfl | ⟨a, ds, rfl, e, rfl⟩
  · rfl
  · exact snap_dats e
theorem Sh.items {w : Val} {f : α → PyData} {g : β → PyData} {L : α → List β} {l : Bool} (S : SqE f g L l) {x : α} (s : Sh h w (f x)) : items h w = some ((L x).map fun y => .dat (g y)) := by
  rw [S x] at s
  rcases s with rfl | ⟨a, ds, rfl, e, e2⟩
  · cases l <;> show some (((L x).map g).map Val.dat) = _ <;> rw [List.map_map] <;> rfl
  · cases l with
    | false => cases e2
    | true =>
      have e3 : (L x).map g = ds := PyData.list.inj e2
      show (match h[a]? with | some (.lst vs) => some vs | _ => none) = _
      rw [e, ← e3, List.map_map]; rfl
theorem Sh.isLst {w : Val} {ds : List PyData} (s : Sh h w (.list ds)) : isLst h w = true := by
  rcases s with rfl | ⟨a, ds, rfl, e, e2⟩
  · rfl
  · show (match h[a]? with | some (.lst _) => true | _ => false) = true
    rw [e]
theorem Sh.lsOf {w : Val} {f : α → PyData} {xs : List α} (s : Sh h w (eL f xs)) : lsOf h w = some (xs.map fun y => .dat (f y)) := by
  rcases s with rfl | ⟨a, ds, rfl, e, e2⟩
  · show some ((xs.map f).map Val.dat) = _
    rw [List.map_map]; rfl
  · have e3 : xs.map f = ds := PyData.list.inj e2
    show (match h[a]? with | some (.lst vs) => some vs | _ => none) = _
    rw [e, ← e3, List.map_map]; rfl
theorem P_int {i : Int} : P Γ gl (.int i) σ h eI (some i) := fun v hv => by cases hv; rw [denE]
theorem P_str {x : Str} : P Γ gl (.str x) σ h eS (some x) := fun v hv => by cases hv; rw [denE]
theorem P_bl {b : Bool} : P Γ gl (.bl b) σ h eB (some b) := fun v hv => by cases hv; rw [denE]
theorem P_non {f : α → PyData} : P Γ gl .non σ h (eO f) (some none) := fun v hv => by cases hv; rw [denE]; rfl
theorem P_nonU : P Γ gl .non σ h eU (some ()) := fun v hv => by cases hv; rw [denE]; rfl
theorem P_var {i : Nat} {f : α → PyData} {x : α} (e : σ[i]? = some (some (.dat (f x)))) : P Γ gl (.var i) σ h f (some x) := fun v hv => by cases hv; exact e_var e
theorem P_glo {i : Nat} {f : α → PyData} {x : α} (e : gl i = some (f x)) : P Γ gl (.glo i) σ h f (some x) := fun v hv => by cases hv; rw [denE, e]; rfl
theorem P_some {e : E} {f : α → PyData} {V : Option α} (p : P Γ gl e σ h f V) : P Γ gl e σ h (eO f) (V.map some) := fun v hv => by
  obtain ⟨x, rfl, rfl⟩ := Option.map_eq_some_iff.mp hv
  exact p x rfl
theorem P_get {e : E} {f : α → PyData} {V : Option (Option α)} (p : P Γ gl e σ h (eO f) V) : P Γ gl e σ h f (V.bind fun x => x) := fun v hv => by
  obtain ⟨x, rfl, rfl⟩ := Option.bind_eq_some_iff.mp hv
  exact p _ rfl
theorem P_any {e : E} {f : α → PyData} {V : Option α} (p : P Γ gl e σ h f V) : P Γ gl e σ h eA (V.map f) := fun v hv => by
  obtain ⟨x, rfl, rfl⟩ := Option.map_eq_some_iff.mp hv
  exact p x rfl
/-- another reading of the same datum -/
theorem P_as {e : E} {f : α → PyData} {g : β → PyData} {V : Option α} (c : α → β) (k : ∀ x, f x = g (c x)) (p : P Γ gl e σ h f V) : P Γ gl e σ h g (V.map c) := fun v hv => by
  obtain ⟨x, rfl, rfl⟩ := Option.map_eq_some_iff.mp hv
  rw [p x rfl, k]
theorem bnd2 {V : Option α} {W : Option β} {F : α → β → Option γ} {v : γ} (e : (V.bind fun x => W.bind fun y => F x y) = some v) : ∃ x y, V = some x ∧ W = some y ∧ F x y = some v := by
  obtain ⟨x, e1, e2⟩ := Option.bind_eq_some_iff.mp e
  obtain ⟨y, e3, e4⟩ := Option.bind_eq_some_iff.mp e2
  exact ⟨x, y, e1, e3, e4⟩
theorem P_op {o : Op2} {a b : E} {f : α → PyData} {g : β → PyData} {k : γ → PyData} {V : Option α} {W : Option β} {F : α → β → Option γ} (H : ∀ x y v, F x y = some v → op2 o (.dat (f x)) (.dat (g y)) = some (.dat (k v))) (p : P Γ gl a σ h f V) (q : P Γ gl b σ h g W) : P Γ gl (.op o a b) σ h k (V.bind fun x => W.bind fun y => F x y) := fun v hv => by
  obtain ⟨x, y, e1, e2, e3⟩ := bnd2 hv
  exact e_op (p x e1) (q y e2) (H x y v e3)
theorem oAdd : ∀ x y v, some (x + y) = some v → op2 .add (.dat (eI x)) (.dat (eI y)) = some (.dat (eI v)) := fun _ _ _ e => by cases e; rfl
theorem oSub : ∀ x y v, some (x - y) = some v → op2 .sub (.dat (eI x)) (.dat (eI y)) = some (.dat (eI v)) := fun _ _ _ e => by cases e; rfl
theorem P_add {a b : E} {V W : Option Int} (p : P Γ gl a σ h eI V) (q : P Γ gl b σ h eI W) : P Γ gl (.op .add a b) σ h eI (V.bind fun x => W.bind fun y => some (x + y)) := P_op oAdd p q
theorem P_minus {a b : E} {V W : Option Int} (p : P Γ gl a σ h eI V) (q : P Γ gl b σ h eI W) : P Γ gl (.op .sub a b) σ h eI (V.bind fun x => W.bind fun y => some (x - y)) := P_op oSub p q
theorem P_mul {a b : E} {V W : Option Int} (p : P Γ gl a σ h eI V) (q : P Γ gl b σ h eI W) : P Γ gl (.op .mul a b) σ h eI (V.bind fun x => W.bind fun y => mulS x y) := P_op (fun x y v e => by
  unfold mulS at e
  split at e
  · rename_i c; cases e; exact op_mul c
  · cases e) p q
theorem P_div {a b : E} {V W : Option Int} (p : P Γ gl a σ h eI V) (q : P Γ gl b σ h eI W) : P Γ gl (.op .fdiv a b) σ h eI (V.bind fun x => W.bind fun y => divS x y) := P_op (fun x y v e => by
  unfold divS at e
  split at e
  · rename_i c; cases e; exact op_fdiv c
  · cases e) p q
theorem P_mod {a b : E} {V W : Option Int} (p : P Γ gl a σ h eI V) (q : P Γ gl b σ h eI W) : P Γ gl (.op .mod a b) σ h eI (V.bind fun x => W.bind fun y => modS x y) := P_op (fun x y v e => by
  unfold modS at e
  split at e
  · rename_i c; cases e; exact op_mod c
  · cases e) p q
theorem P_cat {a b : E} {f : α → PyData} {V W : Option (List α)} (p : P Γ gl a σ h (eT f) V) (q : P Γ gl b σ h (eT f) W) : P Γ gl (.op .add a b) σ h (eT f) (V.bind fun x => W.bind fun y => catS x y) := P_op (fun x y v e => by
  unfold catS at e
  split at e
  · rename_i c
    cases e
    show (if (x.map f).length + (y.map f).length ≤ sizeLine then some (vt (x.map f ++ y.map f)) else none) = some (vt ((x ++ y).map f))
    rw [List.length_map, List.length_map, if_pos c, List.map_append]
  · cases e) p q
theorem P_neg {a : E} {V : Option Int} (p : P Γ gl a σ h eI V) : P Γ gl (.neg a) σ h eI (V.map fun x => -x) := fun v hv => by
  obtain ⟨x, e, rfl⟩ := Option.map_eq_some_iff.mp hv
  rw [denE, p x e]; rfl
theorem P_cmpI {c : Cp} {a b : E} {V W : Option Int} {F : Int → Int → Bool} (H : ∀ h x y, cmpV c h (vi x) (vi y) = some (F x y)) (p : P Γ gl a σ h eI V) (q : P Γ gl b σ h eI W) : P Γ gl (.cmp c a b) σ h eB (V.bind fun x => W.bind fun y => some (F x y)) := fun v hv => by
  obtain ⟨x, y, e1, e2, e3⟩ := bnd2 hv
  cases e3
  exact e_cmp (p x e1) (q y e2) (H h x y)
theorem P_lt {a b : E} {V W : Option Int} (p : P Γ gl a σ h eI V) (q : P Γ gl b σ h eI W) : P Γ gl (.cmp .lt a b) σ h eB (V.bind fun x => W.bind fun y => some (decide (x < y))) := P_cmpI (fun _ _ _ => rfl) p q
theorem P_le {a b : E} {V W : Option Int} (p : P Γ gl a σ h eI V) (q : P Γ gl b σ h eI W) : P Γ gl (.cmp .le a b) σ h eB (V.bind fun x => W.bind fun y => some (decide (x ≤ y))) := P_cmpI (fun _ _ _ => rfl) p q
theorem P_gt {a b : E} {V W : Option Int} (p : P Γ gl a σ h eI V) (q : P Γ gl b σ h eI W) : P Γ gl (.cmp .gt a b) σ h eB (V.bind fun x => W.bind fun y => some (decide (y < x))) := P_cmpI (fun _ _ _ => rfl) p q
theorem P_ge {a b : E} {V W : Option Int} (p : P Γ gl a σ h eI V) (q : P Γ gl b σ h eI W) : P Γ gl (.cmp .ge a b) σ h eB (V.bind fun x => W.bind fun y => some (decide (y ≤ x))) := P_cmpI (fun _ _ _ => rfl) p q
theorem eqD_enc {f : α → PyData} [DecidableEq α] [EqE f] {n : Nat} [OkE f n] (hn : n ≤ 12) {u w : Val} {x y : α} (s1 : Sh h u (f x)) (s2 : Sh h w (f y)) : eqD h u w = some (decide (x = y)) := by
  have e0 : eqD0 h u w = some (decide (x = y)) := by
    unfold eqD0
    rw [s1.snap, s2.snap]
    show (if (okD 12 (f x) && okD 12 (f y)) = true then some (PyData.eqv (f x) (f y)) else none) = _
    rw [OkE.ok x 12 hn, OkE.ok y 12 hn, EqE.eqv]; rfl
  unfold eqD
  cases hs : strsV u w with
  | none => exact e0
  | some r =>
    show some r = _
    rcases s1 with rfl | ⟨a, ds, rfl, e, e2⟩
    · rcases s2 with rfl | ⟨a, ds, rfl, e, e2⟩
      · rw [← EqE.eqv (f := f) x y]
        cases hf : f x with
        | str s => cases hg : f y with
          | str s' => rw [hf, hg] at hs; exact hs.symm
          | none | bool _ | int _ | list _ | tuple _ | dict _ => rw [hf, hg] at hs; cases hs
        | none | bool _ | int _ | list _ | tuple _ | dict _ => rw [hf] at hs; cases hs
      · cases hf : f x <;> rw [hf] at hs <;> cases hs
    · cases hs
theorem P_eq {a b : E} {f : α → PyData} [DecidableEq α] [EqE f] {n : Nat} [OkE f n] {V W : Option α} (hn : n ≤ 12) (p : PA Γ gl a σ h f V) (q : PA Γ gl b σ h f W) : P Γ gl (.cmp .eq a b) σ h eB (V.bind fun x => W.bind fun y => some (decide (x = y))) := fun v hv => by
  obtain ⟨x, y, e1, e2, e3⟩ := bnd2 hv
  cases e3
  obtain ⟨u, d1, s1⟩ := p x e1
  obtain ⟨w, d2, s2⟩ := q y e2
  exact e_cmp d1 d2 (eqD_enc hn s1 s2)
theorem P_ne {a b : E} {f : α → PyData} [DecidableEq α] [EqE f] {n : Nat} [OkE f n] {V W : Option α} (hn : n ≤ 12) (p : PA Γ gl a σ h f V) (q : PA Γ gl b σ h f W) : P Γ gl (.cmp .ne a b) σ h eB (V.bind fun x => W.bind fun y => some (!decide (x = y))) := fun v hv => by
  obtain ⟨x, y, e1, e2, e3⟩ := bnd2 hv
  cases e3
  obtain ⟨u, d1, s1⟩ := p x e1
  obtain ⟨w, d2, s2⟩ := q y e2
  refine e_cmp d1 d2 ?_
  show (eqD h u w).map (!·) = _
  rw [eqD_enc hn s1 s2]; rfl
theorem P_eqS {a b : E} {V W : Option Str} (p : P Γ gl a σ h eS V) (q : P Γ gl b σ h eS W) : P Γ gl (.cmp .eq a b) σ h eB (V.bind fun x => W.bind fun y => some (x == y)) := fun v hv => by
  obtain ⟨x, y, e1, e2, e3⟩ := bnd2 hv
  cases e3
  exact e_cmp (p x e1) (q y e2) rfl
theorem P_neS {a b : E} {V W : Option Str} (p : P Γ gl a σ h eS V) (q : P Γ gl b σ h eS W) : P Γ gl (.cmp .ne a b) σ h eB (V.bind fun x => W.bind fun y => some (!(x == y))) := fun v hv => by
  obtain ⟨x, y, e1, e2, e3⟩ := bnd2 hv
  cases e3
  exact e_cmp (p x e1) (q y e2) rfl
theorem P_chain {c d : Cp} {a b e : E} {V W U : Option Int} {F F' : Int → Int → Bool} (H : ∀ h x y, cmpV c h (vi x) (vi y) = some (F x y)) (H' : ∀ h x y, cmpV d h (vi x) (vi y) = some (F' x y)) (p : P Γ gl a σ h eI V) (q : P Γ gl b σ h eI W) (r : P Γ gl e σ h eI U) :
    P Γ gl (.chain c d a b e) σ h eB (V.bind fun x => W.bind fun y => if F x y then U.bind fun z => some (F' y z) else some false) := fun v hv => by
  obtain ⟨x, y, e1, e2, e3⟩ := bnd2 hv
  rw [denE, p x e1]
  simp only [Option.bind_some]
  rw [q y e2]
  simp only [Option.bind_some]
  rw [H]
  simp only [Option.bind_some]
  cases hF : F x y with
  | true =>
    rw [hF] at e3
    obtain ⟨z, e4, e5⟩ := Option.bind_eq_some_iff.mp e3
    cases e5
    simp only [↓reduceIte]
    rw [r z e4]
    simp only [Option.bind_some]
    rw [H']; rfl
  | false =>
    rw [hF] at e3
    cases e3; rfl
theorem cLt : ∀ (h : Hm) (x y : Int), cmpV .lt h (vi x) (vi y) = some (decide (x < y)) := fun _ _ _ => rfl
theorem cLe : ∀ (h : Hm) (x y : Int), cmpV .le h (vi x) (vi y) = some (decide (x ≤ y)) := fun _ _ _ => rfl
theorem P_isN {a : E} {f : α → PyData} [NnE f] {V : Option (Option α)} (p : P Γ gl a σ h (eO f) V) : P Γ gl (.isN a) σ h eB (V.map fun x => x.isNone) := fun v hv => by
  obtain ⟨x, e, rfl⟩ := Option.map_eq_some_iff.mp hv
  rw [denE, p x e]
  cases x with
  | none => rfl
  | some x => show some (vb (Val.isNon (.dat (f x))), h) = _; rw [NnE.nn x]; rfl
theorem P_notN {a : E} {f : α → PyData} [NnE f] {V : Option (Option α)} (p : P Γ gl a σ h (eO f) V) : P Γ gl (.notN a) σ h eB (V.map fun x => x.isSome) := fun v hv => by
  obtain ⟨x, e, rfl⟩ := Option.map_eq_some_iff.mp hv
  rw [denE, p x e]
  cases x with
  | none => rfl
  | some x => show some (vb (!Val.isNon (.dat (f x))), h) = _; rw [NnE.nn x]; rfl
theorem P_and {a b : E} {V W : Option Bool} (p : P Γ gl a σ h eB V) (q : P Γ gl b σ h eB W) : P Γ gl (.and a b) σ h eB (V.bind fun x => if x then W else some false) := fun v hv => by
  obtain ⟨x, e, e2⟩ := Option.bind_eq_some_iff.mp hv
  rw [denE, p x e]
  cases x with
  | true => exact q v e2
  | false => cases e2; rfl
theorem P_or {a b : E} {V W : Option Bool} (p : P Γ gl a σ h eB V) (q : P Γ gl b σ h eB W) : P Γ gl (.or a b) σ h eB (V.bind fun x => if x then some true else W) := fun v hv => by
  obtain ⟨x, e, e2⟩ := Option.bind_eq_some_iff.mp hv
  rw [denE, p x e]
  cases x with
  | false => exact q v e2
  | true => cases e2; rfl
theorem P_not {a : E} {V : Option Bool} (p : P Γ gl a σ h eB V) : P Γ gl (.not a) σ h eB (V.map fun x => !x) := fun v hv => by
  obtain ⟨x, e, rfl⟩ := Option.map_eq_some_iff.mp hv
  rw [denE, p x e]; rfl
theorem P_ite {c a b : E} {f : α → PyData} {C : Option Bool} {V W : Option α} (r : P Γ gl c σ h eB C) (p : P Γ gl a σ h f V) (q : P Γ gl b σ h f W) : P Γ gl (.ite c a b) σ h f (C.bind fun x => if x then V else W) := fun v hv => by
  obtain ⟨x, e, e2⟩ := Option.bind_eq_some_iff.mp hv
  rw [denE, r x e]
  cases x with
  | true => exact p v e2
  | false => exact q v e2
/-! ### sequences -/
theorem P_len {a : E} {f : α → PyData} {g : β → PyData} {L : α → List β} {l : Bool} {V : Option α} (S : SqE f g L l) (p : PA Γ gl a σ h f V) : P Γ gl (.bi .len [a]) σ h eI (V.map fun x => ((L x).length : Int)) := fun v hv => by
  obtain ⟨x, e, rfl⟩ := Option.map_eq_some_iff.mp hv
  obtain ⟨w, d, s⟩ := p x e
  refine e_bi (es_cons d es_nil) ?_
  show (items h w).map (fun xs => vi xs.length) = _
  rw [s.items S]
  show some (vi (((L x).map _).length : Int)) = _
  rw [List.length_map]
theorem atI_map (f : α → β) (xs : List α) (i : Int) : atI (xs.map f) i = (atI xs i).map f := by
  unfold atI
  rw [List.length_map]
  cases ixN xs.length i with
  | none => rfl
  | some k => show (xs.map f)[k]? = (xs[k]?).map f; rw [List.getElem?_map]
theorem P_sub {a b : E} {f : α → PyData} {g : β → PyData} {L : α → List β} {l : Bool} {V : Option α} {W : Option Int} (S : SqE f g L l) (p : PA Γ gl a σ h f V) (q : P Γ gl b σ h eI W) : P Γ gl (.sub a b) σ h g (V.bind fun x => W.bind fun i => atI (L x) i) := fun v hv => by
  obtain ⟨x, y, e1, e2, e3⟩ := bnd2 hv
  obtain ⟨w, d, s⟩ := p x e1
  refine e_sub d (q y e2) ?_
  show (items h w).bind (fun xs => atI xs y) = _
  rw [s.items S]
  show atI ((L x).map _) y = _
  rw [atI_map, e3]; rfl
/-- the part of a tuple that a number names -/
theorem P_part {a : E} {i : Int} {f : α → PyData} {g : β → PyData} {c : α → β} {V : Option α} (H : ∀ h x, subV h (.dat (f x)) (vi i) = some (.dat (g (c x)))) (p : P Γ gl a σ h f V) : P Γ gl (.sub a (.int i)) σ h g (V.map c) := fun v hv => by
  obtain ⟨x, e, rfl⟩ := Option.map_eq_some_iff.mp hv
  exact e_sub (p x e) e_int (H h x)
def PO (Γ : Env) (gl : Glo) (e : Option E) (σ : Fr) (h : Hm) (V : Option (Option Int)) : Prop := ∀ v, V = some v → denO Γ gl e σ h = some (v, h)
theorem PO_none : PO Γ gl none σ h (some none) := fun v hv => by cases hv; rw [denO]
theorem PO_some {e : E} {V : Option Int} (p : P Γ gl e σ h eI V) : PO Γ gl (some e) σ h (V.map some) := fun v hv => by
  obtain ⟨x, e, rfl⟩ := Option.map_eq_some_iff.mp hv
  rw [denO, p x e]; rfl
theorem cutL_map (f : α → β) (xs : List α) (lo hi : Option Int) : cutL (xs.map f) lo hi = (cutL xs lo hi).map f := by
  unfold cutL
  rw [List.length_map, List.map_take, List.map_drop]
theorem P_slc {a : E} {lo hi : Option E} {f : α → PyData} {V : Option (List α)} {X Y : Option (Option Int)} (p : P Γ gl a σ h (eT f) V) (q : PO Γ gl lo σ h X) (r : PO Γ gl hi σ h Y) : P Γ gl (.slc a lo hi) σ h (eT f) (V.bind fun xs => X.bind fun i => Y.bind fun j => some (cutL xs i j)) := fun v hv => by
  obtain ⟨xs, e1, e2⟩ := Option.bind_eq_some_iff.mp hv
  obtain ⟨i, j, e3, e4, e5⟩ := bnd2 e2
  cases e5
  rw [denE, p xs e1]
  simp only [Option.bind_some]
  rw [q i e3]
  simp only [Option.bind_some]
  rw [r j e4]
  show some (vt (cutL (xs.map f) i j), h) = _
  rw [cutL_map]; rfl
/-! ### tuples -/
theorem P_tup0 {f : α → PyData} : P Γ gl (.tup []) σ h (eT f) (some []) := fun v hv => by
  cases hv
  exact e_tup (vs := []) (ds := []) es_nil rfl (by decide)
theorem P_tup1 {a : E} {f : α → PyData} {V : Option α} (p : P Γ gl a σ h f V) : P Γ gl (.tup [a]) σ h (eT f) (V.map fun x => [x]) := fun v hv => by
  obtain ⟨x, e, rfl⟩ := Option.map_eq_some_iff.mp hv
  exact e_tup (ds := [f x]) (es_cons (p x e) es_nil) rfl (show 1 ≤ sizeLine by decide)
theorem P_tup2 {a b : E} {f : α → PyData} {g : β → PyData} {V : Option α} {W : Option β} (p : P Γ gl a σ h f V) (q : P Γ gl b σ h g W) : P Γ gl (.tup [a, b]) σ h (eP f g) (V.bind fun x => W.bind fun y => some (x, y)) := fun v hv => by
  obtain ⟨x, y, e1, e2, e3⟩ := bnd2 hv
  cases e3
  exact e_tup (ds := [f x, g y]) (es_cons (p x e1) (es_cons (q y e2) es_nil)) rfl (show 2 ≤ sizeLine by decide)
theorem P_tup3 {a b c : E} {f : α → PyData} {g : β → PyData} {k : γ → PyData} {V : Option α} {W : Option β} {U : Option γ} (p : P Γ gl a σ h f V) (q : P Γ gl b σ h g W) (r : P Γ gl c σ h k U) : P Γ gl (.tup [a, b, c]) σ h (e3 f g k) (V.bind fun x => W.bind fun y => U.bind fun z => some (x, y, z)) := fun v hv => by
  obtain ⟨x, e1, e2⟩ := Option.bind_eq_some_iff.mp hv
  obtain ⟨y, z, e3, e4, e5⟩ := bnd2 e2
  cases e5
  exact e_tup (ds := [f x, g y, k z]) (es_cons (p x e1) (es_cons (q y e3) (es_cons (r z e4) es_nil))) rfl (show 3 ≤ sizeLine by decide)
theorem P_tup4 {a b c d : E} {f : α → PyData} {g : β → PyData} {k : γ → PyData} {m : δ → PyData} {V : Option α} {W : Option β} {U : Option γ} {X : Option δ} (p : P Γ gl a σ h f V) (q : P Γ gl b σ h g W) (r : P Γ gl c σ h k U) (s : P Γ gl d σ h m X) : P Γ gl (.tup [a, b, c, d]) σ h (e4 f g k m) (V.bind fun x => W.bind fun y => U.bind fun z => X.bind fun t => some (x, y, z, t)) := fun v hv => by
  obtain ⟨x, e1, e2⟩ := Option.bind_eq_some_iff.mp hv
  obtain ⟨y, e3, e4⟩ := Option.bind_eq_some_iff.mp e2
  obtain ⟨z, t, e5, e6, e7⟩ := bnd2 e4
  cases e7
  exact e_tup (ds := [f x, g y, k z, m t]) (es_cons (p x e1) (es_cons (q y e3) (es_cons (r z e5) (es_cons (s t e6) es_nil)))) rfl (show 4 ≤ sizeLine by decide)
theorem dats_enc (f : α → PyData) (xs : List α) : dats (xs.map fun x => .dat (f x)) = some (xs.map f) := by
  have := dats_dats (xs.map f)
  rw [List.map_map] at this
  exact this
theorem P_tuple {a : E} {f : α → PyData} {g : β → PyData} {L : α → List β} {l : Bool} {V : Option α} (S : SqE f g L l) (p : PA Γ gl a σ h f V) : P Γ gl (.bi .tuple [a]) σ h (eT g) (V.map L) := fun v hv => by
  obtain ⟨x, e, rfl⟩ := Option.map_eq_some_iff.mp hv
  obtain ⟨w, d, s⟩ := p x e
  refine e_bi (es_cons d es_nil) ?_
  show (items h w).bind (fun xs => (dats xs).map vt) = _
  rw [s.items S]
  show (dats ((L x).map fun y => .dat (g y))).map vt = _
  rw [dats_enc]; rfl
theorem P_repr {a : E} {f : α → PyData} {V : Option α} (p : PA Γ gl a σ h f V) : P Γ gl (.bi .repr [a]) σ h eS (V.bind fun x => reprS (f x)) := fun v hv => by
  obtain ⟨x, e, e2⟩ := Option.bind_eq_some_iff.mp hv
  obtain ⟨w, d, s⟩ := p x e
  refine e_bi (es_cons d es_nil) ?_
  show ((snap 4 h w).bind fun d => if rsz 12 d ≤ 2 ^ 24 then some (Val.dat (.str d.shown)) else none) = _
  rw [s.snap]
  show (if rsz 12 (f x) ≤ 2 ^ 24 then some (Val.dat (.str (f x).shown)) else none) = _
  unfold reprS at e2
  split at e2
  · rename_i c; rw [if_pos c]; cases e2; rfl
  · cases e2
theorem P_abs {a : E} {V : Option Int} (p : P Γ gl a σ h eI V) : P Γ gl (.bi .abs [a]) σ h eI (V.map fun x => if x < 0 then -x else x) := fun v hv => by
  obtain ⟨x, e, rfl⟩ := Option.map_eq_some_iff.mp hv
  exact e_bi (es_cons (p x e) es_nil) rfl
theorem P_intB {a : E} {V : Option Bool} (p : P Γ gl a σ h eB V) : P Γ gl (.bi .int [a]) σ h eI (V.map fun x => if x then 1 else 0) := fun v hv => by
  obtain ⟨x, e, rfl⟩ := Option.map_eq_some_iff.mp hv
  exact e_bi (es_cons (p x e) es_nil) rfl
theorem P_min2 {a b : E} {V W : Option Int} (p : P Γ gl a σ h eI V) (q : P Γ gl b σ h eI W) : P Γ gl (.bi .min [a, b]) σ h eI (V.bind fun x => W.bind fun y => some (if y < x then y else x)) := fun v hv => by
  obtain ⟨x, y, e1, e2, e3⟩ := bnd2 hv
  cases e3
  exact e_bi (es_cons (p x e1) (es_cons (q y e2) es_nil)) rfl
theorem P_max2 {a b : E} {V W : Option Int} (p : P Γ gl a σ h eI V) (q : P Γ gl b σ h eI W) : P Γ gl (.bi .max [a, b]) σ h eI (V.bind fun x => W.bind fun y => some (if y > x then y else x)) := fun v hv => by
  obtain ⟨x, y, e1, e2, e3⟩ := bnd2 hv
  cases e3
  exact e_bi (es_cons (p x e1) (es_cons (q y e2) es_nil)) rfl
theorem intsV_map (xs : List Int) : intsV (xs.map fun x => .dat (eI x)) = some xs := by
  have := mapO_map (fun x => Val.dat (eI x)) (fun v => match v with | .dat (.int i) => some i | _ => none) (fun x => x) (fun _ => rfl) xs
  rw [List.map_id'] at this
  exact this
theorem boolsV_map (xs : List Bool) : boolsV (xs.map fun x => .dat (eB x)) = some xs := by
  have := mapO_map (fun x => Val.dat (eB x)) (fun v => match v with | .dat (.bool i) => some i | _ => none) (fun x => x) (fun _ => rfl) xs
  rw [List.map_id'] at this
  exact this
theorem ints_of {w : Val} {xs : List Int} (s : Sh h w (eL eI xs)) : isLst h w = true ∧ (items h w).bind intsV = some xs := ⟨Sh.isLst s, by rw [s.items sqL]; exact intsV_map xs⟩
theorem P_sum {a : E} {V : Option (List Int)} (p : PA Γ gl a σ h (eL eI) V) : P Γ gl (.bi .sum [a]) σ h eI (V.map List.sum) := fun v hv => by
  obtain ⟨x, e, rfl⟩ := Option.map_eq_some_iff.mp hv
  obtain ⟨w, d, s⟩ := p x e
  refine e_bi (es_cons d es_nil) ?_
  show (if isLst h w then (items h w).bind fun xs => (intsV xs).map fun ns => vi ns.sum else none) = _
  rw [Sh.isLst s, s.items sqL]
  show (intsV (x.map fun x => .dat (eI x))).map _ = _
  rw [intsV_map]; rfl
theorem P_min {a : E} {V : Option (List Int)} (p : PA Γ gl a σ h (eL eI) V) : P Γ gl (.bi .min [a]) σ h eI (V.bind minL) := fun v hv => by
  obtain ⟨x, e, e2⟩ := Option.bind_eq_some_iff.mp hv
  obtain ⟨w, d, s⟩ := p x e
  refine e_bi (es_cons d es_nil) ?_
  show (if isLst h w then (items h w).bind fun xs => (intsV xs).bind fun ns => (minL ns).map vi else none) = _
  rw [Sh.isLst s, s.items sqL]
  show (intsV (x.map fun x => .dat (eI x))).bind _ = _
  rw [intsV_map]
  show (minL x).map vi = _
  rw [e2]; rfl
theorem P_max {a : E} {V : Option (List Int)} (p : PA Γ gl a σ h (eL eI) V) : P Γ gl (.bi .max [a]) σ h eI (V.bind maxL) := fun v hv => by
  obtain ⟨x, e, e2⟩ := Option.bind_eq_some_iff.mp hv
  obtain ⟨w, d, s⟩ := p x e
  refine e_bi (es_cons d es_nil) ?_
  show (if isLst h w then (items h w).bind fun xs => (intsV xs).bind fun ns => (maxL ns).map vi else none) = _
  rw [Sh.isLst s, s.items sqL]
  show (intsV (x.map fun x => .dat (eI x))).bind _ = _
  rw [intsV_map]
  show (maxL x).map vi = _
  rw [e2]; rfl
theorem P_anyL {a : E} {V : Option (List Bool)} (p : PA Γ gl a σ h (eL eB) V) : P Γ gl (.bi .any [a]) σ h eB (V.map fun x => x.any id) := fun v hv => by
  obtain ⟨x, e, rfl⟩ := Option.map_eq_some_iff.mp hv
  obtain ⟨w, d, s⟩ := p x e
  refine e_bi (es_cons d es_nil) ?_
  show (if isLst h w then (items h w).bind fun xs => (boolsV xs).map fun ns => vb (ns.any id) else none) = _
  rw [Sh.isLst s, s.items sqL]
  show (boolsV (x.map fun x => .dat (eB x))).map _ = _
  rw [boolsV_map]; rfl
theorem P_allL {a : E} {V : Option (List Bool)} (p : PA Γ gl a σ h (eL eB) V) : P Γ gl (.bi .all [a]) σ h eB (V.map fun x => x.all id) := fun v hv => by
  obtain ⟨x, e, rfl⟩ := Option.map_eq_some_iff.mp hv
  obtain ⟨w, d, s⟩ := p x e
  refine e_bi (es_cons d es_nil) ?_
  show (if isLst h w then (items h w).bind fun xs => (boolsV xs).map fun ns => vb (ns.all id) else none) = _
  rw [Sh.isLst s, s.items sqL]
  show (boolsV (x.map fun x => .dat (eB x))).map _ = _
  rw [boolsV_map]; rfl
theorem P_count {a b : E} {f : α → PyData} {L : α → List Int} {l : Bool} {V : Option α} {W : Option Int} (S : SqE f eI L l) (p : PA Γ gl a σ h f V) (q : P Γ gl b σ h eI W) : P Γ gl (.met .count a [b]) σ h eI (V.bind fun x => W.bind fun i => some (((L x).count i : Nat) : Int)) := fun v hv => by
  obtain ⟨x, y, e1, e2, e3⟩ := bnd2 hv
  cases e3
  obtain ⟨w, d, s⟩ := p x e1
  refine e_met d ?_ (es_cons (q y e2) es_nil) ?_
  · have s2 := s
    rw [S x] at s2
    unfold mtOk
    simp only []
    rw [s.items S]
    cases l with
    | true =>
      rw [Sh.isLst s2]
      rfl
    | false =>
      rcases s2 with rfl | ⟨a, ds, rfl, e, e2⟩
      · rfl
      · cases e2
  · show ((items h w).bind fun xs => (intsV xs).map fun ns => (vi (ns.count y), h)) = _
    rw [s.items S]
    show (intsV ((L x).map fun x => .dat (eI x))).map _ = _
    rw [intsV_map]; rfl
end
end Mi
end
/-! ## MiV2 -/
section
set_option maxHeartbeats 2000000
/-! MiV2: terms of Mi read as plain functions: new lists, walks, calls, statements. -/
namespace Mi
open PySem
variable {α β γ δ ε τ A ρ : Type}
section
variable {Γ : Env} {gl : Glo} {σ : Fr} {h : Hm}
/-! ### new lists -/
def PN (Γ : Env) (gl : Glo) (n : N) (σ : Fr) (h : Hm) (f : α → PyData) (V : Option (List α)) : Prop := ∀ v, V = some v → denN Γ gl n σ h = some (.lst (v.map fun x => .dat (f x)), h)
theorem P_fz {n : N} {f : α → PyData} {V : Option (List α)} (p : PN Γ gl n σ h f V) : P Γ gl (.fz n) σ h (eL f) V := fun v hv => e_fz (p v hv) (dats_enc f v)
def PH (Γ : Env) (gl : Glo) (es : List E) (σ : Fr) (h : Hm) (f : α → PyData) (V : Option (List α)) : Prop := ∀ v, V = some v → denEs Γ gl es σ h = some (v.map fun x => .dat (f x), h) ∧ v.length = es.length
theorem PH_nil {f : α → PyData} : PH Γ gl [] σ h f (some []) := fun v hv => by cases hv; exact ⟨es_nil, rfl⟩
theorem PH_cons {e : E} {es : List E} {f : α → PyData} {V : Option α} {W : Option (List α)} (p : P Γ gl e σ h f V) (q : PH Γ gl es σ h f W) : PH Γ gl (e :: es) σ h f (V.bind fun x => W.bind fun y => some (x :: y)) := fun v hv => by
  obtain ⟨x, y, e1, e2, e3⟩ := bnd2 hv
  cases e3
  obtain ⟨q1, q2⟩ := q y e2
  exact ⟨es_cons (p x e1) q1, by rw [List.length_cons, List.length_cons, q2]⟩
theorem PN_lst {es : List E} {f : α → PyData} {V : Option (List α)} (hl : es.length ≤ 1000) (p : PH Γ gl es σ h f V) : PN Γ gl (.lst es) σ h f V := fun v hv => by
  obtain ⟨q1, q2⟩ := p v hv
  exact n_lst q1 (by rw [List.length_map, q2]; exact Nat.le_trans hl (by decide))
theorem PN_list {a : E} {f : α → PyData} {g : β → PyData} {L : α → List β} {l : Bool} {V : Option α} (S : SqE f g L l) (p : PA Γ gl a σ h f V) : PN Γ gl (.list a) σ h g (V.map L) := fun v hv => by
  obtain ⟨x, e, rfl⟩ := Option.map_eq_some_iff.mp hv
  obtain ⟨w, d, s⟩ := p x e
  rw [denN, d]
  show (items h w).map (fun vs => (Ob.lst vs, h)) = _
  rw [s.items S]; rfl
theorem PN_listR {a b : E} {V W : Option Int} (p : P Γ gl a σ h eI V) (q : P Γ gl b σ h eI W) : PN Γ gl (.listR a b) σ h eI (V.bind fun x => W.bind fun y => rng2 x y) := fun v hv => by
  obtain ⟨x, y, e1, e2, e3⟩ := bnd2 hv
  rw [denN, p x e1]
  simp only [Option.bind_some]
  rw [q y e2]
  simp only [Option.bind_some]
  unfold rng2 at e3
  split at e3
  · rename_i c
    rw [if_pos c]
    cases e3
    rw [List.map_map]; rfl
  · cases e3
theorem PN_sorted {a : E} {V : Option (List Int)} (p : PA Γ gl a σ h (eL eI) V) : PN Γ gl (.sorted a) σ h eI (V.map fun ns => ns.mergeSort (fun a b => decide (a ≤ b))) := fun v hv => by
  obtain ⟨x, e, rfl⟩ := Option.map_eq_some_iff.mp hv
  obtain ⟨w, d, s⟩ := p x e
  rw [denN, d]
  simp only [Option.bind_some]
  rw [if_pos (Sh.isLst s), s.items sqL]
  simp only [Option.bind_some]
  rw [intsV_map]; rfl
theorem PN_add {a b : E} {f : α → PyData} {V W : Option (List α)} (p : PA Γ gl a σ h (eL f) V) (q : PA Γ gl b σ h (eL f) W) : PN Γ gl (.add a b) σ h f (V.bind fun x => W.bind fun y => catS x y) := fun v hv => by
  obtain ⟨x, y, e1, e2, e3⟩ := bnd2 hv
  obtain ⟨u, d1, s1⟩ := p x e1
  obtain ⟨w, d2, s2⟩ := q y e2
  rw [denN, d1]
  simp only [Option.bind_some]
  rw [d2]
  simp only [Option.bind_some]
  rw [s1.lsOf, s2.lsOf]
  simp only [Option.bind_some, List.length_map]
  unfold catS at e3
  split at e3
  · rename_i c
    rw [if_pos c]
    cases e3
    rw [List.map_append]
  · cases e3
theorem PN_rep {a b : E} {f : α → PyData} {V : Option (List α)} {W : Option Int} (p : PA Γ gl a σ h (eL f) V) (q : P Γ gl b σ h eI W) : PN Γ gl (.rep a b) σ h f (V.bind fun x => W.bind fun y => repS x y) := fun v hv => by
  obtain ⟨x, y, e1, e2, e3⟩ := bnd2 hv
  obtain ⟨u, d1, s1⟩ := p x e1
  rw [denN, d1]
  show ((denE Γ gl b σ h).bind (repF (u, h))) = _
  rw [q y e2]
  show (lsOf h u).bind (fun xs => if -(2 ^ 63) ≤ y ∧ y < 2 ^ 63 ∧ xs.length * y.toNat ≤ sizeLine then some (Ob.lst (List.replicate y.toNat xs).flatten, h) else none) = _
  rw [s1.lsOf]
  show (if -(2 ^ 63) ≤ y ∧ y < 2 ^ 63 ∧ (x.map fun y => Val.dat (f y)).length * y.toNat ≤ sizeLine then some (Ob.lst (List.replicate y.toNat (x.map fun y => Val.dat (f y))).flatten, h) else none) = _
  rw [List.length_map]
  unfold repS at e3
  split at e3
  · rename_i c
    rw [if_pos c]
    cases e3
    rw [List.map_flatten, List.map_replicate]
  · cases e3
theorem PN_slc {a : E} {lo hi : Option E} {f : α → PyData} {V : Option (List α)} {X Y : Option (Option Int)} (p : PA Γ gl a σ h (eL f) V) (q : PO Γ gl lo σ h X) (r : PO Γ gl hi σ h Y) : PN Γ gl (.slc a lo hi) σ h f (V.bind fun xs => X.bind fun i => Y.bind fun j => some (cutL xs i j)) := fun v hv => by
  obtain ⟨xs, e1, e2⟩ := Option.bind_eq_some_iff.mp hv
  obtain ⟨i, j, e3, e4, e5⟩ := bnd2 e2
  cases e5
  obtain ⟨u, d1, s1⟩ := p xs e1
  rw [denN, d1]
  simp only [Option.bind_some]
  rw [q i e3]
  simp only [Option.bind_some]
  rw [r j e4]
  simp only [Option.bind_some]
  rw [if_pos (Sh.isLst s1), s1.items sqL]
  show some (Ob.lst (cutL (xs.map _) i j), h) = _
  rw [cutL_map]
/-! ### what is walked -/
def PI (Γ : Env) (gl : Glo) (it : I) (σ : Fr) (h : Hm) (mk : α → Itm) (V : Option (List α)) : Prop := ∀ v, V = some v → ∃ g, denI Γ gl it σ h = some ((v.map mk, g), h) ∧ g.ok h = true
def PI0 (Γ : Env) (gl : Glo) (it : I) (σ : Fr) (h : Hm) (mk : α → Itm) (V : Option (List α)) : Prop := ∀ v, V = some v → denI Γ gl it σ h = some ((v.map mk, none), h)
theorem PI_of {it : I} {mk : α → Itm} {V : Option (List α)} (p : PI0 Γ gl it σ h mk V) : PI Γ gl it σ h mk V := fun v hv => ⟨none, p v hv, rfl⟩
def mk1 (f : α → PyData) (x : α) : Itm := .one (.dat (f x))
def mkE (f : α → PyData) (p : Int × α) : Itm := .many [.int p.1, f p.2]
def mkZ (f : α → PyData) (g : β → PyData) (p : α × β) : Itm := .many [f p.1, g p.2]
theorem I0_e {a : E} {f : α → PyData} {g : β → PyData} {L : α → List β} {l : Bool} {V : Option α} (S : SqE f g L l) (p : P Γ gl a σ h f V) : PI0 Γ gl (.e a) σ h (mk1 g) (V.map L) := fun v hv => by
  obtain ⟨x, e, rfl⟩ := Option.map_eq_some_iff.mp hv
  rw [denI, p x e, S x]
  cases l
  · show some ((((L x).map g).map fun d => Itm.one (.dat d), none), h) = _
    rw [List.map_map]; rfl
  · show some ((((L x).map g).map fun d => Itm.one (.dat d), none), h) = _
    rw [List.map_map]; rfl
theorem I_e {a : E} {f : α → PyData} {g : β → PyData} {L : α → List β} {l : Bool} {V : Option α} (S : SqE f g L l) (p : PA Γ gl a σ h f V) : PI Γ gl (.e a) σ h (mk1 g) (V.map L) := fun v hv => by
  obtain ⟨x, e, rfl⟩ := Option.map_eq_some_iff.mp hv
  obtain ⟨w, d, s⟩ := p x e
  have s' := s
  rw [S x] at s'
  rcases s' with rfl | ⟨a, ds, rfl, e1, e2⟩
  · refine ⟨none, ?_, rfl⟩
    rw [denI, d]
    cases l
    · show some ((((L x).map g).map fun d => Itm.one (.dat d), none), h) = _
      rw [List.map_map]; rfl
    · show some ((((L x).map g).map fun d => Itm.one (.dat d), none), h) = _
      rw [List.map_map]; rfl
  · cases l with
    | false => cases e2
    | true =>
      have e3 : (L x).map g = ds := PyData.list.inj e2
      refine ⟨some (a, ds.map .dat), ?_, decide_eq_true e1⟩
      rw [denI, d]
      simp only [Option.bind_some]
      rw [e1]
      show some ((((ds.map Val.dat).map Itm.one), _), h) = _
      rw [← e3, List.map_map, List.map_map]; rfl
theorem I0_range1 {a : E} {V : Option Int} (p : P Γ gl a σ h eI V) : PI0 Γ gl (.range1 a) σ h (mk1 eI) (V.bind rng1) := fun v hv => by
  obtain ⟨x, e, e2⟩ := Option.bind_eq_some_iff.mp hv
  rw [denI, p x e]
  simp only [Option.bind_some]
  unfold rng1 at e2
  split at e2
  · rename_i c
    rw [if_pos c]
    cases e2
    rw [List.map_map]; rfl
  · cases e2
theorem I0_range2 {a b : E} {V W : Option Int} (p : P Γ gl a σ h eI V) (q : P Γ gl b σ h eI W) : PI0 Γ gl (.range2 a b) σ h (mk1 eI) (V.bind fun x => W.bind fun y => rng2 x y) := fun v hv => by
  obtain ⟨x, y, e1, e2, e3⟩ := bnd2 hv
  rw [denI, p x e1]
  simp only [Option.bind_some]
  rw [q y e2]
  simp only [Option.bind_some]
  unfold rng2 at e3
  split at e3
  · rename_i c
    rw [if_pos c]
    cases e3
    rw [List.map_map]; rfl
  · cases e3
theorem pairI_enum (f : α → PyData) : ∀ (xs : List α) (i : Nat), pairI i (xs.map f) = (enumS i xs).map (mkE f)
  | [], _ => rfl
  | x :: xs, i => by
    show Itm.many [.int i, f x] :: pairI (i + 1) (xs.map f) = _
    rw [pairI_enum f xs (i + 1)]; rfl
theorem I0_enum {a : E} {f : α → PyData} {g : β → PyData} {L : α → List β} {l : Bool} {V : Option α} (S : SqE f g L l) (p : P Γ gl a σ h f V) : PI0 Γ gl (.enum a) σ h (mkE g) (V.map fun x => enumS 0 (L x)) := fun v hv => by
  obtain ⟨x, e, rfl⟩ := Option.map_eq_some_iff.mp hv
  rw [denI, p x e, S x]
  cases l
  · show some ((pairI 0 ((L x).map g), none), h) = _
    rw [pairI_enum]
  · show some ((pairI 0 ((L x).map g), none), h) = _
    rw [pairI_enum]
theorem zip_mk (f : α → PyData) (g : β → PyData) : ∀ (xs : List α) (ys : List β), List.zipWith (fun x y => Itm.many [x, y]) (xs.map f) (ys.map g) = (xs.zip ys).map (mkZ f g)
  | [], _ => rfl
  | _ :: _, [] => rfl
  | x :: xs, y :: ys => by
    show Itm.many [f x, g y] :: List.zipWith (fun x y => Itm.many [x, y]) (xs.map f) (ys.map g) = _
    rw [zip_mk f g xs ys]; rfl
theorem I0_zipT {a b : E} {f : α → PyData} {g : β → PyData} {V : Option (List α)} {W : Option (List β)} (p : P Γ gl a σ h (eT f) V) (q : P Γ gl b σ h (eT g) W) : PI0 Γ gl (.zip a b) σ h (mkZ f g) (V.bind fun x => W.bind fun y => some (x.zip y)) := fun v hv => by
  obtain ⟨x, y, e1, e2, e3⟩ := bnd2 hv
  cases e3
  rw [denI, p x e1]
  simp only [Option.bind_some]
  rw [q y e2]
  show some ((List.zipWith (fun x y => Itm.many [x, y]) (x.map f) (y.map g), none), h) = _
  rw [zip_mk]
theorem I0_zipL {a b : E} {f : α → PyData} {g : β → PyData} {V : Option (List α)} {W : Option (List β)} (p : P Γ gl a σ h (eL f) V) (q : P Γ gl b σ h (eL g) W) : PI0 Γ gl (.zip a b) σ h (mkZ f g) (V.bind fun x => W.bind fun y => some (x.zip y)) := fun v hv => by
  obtain ⟨x, y, e1, e2, e3⟩ := bnd2 hv
  cases e3
  rw [denI, p x e1]
  simp only [Option.bind_some]
  rw [q y e2]
  show some ((List.zipWith (fun x y => Itm.many [x, y]) (x.map f) (y.map g), none), h) = _
  rw [zip_mk]
def PC (Γ : Env) (gl : Glo) (c : Option E) (σ : Fr) (h : Hm) (V : Option Bool) : Prop := ∀ v, V = some v → denC Γ gl c σ h = some (v, h)
theorem PC_none : PC Γ gl none σ h (some true) := fun v hv => by cases hv; rw [denC]
theorem PC_some {e : E} {V : Option Bool} (p : P Γ gl e σ h eB V) : PC Γ gl (some e) σ h V := fun v hv => by rw [denC, p v hv]; rfl
theorem comp_run {G : Gd} {Fn : Itm → Hm → Option (Option Val × Hm)} {mk : α → Itm} {g : β → PyData} {C : α → Option Bool} {F : α → Option β} (ok : G.ok h = true)
    (H1 : ∀ x, C x = some false → Fn (mk x) h = some (none, h)) (H2 : ∀ x y, C x = some true → F x = some y → Fn (mk x) h = some (some (.dat (g y)), h)) : ∀ (xs : List α) (ys : List β) (acc : List Val), compS C F xs = some ys →
    compD G Fn (xs.map mk) acc h = some (acc ++ ys.map fun y => .dat (g y), h)
  | [], ys, acc, e => by
    cases e
    rw [List.map_nil, compD, if_pos ok, List.map_nil, List.append_nil]
  | x :: xs, ys, acc, e => by
    unfold compS at e
    obtain ⟨b, e1, e2⟩ := Option.bind_eq_some_iff.mp e
    rw [List.map_cons, compD, if_pos ok]
    cases b with
    | false =>
      rw [H1 x e1]
      exact comp_run ok H1 H2 xs ys acc e2
    | true =>
      obtain ⟨y, e3, e4⟩ := Option.bind_eq_some_iff.mp e2
      obtain ⟨zs, e5, rfl⟩ := Option.map_eq_some_iff.mp e4
      rw [H2 x y e1 e3]
      show compD G Fn (xs.map mk) (acc ++ [.dat (g y)]) h = _
      rw [comp_run ok H1 H2 xs zs _ e5, List.append_assoc]; rfl
theorem PN_comp {elt : E} {t : Tg} {it : I} {cond : Option E} {own : List Nat} {mk : α → Itm} {g : β → PyData} {XS : Option (List α)} {S : α → Fr} {C : α → Option Bool} {F : α → Option β}
    (pi : PI Γ gl it σ h mk XS) (hs : ∀ x, tgItm t (mk x) (wipeF σ own) = some (S x)) (pc : ∀ x, PC Γ gl cond (S x) h (C x)) (pf : ∀ x, P Γ gl elt (S x) h g (F x)) :
    PN Γ gl (.comp elt t it cond own) σ h g (XS.bind fun xs => compS C F xs) := fun v hv => by
  obtain ⟨xs, e1, e2⟩ := Option.bind_eq_some_iff.mp hv
  obtain ⟨G, d, ok⟩ := pi xs e1
  refine n_comp d (vs := v.map fun y => .dat (g y)) (h2 := h) ?_
  refine (comp_run (mk := mk) (g := g) (C := C) (F := F) ok (fun x ex => ?_) (fun x y ex ey => ?_) xs v [] e2).trans (by rw [List.nil_append])
  · rw [hs x]
    simp only [Option.bind_some]
    rw [pc x _ ex]; rfl
  · rw [hs x]
    simp only [Option.bind_some]
    rw [pc x _ ex]
    simp only [Option.bind_some, ↓reduceIte]
    rw [pf x y ey]; rfl
/-! ### calls -/
def PEs (Γ : Env) (gl : Glo) (es : List E) (σ : Fr) (h : Hm) (args : α → List PyData) (V : Option α) : Prop := ∀ v, V = some v → denEs Γ gl es σ h = some ((args v).map .dat, h)
theorem PEs_one {e : E} {f : α → PyData} {V : Option α} (p : P Γ gl e σ h f V) : PEs Γ gl [e] σ h (fun x => [f x]) V := fun v hv => es_cons (p v hv) es_nil
theorem PEs_cons {e : E} {es : List E} {f : α → PyData} {args : β → List PyData} {V : Option α} {W : Option β} (p : P Γ gl e σ h f V) (q : PEs Γ gl es σ h args W) : PEs Γ gl (e :: es) σ h (fun (x : α × β) => f x.1 :: args x.2) (V.bind fun x => W.bind fun y => some (x, y)) := fun v hv => by
  obtain ⟨x, y, e1, e2, e3⟩ := bnd2 hv
  cases e3
  exact es_cons (p x e1) (q y e2)
def SpD (Γ : Env) (f : Nat) (args : α → List PyData) (k : τ → PyData) (F : α → Option τ) : Prop := ∀ h x v, F x = some v → Γ f ((args x).map .dat) h = some (.dat (k v), h)
theorem P_call {f : Nat} {es : List E} {args : α → List PyData} {k : τ → PyData} {F : α → Option τ} {V : Option α} (s : SpD Γ f args k F) (p : PEs Γ gl es σ h args V) : P Γ gl (.call f es) σ h k (V.bind F) := fun v hv => by
  obtain ⟨x, e1, e2⟩ := Option.bind_eq_some_iff.mp hv
  exact e_call (p x e1) (s h x v e2)
inductive Shs (h : Hm) : List Val → List PyData → Prop
  | nil : Shs h [] []
  | cons {w d ws ds} : Sh h w d → Shs h ws ds → Shs h (w :: ws) (d :: ds)
def PEsA (Γ : Env) (gl : Glo) (es : List E) (σ : Fr) (h : Hm) (args : α → List PyData) (V : Option α) : Prop := ∀ v, V = some v → ∃ ws, denEs Γ gl es σ h = some (ws, h) ∧ Shs h ws (args v)
theorem PEsA_one {e : E} {f : α → PyData} {V : Option α} (p : PA Γ gl e σ h f V) : PEsA Γ gl [e] σ h (fun x => [f x]) V := fun v hv => by
  obtain ⟨w, d, s⟩ := p v hv
  exact ⟨[w], es_cons d es_nil, .cons s .nil⟩
theorem PEsA_cons {e : E} {es : List E} {f : α → PyData} {args : β → List PyData} {V : Option α} {W : Option β} (p : PA Γ gl e σ h f V) (q : PEsA Γ gl es σ h args W) : PEsA Γ gl (e :: es) σ h (fun (x : α × β) => f x.1 :: args x.2) (V.bind fun x => W.bind fun y => some (x, y)) := fun v hv => by
  obtain ⟨x, y, e1, e2, e3⟩ := bnd2 hv
  cases e3
  obtain ⟨w, d, s⟩ := p x e1
  obtain ⟨ws, d2, s2⟩ := q y e2
  exact ⟨w :: ws, es_cons d d2, .cons s s2⟩
def SpR (Γ : Env) (f : Nat) (args : α → List PyData) (k : τ → PyData) (F : α → Option τ) : Prop := ∀ h x v ws, Shs h ws (args x) → F x = some v → Γ f ws h = some (.dat (k v), h)
theorem P_callR {f : Nat} {es : List E} {args : α → List PyData} {k : τ → PyData} {F : α → Option τ} {V : Option α} (s : SpR Γ f args k F) (p : PEsA Γ gl es σ h args V) : P Γ gl (.call f es) σ h k (V.bind F) := fun v hv => by
  obtain ⟨x, e1, e2⟩ := Option.bind_eq_some_iff.mp hv
  obtain ⟨ws, d, q⟩ := p x e1
  exact e_call d (s h x v ws q e2)
theorem Shs.dats : ∀ ds : List PyData, Shs h (ds.map .dat) ds
  | [] => .nil
  | d :: ds => .cons (.inl rfl) (Shs.dats ds)
theorem SpR.toD {f : Nat} {args : α → List PyData} {k : τ → PyData} {F : α → Option τ} (s : SpR Γ f args k F) : SpD Γ f args k F := fun h x v e => s h x v _ (Shs.dats _) e
/-! ### statements -/
def W (Γ : Env) (gl : Glo) (ss : List S) (σ : Fr) (h : Hm) (Φ : Fl → Fr → Hm → ρ → Prop) (V : Option ρ) : Prop := ∀ r, V = some r → ∃ fl σ' h', denSs Γ gl ss σ h = some ((fl, σ'), h') ∧ Φ fl σ' h' r
inductive Fw (A τ : Type) where
  | go (a : A) | brk (a : A) | ret (v : τ)
abbrev PhiY (k : τ → PyData) : Fl → Fr → Hm → τ → Prop := fun fl _ h v => ∃ w, fl = .ret w ∧ Sh h w (k v)
def PhiZ (G : A → Fr → Hm → Prop) (k : τ → PyData) : Fl → Fr → Hm → Fw A τ → Prop
  | fl, σ, h, .go a => (fl = .next ∨ fl = .cont) ∧ G a σ h
  | fl, σ, h, .brk a => fl = .brk ∧ G a σ h
  | fl, _, h, .ret v => ∃ w, fl = .ret w ∧ Sh h w (k v)
variable {Φ : Fl → Fr → Hm → ρ → Prop}
theorem W_next {s : S} {ss : List S} {σ' : Fr} {h' : Hm} {V : Option ρ} (e : denS Γ gl s σ h = some ((.next, σ'), h')) (w : W Γ gl ss σ' h' Φ V) : W Γ gl (s :: ss) σ h Φ V := fun r hr => by
  obtain ⟨fl, σ2, h2, e2, p⟩ := w r hr
  exact ⟨fl, σ2, h2, (ss_next e).trans e2, p⟩
theorem W_asg {i : Nat} {e : E} {ss : List S} {f : α → PyData} {V : Option α} {K : α → Option ρ} (p : P Γ gl e σ h f V) (k : ∀ x, W Γ gl ss (σ.set i (some (.dat (f x)))) h Φ (K x)) : W Γ gl (.asg (.name i) e :: ss) σ h Φ (V.bind K) := fun r hr => by
  obtain ⟨x, e1, e2⟩ := Option.bind_eq_some_iff.mp hr
  exact W_next (s_asg (p x e1)) (k x) r e2
theorem W_tgt {t : Tg} {e : E} {ss : List S} {f : α → PyData} {V : Option α} {K : α → Option ρ} {S : α → Fr} (p : P Γ gl e σ h f V) (hs : ∀ x, tgSet t (.dat (f x)) σ = some (S x)) (k : ∀ x, W Γ gl ss (S x) h Φ (K x)) : W Γ gl (.asg t e :: ss) σ h Φ (V.bind K) := fun r hr => by
  obtain ⟨x, e1, e2⟩ := Option.bind_eq_some_iff.mp hr
  refine W_next (σ' := S x) (h' := h) ?_ (k x) r e2
  rw [denS, p x e1]
  show (tgSet t (.dat (f x)) σ).map _ = _
  rw [hs]; rfl
theorem W_if {c : E} {a b ss : List S} {C : Option Bool} {V V' : Option ρ} (p : P Γ gl c σ h eB C) (k1 : W Γ gl (a ++ ss) σ h Φ V) (k2 : W Γ gl (b ++ ss) σ h Φ V') : W Γ gl (.ifs c a b :: ss) σ h Φ (C.bind fun x => if x then V else V') := fun r hr => by
  have app : ∀ (a : List S) (σ : Fr) (h : Hm), ((denSs Γ gl a σ h).bind fun r => match r.1.1 with | .next => denSs Γ gl ss r.1.2 r.2 | _ => some r) = denSs Γ gl (a ++ ss) σ h := by
    intro a
    induction a with
    | nil => intro σ h; rw [denSs]; rfl
    | cons s a ih =>
      intro σ h
      rw [List.cons_append, denSs, denSs]
      cases hs : denS Γ gl s σ h with
      | none => rfl
      | some r =>
        obtain ⟨⟨fl, σ1⟩, h1⟩ := r
        cases fl with
        | next => exact ih σ1 h1
        | brk | cont | ret _ => rfl
  obtain ⟨x, e1, e2⟩ := Option.bind_eq_some_iff.mp hr
  have e3 : denSs Γ gl (.ifs c a b :: ss) σ h = if x then denSs Γ gl (a ++ ss) σ h else denSs Γ gl (b ++ ss) σ h := by
    rw [denSs, s_if (p x e1)]
    cases x with
    | true => exact app a σ h
    | false => exact app b σ h
  rw [e3]
  cases x with
  | true => exact k1 r e2
  | false => exact k2 r e2
theorem Y_ret {e : E} {ss : List S} {k : τ → PyData} {V : Option τ} (p : PA Γ gl e σ h k V) : W Γ gl (.ret e :: ss) σ h (PhiY k) V := fun r hr => by
  obtain ⟨w, d, s⟩ := p r hr
  exact ⟨_, _, _, ss_ret (s_ret d), w, rfl, s⟩
theorem Z_ret {e : E} {ss : List S} {k : τ → PyData} {G : A → Fr → Hm → Prop} {V : Option τ} (p : PA Γ gl e σ h k V) : W Γ gl (.ret e :: ss) σ h (PhiZ G k) (V.map .ret) := fun r hr => by
  obtain ⟨x, e, rfl⟩ := Option.map_eq_some_iff.mp hr
  obtain ⟨w, d, s⟩ := p x e
  exact ⟨_, _, _, ss_ret (s_ret d), w, rfl, s⟩
theorem Z_nil {k : τ → PyData} {G : A → Fr → Hm → Prop} {a : A} (g : G a σ h) : W Γ gl [] σ h (PhiZ G k) (some (.go a)) := fun r hr => by
  cases hr
  exact ⟨.next, σ, h, by rw [denSs], .inl rfl, g⟩
theorem Z_cont {k : τ → PyData} {ss : List S} {G : A → Fr → Hm → Prop} {a : A} (g : G a σ h) : W Γ gl (.cont :: ss) σ h (PhiZ G k) (some (.go a)) := fun r hr => by
  cases hr
  exact ⟨.cont, σ, h, by rw [denSs, denS]; rfl, .inr rfl, g⟩
theorem Z_brk {k : τ → PyData} {ss : List S} {G : A → Fr → Hm → Prop} {a : A} (g : G a σ h) : W Γ gl (.brk :: ss) σ h (PhiZ G k) (some (.brk a)) := fun r hr => by
  cases hr
  exact ⟨.brk, σ, h, by rw [denSs, denS]; rfl, rfl, g⟩
theorem W_never {ss : List S} : W Γ gl (.never :: ss) σ h Φ none := fun r hr => by cases hr
theorem W_pass {ss : List S} {V : Option ρ} (k : W Γ gl ss σ h Φ V) : W Γ gl (.pass :: ss) σ h Φ V := W_next (by rw [denS]) k
def forS (B : α → A → Option (Fw A τ)) : List α → A → Option (Fw A τ)
  | [], a => some (.go a)
  | x :: xs, a => (B x a).bind fun r => match r with
    | .go a' => forS B xs a'
    | .brk a' => some (.go a')
    | .ret v => some (.ret v)
def whileS (C : A → Option Bool) (B : A → Option (Fw A τ)) : Nat → A → Option (Fw A τ)
  | 0, _ => none
  | k + 1, a => (C a).bind fun c => if c then (B a).bind fun r => match r with
    | .go a' => whileS C B k a'
    | .brk a' => some (.go a')
    | .ret v => some (.ret v) else some (.go a)
def thenS (rr : τ → ρ) (K : A → Option ρ) : Fw A τ → Option ρ
  | .go a => K a
  | .brk a => K a
  | .ret v => some (rr v)
def contF (fl : Fl) (σ : Fr) (h : Hm) (c : Res) : Res := match fl with
  | .next => c
  | .cont => c
  | .brk => some ((.next, σ), h)
  | .ret v => some ((.ret v, σ), h)
/-- behind a turn -/
def EndT (rg : Bool) (n : Nat) (Gb G : A → Fr → Hm → Prop) : Prop := ∀ a σ h, Gb a σ h → ∃ σ2 h2, endTurn rg n σ h = some (σ2, h2) ∧ G a σ2 h2
theorem endF {n : Nat} {G : A → Fr → Hm → Prop} : EndT false n G G := fun a σ h g => ⟨σ, h, rfl, g⟩
theorem for_run {rg : Bool} {n : Nat} {t : Tg} {b : List S} {mk : α → Itm} {G Gb : A → Fr → Hm → Prop} {k : τ → PyData} {B : α → A → Option (Fw A τ)} (hnb : rg = true → ∀ x a a', B x a ≠ some (.brk a')) (hgb : rg = false → ∀ a σ h, Gb a σ h → G a σ h) (he : EndT rg n Gb G)
    (hb : ∀ x a σ h, G a σ h → ∃ σ', tgItm t (mk x) σ = some σ' ∧ W Γ gl b σ' h (PhiZ Gb k) (B x a)) : ∀ (xs : List α) (a : A) (σ : Fr) (h : Hm) (r : Fw A τ), G a σ h → forS B xs a = some r →
    ∃ fl σ' h', forD none rg n (fun x σ h => (tgItm t x σ).bind fun σ' => denSs Γ gl b σ' h) (xs.map mk) σ h = some ((fl, σ'), h') ∧ (match r with | .go a => fl = .next ∧ G a σ' h' | .brk _ => False | .ret v => ∃ w, fl = .ret w ∧ Sh h' w (k v))
  | [], a, σ, h, r, g, e => by
    cases e
    exact ⟨.next, σ, h, rfl, rfl, g⟩
  | x :: xs, a, σ, h, r, g, e => by
    unfold forS at e
    obtain ⟨r1, e1, e2⟩ := Option.bind_eq_some_iff.mp e
    obtain ⟨σ', ht, w⟩ := hb x a σ h g
    obtain ⟨fl, σ1, h1, d, p⟩ := w r1 e1
    have e3 : forD none rg n (fun x σ h => (tgItm t x σ).bind fun σ' => denSs Γ gl b σ' h) ((x :: xs).map mk) σ h = contF fl σ1 h1 ((endTurn rg n σ1 h1).bind fun q => forD none rg n (fun x σ h => (tgItm t x σ).bind fun σ' => denSs Γ gl b σ' h) (xs.map mk) q.1 q.2) := by
      rw [List.map_cons, forD]
      show (((tgItm t (mk x) σ).bind fun σ' => denSs Γ gl b σ' h).bind _) = _
      rw [ht]
      show ((denSs Γ gl b σ' h).bind _) = _
      rw [d]
      cases fl <;> rfl
    cases r1 with
    | go a' =>
      obtain ⟨hf, g1⟩ := p
      obtain ⟨σ2, h2, e4, g2⟩ := he a' σ1 h1 g1
      obtain ⟨fl2, σ3, h3, d3, p3⟩ := for_run hnb hgb he hb xs a' σ2 h2 r g2 e2
      refine ⟨fl2, σ3, h3, ?_, p3⟩
      rw [e3]
      rcases hf with rfl | rfl
      · show ((endTurn rg n σ1 h1).bind _) = _
        rw [e4]; exact d3
      · show ((endTurn rg n σ1 h1).bind _) = _
        rw [e4]; exact d3
    | brk a' =>
      obtain ⟨rfl, g1⟩ := p
      cases e2
      cases hrg : rg with
      | true => exact absurd e1 (hnb hrg x a a')
      | false =>
        refine ⟨.next, σ1, h1, ?_, rfl, hgb hrg _ _ _ g1⟩
        rw [← hrg, e3]; rfl
    | ret v =>
      obtain ⟨w, rfl, s⟩ := p
      cases e2
      exact ⟨.ret w, σ1, h1, e3, w, rfl, s⟩
theorem W_for {rg : Bool} {t : Tg} {it : I} {b ss : List S} {mk : α → Itm} {G Gb : A → Fr → Hm → Prop} {k : τ → PyData} {B : α → A → Option (Fw A τ)} {XS : Option (List α)} {a0 : A} {rr : τ → ρ} {K : A → Option ρ}
    (hr : ∀ v w σ h, Sh h w (k v) → Φ (.ret w) σ h (rr v)) (pi : PI0 Γ gl it σ h mk XS) (g0 : G a0 σ h) (hnb : rg = true → ∀ x a a', B x a ≠ some (.brk a')) (hgb : rg = false → ∀ a σ h, Gb a σ h → G a σ h) (he : EndT rg h.length Gb G)
    (hb : ∀ x a σ h, G a σ h → ∃ σ', tgItm t (mk x) σ = some σ' ∧ W Γ gl b σ' h (PhiZ Gb k) (B x a)) (hk : ∀ a σ h, G a σ h → W Γ gl ss σ h Φ (K a)) :
    W Γ gl (.loop rg t it b :: ss) σ h Φ (XS.bind fun xs => (forS B xs a0).bind (thenS rr K)) := fun r hr' => by
  obtain ⟨xs, e1, e2⟩ := Option.bind_eq_some_iff.mp hr'
  obtain ⟨r1, e3, e4⟩ := Option.bind_eq_some_iff.mp e2
  obtain ⟨fl, σ1, h1, d, p⟩ := for_run hnb hgb he hb xs a0 σ h r1 g0 e3
  have ds : denS Γ gl (.loop rg t it b) σ h = some ((fl, σ1), h1) := by
    rw [denS, pi xs e1]
    exact d
  cases r1 with
  | go a =>
    obtain ⟨rfl, g1⟩ := p
    exact W_next ds (hk a σ1 h1 g1) r e4
  | brk a => exact p.elim
  | ret v =>
    obtain ⟨w, rfl, s⟩ := p
    cases e4
    exact ⟨_, _, _, ss_ret ds, hr v w σ1 h1 s⟩
/-- no objects are made within -/
theorem W_for0 {t : Tg} {it : I} {b ss : List S} {mk : α → Itm} {k : τ → PyData} {B : α → A → Option (Fw A τ)} {XS : Option (List α)} {a0 : A} {rr : τ → ρ} {K : A → Option ρ} (G : A → Fr → Hm → Prop)
    (hr : ∀ v w σ h, Sh h w (k v) → Φ (.ret w) σ h (rr v)) (pi : PI0 Γ gl it σ h mk XS) (g0 : G a0 σ h)
    (hb : ∀ x a σ h, G a σ h → ∃ σ', tgItm t (mk x) σ = some σ' ∧ W Γ gl b σ' h (PhiZ G k) (B x a)) (hk : ∀ a σ h, G a σ h → W Γ gl ss σ h Φ (K a)) :
    W Γ gl (.loop false t it b :: ss) σ h Φ (XS.bind fun xs => (forS B xs a0).bind (thenS rr K)) :=
  W_for hr pi g0 (fun e => by cases e) (fun _ _ _ _ g => g) endF hb hk
theorem while_run {rg : Bool} {n : Nat} {c : E} {b : List S} {G Gb : A → Fr → Hm → Prop} {k : τ → PyData} {C : A → Option Bool} {B : A → Option (Fw A τ)} (hnb : rg = true → ∀ a a', B a ≠ some (.brk a')) (hgb : rg = false → ∀ a σ h, Gb a σ h → G a σ h) (he : EndT rg n Gb G)
    (hc : ∀ a σ h, G a σ h → P Γ gl c σ h eB (C a)) (hb : ∀ a σ h, G a σ h → W Γ gl b σ h (PhiZ Gb k) (B a)) : ∀ (m : Nat) (a : A) (σ : Fr) (h : Hm) (r : Fw A τ), G a σ h → whileS C B m a = some r →
    ∃ fl σ' h', whileD rg n (denE Γ gl c) (denSs Γ gl b) m σ h = some ((fl, σ'), h') ∧ (match r with | .go a => fl = .next ∧ G a σ' h' | .brk _ => False | .ret v => ∃ w, fl = .ret w ∧ Sh h' w (k v))
  | 0, a, σ, h, r, g, e => by cases e
  | m + 1, a, σ, h, r, g, e => by
    unfold whileS at e
    obtain ⟨x, e0, e⟩ := Option.bind_eq_some_iff.mp e
    have dc := hc a σ h g x e0
    cases x with
    | false =>
      cases e
      refine ⟨.next, σ, h, ?_, rfl, g⟩
      rw [whileD, dc]; rfl
    | true =>
      obtain ⟨r1, e1, e2⟩ := Option.bind_eq_some_iff.mp e
      obtain ⟨fl, σ1, h1, d, p⟩ := hb a σ h g r1 e1
      have e3 : whileD rg n (denE Γ gl c) (denSs Γ gl b) (m + 1) σ h = contF fl σ1 h1 ((endTurn rg n σ1 h1).bind fun q => whileD rg n (denE Γ gl c) (denSs Γ gl b) m q.1 q.2) := by
        rw [whileD, dc]
        show ((denSs Γ gl b σ h).bind _) = _
        rw [d]
        cases fl <;> rfl
      cases r1 with
      | go a' =>
        obtain ⟨hf, g1⟩ := p
        obtain ⟨σ2, h2, e4, g2⟩ := he a' σ1 h1 g1
        obtain ⟨fl2, σ3, h3, d3, p3⟩ := while_run hnb hgb he hc hb m a' σ2 h2 r g2 e2
        refine ⟨fl2, σ3, h3, ?_, p3⟩
        rw [e3]
        rcases hf with rfl | rfl
        · show ((endTurn rg n σ1 h1).bind _) = _
          rw [e4]; exact d3
        · show ((endTurn rg n σ1 h1).bind _) = _
          rw [e4]; exact d3
      | brk a' =>
        obtain ⟨rfl, g1⟩ := p
        cases e2
        cases hrg : rg with
        | true => exact absurd e1 (hnb hrg a a')
        | false =>
          refine ⟨.next, σ1, h1, ?_, rfl, hgb hrg _ _ _ g1⟩
          rw [← hrg, e3]; rfl
      | ret v =>
        obtain ⟨w, rfl, s⟩ := p
        cases e2
        exact ⟨.ret w, σ1, h1, e3, w, rfl, s⟩
/-- the fuel, not to be unfolded -/
theorem wf_ex : ∃ n : Nat, n = wfuel := ⟨_, rfl⟩
noncomputable def wfO : Nat := Classical.choose wf_ex
theorem wfO_eq : wfO = wfuel := Classical.choose_spec wf_ex
theorem W_while {rg : Bool} {c : E} {b ss : List S} {k : τ → PyData} {C : A → Option Bool} {B : A → Option (Fw A τ)} {a0 : A} {rr : τ → ρ} {K : A → Option ρ} {G Gb : A → Fr → Hm → Prop}
    (hr : ∀ v w σ h, Sh h w (k v) → Φ (.ret w) σ h (rr v)) (g0 : G a0 σ h) (hnb : rg = true → ∀ a a', B a ≠ some (.brk a')) (hgb : rg = false → ∀ a σ h, Gb a σ h → G a σ h) (he : EndT rg h.length Gb G)
    (hc : ∀ a σ h, G a σ h → P Γ gl c σ h eB (C a)) (hb : ∀ a σ h, G a σ h → W Γ gl b σ h (PhiZ Gb k) (B a)) (hk : ∀ a σ h, G a σ h → W Γ gl ss σ h Φ (K a)) :
    W Γ gl (.whl rg c b :: ss) σ h Φ ((whileS C B wfO a0).bind (thenS rr K)) := fun r hr' => by
  obtain ⟨r1, e3, e4⟩ := Option.bind_eq_some_iff.mp hr'
  obtain ⟨fl, σ1, h1, d, p⟩ := while_run hnb hgb he hc hb wfO a0 σ h r1 g0 e3
  have ds : denS Γ gl (.whl rg c b) σ h = some ((fl, σ1), h1) := by
    rw [denS, ← wfO_eq]
    exact d
  cases r1 with
  | go a =>
    obtain ⟨rfl, g1⟩ := p
    exact W_next ds (hk a σ1 h1 g1) r e4
  | brk a => exact p.elim
  | ret v =>
    obtain ⟨w, rfl, s⟩ := p
    cases e4
    exact ⟨_, _, _, ss_ret ds, hr v w σ1 h1 s⟩
theorem W_while0 {c : E} {b ss : List S} {k : τ → PyData} {C : A → Option Bool} {B : A → Option (Fw A τ)} {a0 : A} {rr : τ → ρ} {K : A → Option ρ} (G : A → Fr → Hm → Prop)
    (hr : ∀ v w σ h, Sh h w (k v) → Φ (.ret w) σ h (rr v)) (g0 : G a0 σ h)
    (hc : ∀ a σ h, G a σ h → P Γ gl c σ h eB (C a)) (hb : ∀ a σ h, G a σ h → W Γ gl b σ h (PhiZ G k) (B a)) (hk : ∀ a σ h, G a σ h → W Γ gl ss σ h Φ (K a)) :
    W Γ gl (.whl false c b :: ss) σ h Φ ((whileS C B wfO a0).bind (thenS rr K)) :=
  W_while hr g0 (fun e => by cases e) (fun _ _ _ _ g => g) endF hc hb hk
theorem retY {k : τ → PyData} : ∀ (v : τ) (w : Val) (σ : Fr) (h : Hm), Sh h w (k v) → PhiY k (.ret w) σ h v := fun _ w _ _ s => ⟨w, rfl, s⟩
theorem retZ {k : τ → PyData} {G : A → Fr → Hm → Prop} : ∀ (v : τ) (w : Val) (σ : Fr) (h : Hm), Sh h w (k v) → PhiZ G k (.ret w) σ h (.ret v) := fun _ w _ _ s => ⟨w, rfl, s⟩
/-! ### objects of one's own -/
theorem W_new {i : Nat} {n : N} {ss : List S} {f : α → PyData} {V : Option (List α)} {K : List α → Option ρ} (p : PN Γ gl n σ h f V) (k : ∀ xs, W Γ gl ss (σ.set i (some (.ref h.length))) (h ++ [.lst (xs.map fun x => .dat (f x))]) Φ (K xs)) : W Γ gl (.asg (.name i) (.nw n) :: ss) σ h Φ (V.bind K) := fun r hr => by
  obtain ⟨x, e1, e2⟩ := Option.bind_eq_some_iff.mp hr
  exact W_next (s_asg (e_nw (p x e1))) (k x) r e2
theorem W_append {i a : Nat} {e : E} {ss : List S} {f : α → PyData} {xs : List α} {V : Option α} {K : List α → Option ρ} (e1 : σ[i]? = some (some (.ref a))) (e2 : h[a]? = some (.lst (xs.map fun x => .dat (f x)))) (p : P Γ gl e σ h f V)
    (k : ∀ ys, W Γ gl ss σ (h.set a (.lst (ys.map fun x => .dat (f x)))) Φ (K ys)) : W Γ gl (.expr (.met .append (.var i) [e]) :: ss) σ h Φ (V.bind fun x => (pushS xs x).bind K) := fun r hr => by
  obtain ⟨x, e3, e4⟩ := Option.bind_eq_some_iff.mp hr
  obtain ⟨ys, e5, e6⟩ := Option.bind_eq_some_iff.mp e4
  refine W_next (σ' := σ) (h' := h.set a (.lst (ys.map fun x => .dat (f x)))) (s_expr (v := vn) (e_met (e_var e1) ?_ (es_cons (p x e3) es_nil) ?_)) (k ys) r e6
  · unfold mtOk
    simp only [items, isLst, e2]; rfl
  · show (match h[a]? with | some (.lst vs) => if vs.length < sizeLine then some (vn, h.set a (.lst (vs ++ [Val.dat (f x)]))) else none | _ => none) = _
    rw [e2]
    show (if (xs.map fun x => Val.dat (f x)).length < sizeLine then some (vn, h.set a (.lst ((xs.map fun x => Val.dat (f x)) ++ [.dat (f x)]))) else none) = _
    rw [List.length_map]
    unfold pushS at e5
    split at e5
    · rename_i c
      rw [if_pos c]
      cases e5
      rw [List.map_append]; rfl
    · cases e5
theorem W_sset {i a : Nat} {j e : E} {ss : List S} {f : α → PyData} {xs : List α} {V : Option α} {U : Option Int} {K : List α → Option ρ} (e1 : σ[i]? = some (some (.ref a))) (e2 : h[a]? = some (.lst (xs.map fun x => .dat (f x)))) (p : P Γ gl e σ h f V) (q : P Γ gl j σ h eI U)
    (k : ∀ ys, W Γ gl ss σ (h.set a (.lst (ys.map fun x => .dat (f x)))) Φ (K ys)) : W Γ gl (.sset (.var i) j e :: ss) σ h Φ (V.bind fun x => U.bind fun n => (setS xs n x).bind K) := fun r hr => by
  obtain ⟨x, n, e3, e4, e5⟩ := bnd2 hr
  obtain ⟨ys, e6, e7⟩ := Option.bind_eq_some_iff.mp e5
  refine W_next (σ' := σ) (h' := h.set a (.lst (ys.map fun x => .dat (f x)))) (s_sset (p x e3) (e_var e1) (q n e4) ?_) (k ys) r e7
  show (match h[a]? with | some (.lst vs) => (ixN vs.length n).map fun k => h.set a (.lst (vs.set k (Val.dat (f x)))) | _ => none) = _
  rw [e2]
  show (ixN (xs.map fun x => Val.dat (f x)).length n).map _ = _
  rw [List.length_map]
  unfold setS at e6
  obtain ⟨m, e8, rfl⟩ := Option.map_eq_some_iff.mp e6
  rw [e8]
  show some (h.set a (.lst ((xs.map fun x => Val.dat (f x)).set m (.dat (f x))))) = _
  rw [List.map_set]
theorem W_aug {i : Nat} {o : Op2} {e : E} {ss : List S} {x : Int} {V : Option Int} {K : Int → Option ρ} {F : Int → Int → Int} (H : ∀ x y, augV o (vi x) (vi y) = some (vi (F x y))) (e1 : σ[i]? = some (some (.dat (eI x)))) (p : P Γ gl e σ h eI V) (k : ∀ y, W Γ gl ss (σ.set i (some (.dat (eI y)))) h Φ (K y)) : W Γ gl (.aug i o e :: ss) σ h Φ (V.bind fun y => K (F x y)) := fun r hr => by
  obtain ⟨y, e2, e3⟩ := Option.bind_eq_some_iff.mp hr
  refine W_next (σ' := σ.set i (some (.dat (eI (F x y))))) (h' := h) ?_ (k (F x y)) r e3
  rw [denS, e1]
  show ((denE Γ gl e σ h).bind fun p => (augV o (vi x) p.1).map fun v => ((Fl.next, σ.set i (some v)), p.2)) = _
  rw [p y e2]
  show (augV o (vi x) (vi y)).map _ = _
  rw [H]; rfl
theorem W_saug {i a : Nat} {j e : E} {o : Op2} {ss : List S} {xs : List Int} {V U : Option Int} {K : List Int → Option ρ} {F : Int → Int → Int} (H : ∀ x y, augV o (vi x) (vi y) = some (vi (F x y))) (e1 : σ[i]? = some (some (.ref a))) (e2 : h[a]? = some (.lst (xs.map fun x => .dat (eI x)))) (q : P Γ gl j σ h eI U) (p : P Γ gl e σ h eI V)
    (k : ∀ ys, W Γ gl ss σ (h.set a (.lst (ys.map fun x => .dat (eI x)))) Φ (K ys)) : W Γ gl (.saug (.var i) j o e :: ss) σ h Φ (U.bind fun n => (atI xs n).bind fun x => V.bind fun y => (setS xs n (F x y)).bind K) := fun r hr => by
  obtain ⟨n, e3, e4⟩ := Option.bind_eq_some_iff.mp hr
  obtain ⟨x, e5, e6⟩ := Option.bind_eq_some_iff.mp e4
  obtain ⟨y, e7, e8⟩ := Option.bind_eq_some_iff.mp e6
  obtain ⟨ys, e9, e10⟩ := Option.bind_eq_some_iff.mp e8
  refine W_next (σ' := σ) (h' := h.set a (.lst (ys.map fun x => .dat (eI x)))) ?_ (k ys) r e10
  have it : items h (.ref a) = some (xs.map fun x => .dat (eI x)) := by
    show (match h[a]? with | some (.lst vs) => some vs | _ => none) = _
    rw [e2]
  rw [denS, e_var e1]
  simp only [Option.bind_some]
  rw [q n e3]
  simp only [Option.bind_some]
  have sv : subV h (.ref a) (vi n) = some (vi x) := by
    show (items h (.ref a)).bind (fun xs => atI xs n) = _
    rw [it]
    show atI (xs.map _) n = _
    rw [atI_map, e5]; rfl
  rw [sv]
  simp only [Option.bind_some]
  rw [p y e7]
  simp only [Option.bind_some]
  rw [H]
  show ((match h[a]? with | some (.lst vs) => (ixN vs.length n).map fun k => h.set a (.lst (vs.set k (vi (F x y)))) | _ => none) : Option Hm).map _ = _
  rw [e2]
  show ((ixN (xs.map fun x => Val.dat (eI x)).length n).map _).map _ = _
  rw [List.length_map]
  unfold setS at e9
  obtain ⟨m, e11, rfl⟩ := Option.map_eq_some_iff.mp e9
  rw [e11]
  show some ((Fl.next, σ), h.set a (.lst ((xs.map fun x => Val.dat (eI x)).set m (vi (F x y))))) = _
  rw [List.map_set]
theorem augAdd : ∀ x y : Int, augV .add (vi x) (vi y) = some (vi (x + y)) := fun _ _ => rfl
theorem augSub : ∀ x y : Int, augV .sub (vi x) (vi y) = some (vi (x - y)) := fun _ _ => rfl
/-! ### defs -/
theorem fn_R {d : Df} {args : α → List PyData} {k : τ → PyData} {n : Nat} [NoLE k n] (hn : n ≤ 8) {F : α → Option τ} (hm : d.md = .sub 0) (hl : ∀ x, (args x).length = d.np)
    (hy : ∀ x, W Γ gl d.body ((args x).map (fun a => some (.dat a)) ++ List.replicate (d.ns - d.np) none) [] (PhiY k) (F x)) : ∀ h x v ws, Shs h ws (args x) → F x = some v → runDf Γ gl d ws h = some (.dat (k v), h) := by
  intro h x v ws s e
  obtain ⟨fl, σ', h', ed, w, rfl, sw⟩ := hy x v e
  have e0 : mapO (snapBelow 0 h) ws = some ((args x).map Val.dat) ∧ ws.length = (args x).length := by
    clear e ed
    generalize args x = ds at s
    induction s with
    | nil => exact ⟨rfl, rfl⟩
    | @cons w1 d1 _ _ s1 _ ih =>
      refine ⟨?_, by rw [List.length_cons, List.length_cons, ih.2]⟩
      rw [mapO, ih.1]
      have : snapBelow 0 h w1 = some (Val.dat d1) := by
        rcases s1 with rfl | ⟨a, ds, rfl, e1, rfl⟩
        · rfl
        · show (snap 4 (List.replicate 0 Ob.dead ++ h.drop 0) (.ref a)).map Val.dat = _
          have := snap_dats (h := h) (k := 3) e1
          rw [List.replicate_zero, List.nil_append, List.drop_zero, this]; rfl
      rw [this]; rfl
  have ec : ∀ h : Hm, cutH 0 h = some [] := fun h => rfl
  have ew : snapBelow 0 h' w = some (.dat (k v)) := by
    rcases sw with rfl | ⟨a, ds, rfl, e1, e2⟩
    · rfl
    · show (snap 4 (List.replicate 0 Ob.dead ++ h'.drop 0) (.ref a)).map Val.dat = _
      have := snap_dats (h := h') (k := 3) e1
      rw [List.replicate_zero, List.nil_append, List.drop_zero, this, e2]; rfl
  rw [runDf_sub hm (by rw [e0.2]; exact hl x) (Nat.zero_le _) e0.1 (ec h)]
  rw [List.map_map]
  show ((denSs Γ gl d.body ((args x).map (fun a => some (.dat a)) ++ List.replicate (d.ns - d.np) none) []).bind _) = _
  rw [ed]
  have hno : (Val.dat (k v)).noL = true := NoLE.no v 8 hn
  simp only [Option.bind_some, resV, ew, ec, hno, List.all_nil, Bool.true_and, Bool.or_true, ↓reduceIte, List.nil_append, List.drop_zero]
theorem fn_D {d : Df} {args : α → List PyData} {k : τ → PyData} {F : α → Option τ} (hm : d.md = .sub 0) (hl : ∀ x, (args x).length = d.np)
    (hy : ∀ x, W Γ gl d.body ((args x).map (fun a => some (.dat a)) ++ List.replicate (d.ns - d.np) none) [] (PhiY k) (F x)) : ∀ h x v, F x = some v → runDf Γ gl d ((args x).map .dat) h = some (.dat (k v), h) := by
  intro h x v e
  obtain ⟨fl, σ', h', ed, w, rfl, sw⟩ := hy x v e
  have e0 : mapO (snapBelow 0 h) ((args x).map Val.dat) = some ((args x).map Val.dat) := mapO_map Val.dat (snapBelow 0 h) Val.dat (fun _ => rfl) _
  have ec : ∀ h : Hm, cutH 0 h = some [] := fun h => rfl
  have ea : ((args x).map Val.dat).all (Val.below 0) = true := by
    generalize args x = ds
    induction ds with
    | nil => rfl
    | cons d ds ih => rw [List.map_cons, List.all_cons, ih]; rfl
  have ew : snapBelow 0 h' w = some (.dat (k v)) := by
    rcases sw with rfl | ⟨a, ds, rfl, e1, e2⟩
    · rfl
    · show (snap 4 (List.replicate 0 Ob.dead ++ h'.drop 0) (.ref a)).map Val.dat = _
      have := snap_dats (h := h') (k := 3) e1
      rw [List.replicate_zero, List.nil_append, List.drop_zero, this, e2]; rfl
  rw [runDf_sub hm (by rw [List.length_map]; exact hl x) (Nat.zero_le _) e0 (ec h)]
  rw [List.map_map]
  show ((denSs Γ gl d.body ((args x).map (fun a => some (.dat a)) ++ List.replicate (d.ns - d.np) none) []).bind _) = _
  rw [ed]
  simp only [Option.bind_some, resV, ew, ec, ea, Bool.true_or, ↓reduceIte, List.nil_append, List.drop_zero]
end
theorem sp_R {T : List Df} {gl : Glo} {f m : Nat} {d : Df} {args : α → List PyData} {k : τ → PyData} {n : Nat} [NoLE k n] (hn : n ≤ 8) {F : α → Option τ} (e : T[f]? = some d) (hm : d.md = .sub 0) (hl : ∀ x, (args x).length = d.np)
    (hy : ∀ x, W (callN T gl m) gl d.body ((args x).map (fun a => some (.dat a)) ++ List.replicate (d.ns - d.np) none) [] (PhiY k) (F x)) : SpR (callN T gl (m + 1)) f args k F := by
  intro h x v ws s ev
  show ((T[f]?).bind fun d => runDf (callN T gl m) gl d _ _) = _
  rw [e]
  exact fn_R hn hm hl hy h x v ws s ev
theorem sp_D {T : List Df} {gl : Glo} {f m : Nat} {d : Df} {args : α → List PyData} {k : τ → PyData} {F : α → Option τ} (e : T[f]? = some d) (hm : d.md = .sub 0) (hl : ∀ x, (args x).length = d.np)
    (hy : ∀ x, W (callN T gl m) gl d.body ((args x).map (fun a => some (.dat a)) ++ List.replicate (d.ns - d.np) none) [] (PhiY k) (F x)) : SpD (callN T gl (m + 1)) f args k F := by
  intro h x v ev
  show ((T[f]?).bind fun d => runDf (callN T gl m) gl d _ _) = _
  rw [e]
  exact fn_D hm hl hy h x v ev
end Mi
end
/-! ## MiV3 -/
section
set_option maxHeartbeats 2000000
/-! MiV3: terms of Mi read as wishes: what draws from the deck. -/
namespace Mi
open PySem
variable {α β γ δ ε τ A ρ : Type}
/-- a wish: what is to hold of the value and of the bound of the count of draws -/
abbrev WM (α : Type) := Nat → (α → Nat → Prop) → Prop
def retM (x : α) : WM α := fun n Q => Q x n
def bindM (m : WM α) (k : α → WM β) : WM β := fun n Q => m n fun x n' => k x n' Q
def liftM (o : Option α) : WM α := fun n Q => ∃ v, o = some v ∧ Q v n
def drawM (b : Int) : WM Int := fun n Q => n < 1000000000 ∧ 1 ≤ b ∧ b < 1073741824 ∧ ∀ r, 0 ≤ r → r < b → Q r (n + 1)
/-- a deck: what its objects hold, and when it is as it should be -/
structure Deck where
  St : Type
  hm : St → Hm
  ok : Nat → St → Prop
  len : Nat
  at_ : Nat
  hlen : ∀ s, (hm s).length = len
  hat : at_ < len
  hno : ∀ s, (hm s).all Ob.noL = true
  hbl : ∀ s n, len ≤ n → (hm s).all (Ob.below n) = true
theorem Deck.get (D : Deck) (s : D.St) (rest : Hm) (a : Nat) : (D.hm s ++ rest)[a + D.len]? = rest[a]? := by
  rw [List.getElem?_append_right (by rw [D.hlen]; omega), D.hlen, Nat.add_sub_cancel]
theorem Deck.set (D : Deck) (s : D.St) (rest : Hm) (a : Nat) (ob : Ob) : (D.hm s ++ rest).set (a + D.len) ob = D.hm s ++ rest.set a ob := by
  rw [List.set_append_right _ _ (by rw [D.hlen]; omega), D.hlen, Nat.add_sub_cancel]
theorem Deck.all (D : Deck) (s : D.St) (rest : Hm) : (D.hm s ++ rest).length = rest.length + D.len := by rw [List.length_append, D.hlen]; omega
theorem Deck.cut (D : Deck) (s : D.St) (rest : Hm) : cutH D.len (D.hm s ++ rest) = some (D.hm s) := by
  unfold cutH
  rw [List.take_left' (D.hlen s), if_pos (D.hbl s _ (Nat.le_refl _))]
section
variable {D : Deck} {Γ : Env} {gl : Glo} {σ : Fr} {rest : Hm}
def X (D : Deck) (Γ : Env) (gl : Glo) (e : E) (σ : Fr) (rest : Hm) (f : α → PyData) (V : WM α) : Prop := ∀ n Q, V n Q → ∀ dq, D.ok n dq →
  ∃ v n' dq', denE Γ gl e σ (D.hm dq ++ rest) = some (.dat (f v), D.hm dq' ++ rest) ∧ D.ok n' dq' ∧ Q v n'
theorem X_of {e : E} {f : α → PyData} {V : Option α} (p : ∀ dq, P Γ gl e σ (D.hm dq ++ rest) f V) : X D Γ gl e σ rest f (liftM V) := fun n Q w dq d => by
  obtain ⟨v, e, q⟩ := w
  exact ⟨v, n, dq, p dq v e, d, q⟩
theorem X_op {o : Op2} {a b : E} {f : α → PyData} {g : β → PyData} {k : γ → PyData} {V : WM α} {W : WM β} {F : α → β → Option γ} (H : ∀ x y v, F x y = some v → op2 o (.dat (f x)) (.dat (g y)) = some (.dat (k v))) (p : X D Γ gl a σ rest f V) (q : X D Γ gl b σ rest g W) :
    X D Γ gl (.op o a b) σ rest k (bindM V fun x => bindM W fun y => liftM (F x y)) := fun n Q w dq d => by
  obtain ⟨x, n1, dq1, e1, d1, w1⟩ := p n _ w dq d
  obtain ⟨y, n2, dq2, e2, d2, v, e3, w2⟩ := q n1 _ w1 dq1 d1
  exact ⟨v, n2, dq2, e_op e1 e2 (H x y v e3), d2, w2⟩
theorem X_add {a b : E} {V W : WM Int} (p : X D Γ gl a σ rest eI V) (q : X D Γ gl b σ rest eI W) : X D Γ gl (.op .add a b) σ rest eI (bindM V fun x => bindM W fun y => liftM (some (x + y))) := X_op oAdd p q
theorem X_minus {a b : E} {V W : WM Int} (p : X D Γ gl a σ rest eI V) (q : X D Γ gl b σ rest eI W) : X D Γ gl (.op .sub a b) σ rest eI (bindM V fun x => bindM W fun y => liftM (some (x - y))) := X_op oSub p q
theorem X_cat {a b : E} {f : α → PyData} {V W : WM (List α)} (p : X D Γ gl a σ rest (eT f) V) (q : X D Γ gl b σ rest (eT f) W) : X D Γ gl (.op .add a b) σ rest (eT f) (bindM V fun x => bindM W fun y => liftM (catS x y)) := X_op (fun x y v e => by
  unfold catS at e
  split at e
  · rename_i c
    cases e
    show (if (x.map f).length + (y.map f).length ≤ sizeLine then some (vt (x.map f ++ y.map f)) else none) = some (vt ((x ++ y).map f))
    rw [List.length_map, List.length_map, if_pos c, List.map_append]
  · cases e) p q
theorem X_mod {a b : E} {V W : WM Int} (p : X D Γ gl a σ rest eI V) (q : X D Γ gl b σ rest eI W) : X D Γ gl (.op .mod a b) σ rest eI (bindM V fun x => bindM W fun y => liftM (modS x y)) := X_op (fun x y v e => by
  unfold modS at e
  split at e
  · rename_i c; cases e; exact op_mod c
  · cases e) p q
theorem X_mul {a b : E} {V W : WM Int} (p : X D Γ gl a σ rest eI V) (q : X D Γ gl b σ rest eI W) : X D Γ gl (.op .mul a b) σ rest eI (bindM V fun x => bindM W fun y => liftM (mulS x y)) := X_op (fun x y v e => by
  unfold mulS at e
  split at e
  · rename_i c; cases e; exact op_mul c
  · cases e) p q
/-- a subscript: what is drawn is the place -/
theorem X_sub {a b : E} {f : α → PyData} {g : β → PyData} {L : α → List β} {l : Bool} {V : WM α} {W : WM Int} (S : SqE f g L l) (p : X D Γ gl a σ rest f V) (q : X D Γ gl b σ rest eI W) : X D Γ gl (.sub a b) σ rest g (bindM V fun x => bindM W fun i => liftM (atI (L x) i)) := fun n Q w dq d => by
  obtain ⟨x, n1, dq1, e1, d1, w1⟩ := p n _ w dq d
  obtain ⟨y, n2, dq2, e2, d2, v, e3, w2⟩ := q n1 _ w1 dq1 d1
  refine ⟨v, n2, dq2, e_sub e1 e2 ?_, d2, w2⟩
  have s : Sh (D.hm dq2 ++ rest) (.dat (f x)) (f x) := .inl rfl
  show (items (D.hm dq2 ++ rest) (.dat (f x))).bind (fun xs => atI xs y) = _
  rw [s.items S]
  show atI ((L x).map _) y = _
  rw [atI_map, e3]; rfl
theorem X_subO {i a : Nat} {b : E} {g : β → PyData} {xs : List β} {W : WM Int} (h1 : σ[i]? = some (some (.ref (a + D.len)))) (h2 : rest[a]? = some (.lst (xs.map fun x => .dat (g x)))) (q : X D Γ gl b σ rest eI W) : X D Γ gl (.sub (.var i) b) σ rest g (bindM W fun i => liftM (atI xs i)) := fun n Q w dq d => by
  obtain ⟨y, n2, dq2, e2, d2, v, e3, w2⟩ := q n _ w dq d
  refine ⟨v, n2, dq2, e_sub (e_var h1) e2 ?_, d2, w2⟩
  have e4 : (D.hm dq2 ++ rest)[a + D.len]? = some (.lst (xs.map fun x => .dat (g x))) := by rw [D.get]; exact h2
  show ((match (D.hm dq2 ++ rest)[a + D.len]? with | some (.lst vs) => some vs | _ => none).bind fun xs => atI xs y) = _
  rw [e4]
  show atI (xs.map _) y = _
  rw [atI_map, e3]; rfl
theorem X_ite {c a b : E} {f : α → PyData} {C : WM Bool} {V W : WM α} (r : X D Γ gl c σ rest eB C) (p : X D Γ gl a σ rest f V) (q : X D Γ gl b σ rest f W) : X D Γ gl (.ite c a b) σ rest f (bindM C fun x => if x then V else W) := fun n Q w dq d => by
  obtain ⟨x, n1, dq1, e1, d1, w1⟩ := r n _ w dq d
  cases x with
  | true =>
    obtain ⟨v, n2, dq2, e2, d2, w2⟩ := p n1 _ w1 dq1 d1
    exact ⟨v, n2, dq2, e_ite e1 e2, d2, w2⟩
  | false =>
    obtain ⟨v, n2, dq2, e2, d2, w2⟩ := q n1 _ w1 dq1 d1
    exact ⟨v, n2, dq2, e_ite e1 e2, d2, w2⟩
theorem X_and {a b : E} {V W : WM Bool} (p : X D Γ gl a σ rest eB V) (q : X D Γ gl b σ rest eB W) : X D Γ gl (.and a b) σ rest eB (bindM V fun x => if x then W else retM false) := fun n Q w dq d => by
  obtain ⟨x, n1, dq1, e1, d1, w1⟩ := p n _ w dq d
  cases x with
  | true =>
    obtain ⟨v, n2, dq2, e2, d2, w2⟩ := q n1 _ w1 dq1 d1
    exact ⟨v, n2, dq2, by rw [denE, e1]; exact e2, d2, w2⟩
  | false => exact ⟨false, n1, dq1, by rw [denE, e1]; rfl, d1, w1⟩
theorem X_or {a b : E} {V W : WM Bool} (p : X D Γ gl a σ rest eB V) (q : X D Γ gl b σ rest eB W) : X D Γ gl (.or a b) σ rest eB (bindM V fun x => if x then retM true else W) := fun n Q w dq d => by
  obtain ⟨x, n1, dq1, e1, d1, w1⟩ := p n _ w dq d
  cases x with
  | false =>
    obtain ⟨v, n2, dq2, e2, d2, w2⟩ := q n1 _ w1 dq1 d1
    exact ⟨v, n2, dq2, by rw [denE, e1]; exact e2, d2, w2⟩
  | true => exact ⟨true, n1, dq1, by rw [denE, e1]; rfl, d1, w1⟩
theorem X_not {a : E} {V : WM Bool} (p : X D Γ gl a σ rest eB V) : X D Γ gl (.not a) σ rest eB (bindM V fun x => retM (!x)) := fun n Q w dq d => by
  obtain ⟨x, n1, dq1, e1, d1, w1⟩ := p n _ w dq d
  exact ⟨!x, n1, dq1, e_not e1, d1, w1⟩
theorem X_cmpI {o : Cp} {a b : E} {V W : WM Int} {F : Int → Int → Bool} (H : ∀ h x y, cmpV o h (vi x) (vi y) = some (F x y)) (p : X D Γ gl a σ rest eI V) (q : X D Γ gl b σ rest eI W) : X D Γ gl (.cmp o a b) σ rest eB (bindM V fun x => bindM W fun y => retM (F x y)) := fun n Q w dq d => by
  obtain ⟨x, n1, dq1, e1, d1, w1⟩ := p n _ w dq d
  obtain ⟨y, n2, dq2, e2, d2, w2⟩ := q n1 _ w1 dq1 d1
  exact ⟨F x y, n2, dq2, e_cmp e1 e2 (H _ x y), d2, w2⟩
theorem X_some {e : E} {f : α → PyData} {V : WM α} (p : X D Γ gl e σ rest f V) : X D Γ gl e σ rest (eO f) (bindM V fun x => retM (some x)) := fun n Q w dq d => by
  obtain ⟨x, n1, dq1, e1, d1, w1⟩ := p n _ w dq d
  exact ⟨some x, n1, dq1, e1, d1, w1⟩
theorem X_any {e : E} {f : α → PyData} {V : WM α} (p : X D Γ gl e σ rest f V) : X D Γ gl e σ rest eA (bindM V fun x => retM (f x)) := fun n Q w dq d => by
  obtain ⟨x, n1, dq1, e1, d1, w1⟩ := p n _ w dq d
  exact ⟨f x, n1, dq1, e1, d1, w1⟩
theorem X_as {e : E} {f : α → PyData} {g : β → PyData} {V : WM α} (c : α → β) (k : ∀ x, f x = g (c x)) (p : X D Γ gl e σ rest f V) : X D Γ gl e σ rest g (bindM V fun x => retM (c x)) := fun n Q w dq d => by
  obtain ⟨x, n1, dq1, e1, d1, w1⟩ := p n _ w dq d
  exact ⟨c x, n1, dq1, by rw [e1, k], d1, w1⟩
/-! ### several -/
def XEs (D : Deck) (Γ : Env) (gl : Glo) (es : List E) (σ : Fr) (rest : Hm) (args : α → List PyData) (V : WM α) : Prop := ∀ n Q, V n Q → ∀ dq, D.ok n dq →
  ∃ v n' dq', denEs Γ gl es σ (D.hm dq ++ rest) = some ((args v).map .dat, D.hm dq' ++ rest) ∧ D.ok n' dq' ∧ Q v n'
theorem XEs_one {e : E} {f : α → PyData} {V : WM α} (p : X D Γ gl e σ rest f V) : XEs D Γ gl [e] σ rest (fun x => [f x]) V := fun n Q w dq d => by
  obtain ⟨x, n1, dq1, e1, d1, w1⟩ := p n _ w dq d
  exact ⟨x, n1, dq1, es_cons e1 es_nil, d1, w1⟩
theorem XEs_cons {e : E} {es : List E} {f : α → PyData} {args : β → List PyData} {V : WM α} {W : WM β} (p : X D Γ gl e σ rest f V) (q : XEs D Γ gl es σ rest args W) : XEs D Γ gl (e :: es) σ rest (fun (x : α × β) => f x.1 :: args x.2) (bindM V fun x => bindM W fun y => retM (x, y)) := fun n Q w dq d => by
  obtain ⟨x, n1, dq1, e1, d1, w1⟩ := p n _ w dq d
  obtain ⟨y, n2, dq2, e2, d2, w2⟩ := q n1 _ w1 dq1 d1
  exact ⟨(x, y), n2, dq2, es_cons e1 e2, d2, w2⟩
theorem XEs_of {es : List E} {args : α → List PyData} {V : Option α} (p : ∀ dq, PEs Γ gl es σ (D.hm dq ++ rest) args V) : XEs D Γ gl es σ rest args (liftM V) := fun n Q w dq d => by
  obtain ⟨v, e, q⟩ := w
  exact ⟨v, n, dq, p dq v e, d, q⟩
/-- a pure def, called with what is drawn -/
theorem X_callP {f : Nat} {es : List E} {args : α → List PyData} {k : τ → PyData} {F : α → Option τ} {V : WM α} (s : SpD Γ f args k F) (p : XEs D Γ gl es σ rest args V) : X D Γ gl (.call f es) σ rest k (bindM V fun x => liftM (F x)) := fun n Q w dq d => by
  obtain ⟨x, n1, dq1, e1, d1, v, e2, w1⟩ := p n _ w dq d
  exact ⟨v, n1, dq1, e_call e1 (s _ x v e2), d1, w1⟩
/-- a def that draws -/
def SpX (D : Deck) (Γ : Env) (f : Nat) (args : α → List PyData) (k : τ → PyData) (F : α → WM τ) : Prop := ∀ x n Q, F x n Q → ∀ dq rest, D.ok n dq →
  ∃ v n' dq', Γ f (.ref D.at_ :: (args x).map .dat) (D.hm dq ++ rest) = some (.dat (k v), D.hm dq' ++ rest) ∧ D.ok n' dq' ∧ Q v n'
theorem X_call {f i : Nat} {es : List E} {args : α → List PyData} {k : τ → PyData} {F : α → WM τ} {V : WM α} (s : SpX D Γ f args k F) (hi : σ[i]? = some (some (.ref D.at_))) (p : XEs D Γ gl es σ rest args V) : X D Γ gl (.call f (.var i :: es)) σ rest k (bindM V F) := fun n Q w dq d => by
  obtain ⟨x, n1, dq1, e1, d1, w1⟩ := p n _ w dq d
  obtain ⟨v, n2, dq2, e2, d2, w2⟩ := s x n1 _ w1 dq1 rest d1
  exact ⟨v, n2, dq2, e_call (es_cons (e_var hi) e1) e2, d2, w2⟩
theorem XEs_nil : XEs D Γ gl [] σ rest (fun (_ : Unit) => []) (retM ()) := fun n Q w dq d => ⟨(), n, dq, es_nil, d, w⟩
theorem X_tup {es : List E} {args : α → List PyData} {f : β → PyData} {c : α → β} {V : WM α} (hf : ∀ x, PyData.tuple (args x) = f (c x)) (hl : es.length ≤ 1000) (p : XEs D Γ gl es σ rest args V) : X D Γ gl (.tup es) σ rest f (bindM V fun x => retM (c x)) := fun n Q w dq d => by
  obtain ⟨x, n1, dq1, e1, d1, w1⟩ := p n _ w dq d
  refine ⟨c x, n1, dq1, ?_, d1, w1⟩
  rw [← hf]
  refine e_tup e1 (dats_dats _) ?_
  have : ∀ (es : List E) (h h' : Hm) (vs : List Val), denEs Γ gl es σ h = some (vs, h') → vs.length = es.length := by
    intro es
    induction es with
    | nil => intro h h' vs e; rw [denEs] at e; cases e; rfl
    | cons a es ih =>
      intro h h' vs e
      rw [denEs] at e
      obtain ⟨p, e1, e2⟩ := Option.bind_eq_some_iff.mp e
      obtain ⟨q, e3, e4⟩ := Option.map_eq_some_iff.mp e2
      cases e4
      rw [List.length_cons, List.length_cons, ih _ _ _ e3]
  have := this _ _ _ _ e1
  rw [List.length_map] at this
  rw [this]
  exact Nat.le_trans hl (by decide)
theorem X_lst {es : List E} {args : α → List PyData} {g : β → PyData} {c : α → List β} {V : WM α} (hf : ∀ x, args x = (c x).map g) (hl : es.length ≤ 1000) (p : XEs D Γ gl es σ rest args V) : X D Γ gl (.fz (.lst es)) σ rest (eL g) (bindM V fun x => retM (c x)) := fun n Q w dq d => by
  obtain ⟨x, n1, dq1, e1, d1, w1⟩ := p n _ w dq d
  refine ⟨c x, n1, dq1, ?_, d1, w1⟩
  show denE Γ gl (.fz (.lst es)) σ _ = some (.dat (.list ((c x).map g)), _)
  rw [← hf]
  refine e_fz (n_lst e1 ?_) (dats_dats _)
  have : ∀ (es : List E) (h h' : Hm) (vs : List Val), denEs Γ gl es σ h = some (vs, h') → vs.length = es.length := by
    intro es
    induction es with
    | nil => intro h h' vs e; rw [denEs] at e; cases e; rfl
    | cons a es ih =>
      intro h h' vs e
      rw [denEs] at e
      obtain ⟨p, e1, e2⟩ := Option.bind_eq_some_iff.mp e
      obtain ⟨q, e3, e4⟩ := Option.map_eq_some_iff.mp e2
      cases e4
      rw [List.length_cons, List.length_cons, ih _ _ _ e3]
  rw [this _ _ _ _ e1]
  exact Nat.le_trans hl (by decide)
theorem X_bi {b : Bi} {es : List E} {args : α → List PyData} {k : β → PyData} {F : α → Option β} {V : WM α} (H : ∀ h x v, F x = some v → biV b h ((args x).map .dat) = some (.dat (k v))) (p : XEs D Γ gl es σ rest args V) : X D Γ gl (.bi b es) σ rest k (bindM V fun x => liftM (F x)) := fun n Q w dq d => by
  obtain ⟨x, n1, dq1, e1, d1, v, e2, w1⟩ := p n _ w dq d
  exact ⟨v, n1, dq1, e_bi e1 (H _ x v e2), d1, w1⟩
theorem X_tuple {e : E} {f : α → PyData} {g : β → PyData} {L : α → List β} {l : Bool} {V : WM α} (S : SqE f g L l) (p : X D Γ gl e σ rest f V) : X D Γ gl (.bi .tuple [e]) σ rest (eT g) (bindM V fun x => retM (L x)) := fun n Q w dq d => by
  obtain ⟨x, n1, dq1, e1, d1, w1⟩ := p n _ w dq d
  refine ⟨L x, n1, dq1, e_bi (es_cons e1 es_nil) ?_, d1, w1⟩
  have s : Sh (D.hm dq1 ++ rest) (.dat (f x)) (f x) := .inl rfl
  show (items (D.hm dq1 ++ rest) (.dat (f x))).bind (fun xs => (dats xs).map vt) = _
  rw [s.items S]
  show (dats ((L x).map fun y => .dat (g y))).map vt = _
  rw [dats_enc]; rfl
/-! ### comprehensions that draw -/
def compM (C : α → WM Bool) (F : α → WM β) : List α → WM (List β)
  | [] => retM []
  | x :: xs => bindM (C x) fun b => if b then bindM (F x) fun y => bindM (compM C F xs) fun ys => retM (y :: ys) else compM C F xs
def XC (D : Deck) (Γ : Env) (gl : Glo) (e : Option E) (σ : Fr) (rest : Hm) (V : WM Bool) : Prop := ∀ n Q, V n Q → ∀ dq, D.ok n dq →
  ∃ v n' dq', denC Γ gl e σ (D.hm dq ++ rest) = some (v, D.hm dq' ++ rest) ∧ D.ok n' dq' ∧ Q v n'
theorem XC_none : XC D Γ gl none σ rest (retM true) := fun n Q w dq d => ⟨true, n, dq, by rw [denC], d, w⟩
theorem XC_some {e : E} {V : WM Bool} (p : X D Γ gl e σ rest eB V) : XC D Γ gl (some e) σ rest V := fun n Q w dq d => by
  obtain ⟨x, n1, dq1, e1, d1, w1⟩ := p n _ w dq d
  exact ⟨x, n1, dq1, by rw [denC, e1]; rfl, d1, w1⟩
def XI (D : Deck) (Γ : Env) (gl : Glo) (it : I) (σ : Fr) (rest : Hm) (mk : α → Itm) (V : WM (List α)) : Prop := ∀ n Q, V n Q → ∀ dq, D.ok n dq →
  ∃ v n' dq', denI Γ gl it σ (D.hm dq ++ rest) = some ((v.map mk, none), D.hm dq' ++ rest) ∧ D.ok n' dq' ∧ Q v n'
theorem XI_of {it : I} {mk : α → Itm} {V : Option (List α)} (p : ∀ dq, PI0 Γ gl it σ (D.hm dq ++ rest) mk V) : XI D Γ gl it σ rest mk (liftM V) := fun n Q w dq d => by
  obtain ⟨v, e, q⟩ := w
  exact ⟨v, n, dq, p dq v e, d, q⟩
theorem XI_range1 {a : E} {V : WM Int} (p : X D Γ gl a σ rest eI V) : XI D Γ gl (.range1 a) σ rest (mk1 eI) (bindM V fun x => liftM (rng1 x)) := fun n Q w dq d => by
  obtain ⟨x, n1, dq1, e1, d1, v, e2, w1⟩ := p n _ w dq d
  refine ⟨v, n1, dq1, ?_, d1, w1⟩
  rw [denI, e1]
  simp only [Option.bind_some]
  unfold rng1 at e2
  split at e2
  · rename_i c
    rw [if_pos c]
    cases e2
    rw [List.map_map]; rfl
  · cases e2
theorem XI_range2 {a b : E} {V W : WM Int} (p : X D Γ gl a σ rest eI V) (q : X D Γ gl b σ rest eI W) : XI D Γ gl (.range2 a b) σ rest (mk1 eI) (bindM V fun x => bindM W fun y => liftM (rng2 x y)) := fun n Q w dq d => by
  obtain ⟨x, n1, dq1, e1, d1, w1⟩ := p n _ w dq d
  obtain ⟨y, n2, dq2, e2, d2, v, e3, w2⟩ := q n1 _ w1 dq1 d1
  refine ⟨v, n2, dq2, ?_, d2, w2⟩
  rw [denI, e1]
  simp only [Option.bind_some]
  rw [e2]
  simp only [Option.bind_some]
  unfold rng2 at e3
  split at e3
  · rename_i c
    rw [if_pos c]
    cases e3
    rw [List.map_map]; rfl
  · cases e3
theorem XI_e {a : E} {f : α → PyData} {g : β → PyData} {L : α → List β} {l : Bool} {V : WM α} (S : SqE f g L l) (p : X D Γ gl a σ rest f V) : XI D Γ gl (.e a) σ rest (mk1 g) (bindM V fun x => retM (L x)) := fun n Q w dq d => by
  obtain ⟨x, n1, dq1, e1, d1, w1⟩ := p n _ w dq d
  refine ⟨L x, n1, dq1, ?_, d1, w1⟩
  rw [denI, e1, S x]
  cases l
  · show some ((((L x).map g).map fun d => Itm.one (.dat d), none), _) = _
    rw [List.map_map]; rfl
  · show some ((((L x).map g).map fun d => Itm.one (.dat d), none), _) = _
    rw [List.map_map]; rfl
def XN (D : Deck) (Γ : Env) (gl : Glo) (m : N) (σ : Fr) (rest : Hm) (f : α → PyData) (V : WM (List α)) : Prop := ∀ n Q, V n Q → ∀ dq, D.ok n dq →
  ∃ v n' dq', denN Γ gl m σ (D.hm dq ++ rest) = some (.lst (v.map fun x => .dat (f x)), D.hm dq' ++ rest) ∧ D.ok n' dq' ∧ Q v n'
theorem XN_of {m : N} {f : α → PyData} {V : Option (List α)} (p : ∀ dq, PN Γ gl m σ (D.hm dq ++ rest) f V) : XN D Γ gl m σ rest f (liftM V) := fun n Q w dq d => by
  obtain ⟨v, e, q⟩ := w
  exact ⟨v, n, dq, p dq v e, d, q⟩
theorem X_fz {m : N} {f : α → PyData} {V : WM (List α)} (p : XN D Γ gl m σ rest f V) : X D Γ gl (.fz m) σ rest (eL f) V := fun n Q w dq d => by
  obtain ⟨x, n1, dq1, e1, d1, w1⟩ := p n _ w dq d
  exact ⟨x, n1, dq1, e_fz e1 (dats_enc f x), d1, w1⟩
theorem XN_list {a : E} {f : α → PyData} {g : β → PyData} {L : α → List β} {l : Bool} {V : WM α} (S : SqE f g L l) (p : X D Γ gl a σ rest f V) : XN D Γ gl (.list a) σ rest g (bindM V fun x => retM (L x)) := fun n Q w dq d => by
  obtain ⟨x, n1, dq1, e1, d1, w1⟩ := p n _ w dq d
  refine ⟨L x, n1, dq1, ?_, d1, w1⟩
  have s : Sh (D.hm dq1 ++ rest) (.dat (f x)) (f x) := .inl rfl
  rw [denN, e1]
  show (items (D.hm dq1 ++ rest) (.dat (f x))).map (fun vs => (Ob.lst vs, _)) = _
  rw [s.items S]; rfl
theorem XN_add {a b : E} {f : α → PyData} {V W : WM (List α)} (p : X D Γ gl a σ rest (eL f) V) (q : X D Γ gl b σ rest (eL f) W) : XN D Γ gl (.add a b) σ rest f (bindM V fun x => bindM W fun y => liftM (catS x y)) := fun n Q w dq d => by
  obtain ⟨x, n1, dq1, e1, d1, w1⟩ := p n _ w dq d
  obtain ⟨y, n2, dq2, e2, d2, v, e3, w2⟩ := q n1 _ w1 dq1 d1
  refine ⟨v, n2, dq2, ?_, d2, w2⟩
  have s1 : Sh (D.hm dq2 ++ rest) (.dat (eL f x)) (eL f x) := .inl rfl
  have s2 : Sh (D.hm dq2 ++ rest) (.dat (eL f y)) (eL f y) := .inl rfl
  rw [denN, e1]
  simp only [Option.bind_some]
  rw [e2]
  simp only [Option.bind_some]
  rw [s1.lsOf, s2.lsOf]
  simp only [Option.bind_some, List.length_map]
  unfold catS at e3
  split at e3
  · rename_i c
    rw [if_pos c]
    cases e3
    rw [List.map_append]
  · cases e3
theorem XN_comp {elt : E} {t : Tg} {it : I} {cond : Option E} {own : List Nat} {mk : α → Itm} {g : β → PyData} {XS : WM (List α)} {S : α → Fr} {C : α → WM Bool} {F : α → WM β}
    (pi : XI D Γ gl it σ rest mk XS) (hs : ∀ x, tgItm t (mk x) (wipeF σ own) = some (S x)) (pc : ∀ x, XC D Γ gl cond (S x) rest (C x)) (pf : ∀ x, X D Γ gl elt (S x) rest g (F x)) :
    XN D Γ gl (.comp elt t it cond own) σ rest g (bindM XS fun xs => compM C F xs) := fun n Q w dq d => by
  obtain ⟨xs, n1, dq1, e1, d1, w1⟩ := pi n _ w dq d
  have run : ∀ (xs : List α) (acc : List Val) (n : Nat) (Q : List β → Nat → Prop) (dq : D.St), D.ok n dq → compM C F xs n Q →
      ∃ v n' dq', compD none (fun x h => (tgItm t x (wipeF σ own)).bind fun σ' => (denC Γ gl cond σ' h).bind fun q => if q.1 then (denE Γ gl elt σ' q.2).map fun r => (some r.1, r.2) else some (none, q.2)) (xs.map mk) acc (D.hm dq ++ rest) = some (acc ++ v.map (fun y => .dat (g y)), D.hm dq' ++ rest) ∧ D.ok n' dq' ∧ Q v n' := by
    intro xs
    induction xs with
    | nil => intro acc n Q dq d w; exact ⟨[], n, dq, by rw [List.map_nil, compD, List.map_nil, List.append_nil]; rfl, d, w⟩
    | cons x xs ih =>
      intro acc n Q dq d w
      obtain ⟨b, n1, dq1, e1, d1, w1⟩ := pc x n _ w dq d
      have e0 : compD none (fun x h => (tgItm t x (wipeF σ own)).bind fun σ' => (denC Γ gl cond σ' h).bind fun q => if q.1 then (denE Γ gl elt σ' q.2).map fun r => (some r.1, r.2) else some (none, q.2)) ((x :: xs).map mk) acc (D.hm dq ++ rest) =
          ((if b then (denE Γ gl elt (S x) (D.hm dq1 ++ rest)).map fun r => (some r.1, r.2) else some (none, D.hm dq1 ++ rest)) : Option (Option Val × Hm)).bind fun r => match r.1 with
            | some v => compD none (fun x h => (tgItm t x (wipeF σ own)).bind fun σ' => (denC Γ gl cond σ' h).bind fun q => if q.1 then (denE Γ gl elt σ' q.2).map fun r => (some r.1, r.2) else some (none, q.2)) (xs.map mk) (acc ++ [v]) r.2
            | none => compD none (fun x h => (tgItm t x (wipeF σ own)).bind fun σ' => (denC Γ gl cond σ' h).bind fun q => if q.1 then (denE Γ gl elt σ' q.2).map fun r => (some r.1, r.2) else some (none, q.2)) (xs.map mk) acc r.2 := by
        rw [List.map_cons, compD]
        show (((tgItm t (mk x) (wipeF σ own)).bind _).bind _) = _
        rw [hs x]
        show (((denC Γ gl cond (S x) _).bind _).bind _) = _
        rw [e1]; rfl
      cases b with
      | false =>
        obtain ⟨v, n2, dq2, e2, d2, w2⟩ := ih acc n1 Q dq1 d1 w1
        exact ⟨v, n2, dq2, by rw [e0]; exact e2, d2, w2⟩
      | true =>
        obtain ⟨y, n2, dq2, e2, d2, w2⟩ := pf x n1 _ w1 dq1 d1
        obtain ⟨v, n3, dq3, e3, d3, w3⟩ := ih (acc ++ [.dat (g y)]) n2 _ dq2 d2 w2
        refine ⟨y :: v, n3, dq3, ?_, d3, w3⟩
        rw [e0]
        simp only [↓reduceIte]
        rw [e2]
        show compD none _ (xs.map mk) (acc ++ [.dat (g y)]) (D.hm dq2 ++ rest) = _
        rw [e3, List.append_assoc]; rfl
  obtain ⟨v, n2, dq2, e2, d2, w2⟩ := run xs [] n1 Q dq1 d1 w1
  exact ⟨v, n2, dq2, n_comp e1 (e2.trans (by rw [List.nil_append])), d2, w2⟩
/-! ### statements -/
def XW (D : Deck) (Γ : Env) (gl : Glo) (ss : List S) (σ : Fr) (rest : Hm) (Φ : Fl → Fr → Hm → ρ → Prop) (V : WM ρ) : Prop := ∀ n Q, V n Q → ∀ dq, D.ok n dq →
  ∃ r n' fl σ' dq' rest', denSs Γ gl ss σ (D.hm dq ++ rest) = some ((fl, σ'), D.hm dq' ++ rest') ∧ Φ fl σ' rest' r ∧ D.ok n' dq' ∧ Q r n'
/-- a value is shown, whatever the deck -/
def ShX (D : Deck) (rest : Hm) (w : Val) (d : PyData) : Prop := w = .dat d ∨ ∃ a ds, w = .ref (a + D.len) ∧ rest[a]? = some (.lst (ds.map .dat)) ∧ d = .list ds
theorem ShX.dat {d : PyData} : ShX D rest (.dat d) d := .inl rfl
theorem ShX.own {a : Nat} {f : α → PyData} {xs : List α} (e2 : rest[a]? = some (.lst (xs.map fun x => .dat (f x)))) : ShX D rest (.ref (a + D.len)) (eL f xs) := .inr ⟨a, xs.map f, rfl, by rw [e2, List.map_map]; rfl, rfl⟩
abbrev PsiY (D : Deck) (k : τ → PyData) : Fl → Fr → Hm → τ → Prop := fun fl _ rest v => ∃ w, fl = .ret w ∧ ShX D rest w (k v)
def PsiZ (D : Deck) (G : A → Fr → Hm → Prop) (k : τ → PyData) : Fl → Fr → Hm → Fw A τ → Prop
  | fl, σ, rest, .go a => (fl = .next ∨ fl = .cont) ∧ G a σ rest
  | fl, σ, rest, .brk a => fl = .brk ∧ G a σ rest
  | fl, _, rest, .ret v => ∃ w, fl = .ret w ∧ ShX D rest w (k v)
variable {Φ : Fl → Fr → Hm → ρ → Prop}
theorem XW_asg {i : Nat} {e : E} {ss : List S} {f : α → PyData} {V : WM α} {K : α → WM ρ} (p : X D Γ gl e σ rest f V) (k : ∀ x, XW D Γ gl ss (σ.set i (some (.dat (f x)))) rest Φ (K x)) : XW D Γ gl (.asg (.name i) e :: ss) σ rest Φ (bindM V K) := fun n Q w dq d => by
  obtain ⟨x, n1, dq1, e1, d1, w1⟩ := p n _ w dq d
  obtain ⟨r, n2, fl, σ', dq2, rest', e2, q⟩ := k x n1 _ w1 dq1 d1
  exact ⟨r, n2, fl, σ', dq2, rest', (ss_next (s_asg e1)).trans e2, q⟩
theorem XW_tgt {t : Tg} {e : E} {ss : List S} {f : α → PyData} {V : WM α} {K : α → WM ρ} {S : α → Fr} (p : X D Γ gl e σ rest f V) (hs : ∀ x, tgSet t (.dat (f x)) σ = some (S x)) (k : ∀ x, XW D Γ gl ss (S x) rest Φ (K x)) : XW D Γ gl (.asg t e :: ss) σ rest Φ (bindM V K) := fun n Q w dq d => by
  obtain ⟨x, n1, dq1, e1, d1, w1⟩ := p n _ w dq d
  obtain ⟨r, n2, fl, σ', dq2, rest', e2, q⟩ := k x n1 _ w1 dq1 d1
  refine ⟨r, n2, fl, σ', dq2, rest', (ss_next (σ' := S x) (h' := D.hm dq1 ++ rest) ?_).trans e2, q⟩
  rw [denS, e1]
  show (tgSet t (.dat (f x)) σ).map _ = _
  rw [hs]; rfl
theorem XW_if {c : E} {a b ss : List S} {C : WM Bool} {V V' : WM ρ} (p : X D Γ gl c σ rest eB C) (k1 : XW D Γ gl (a ++ ss) σ rest Φ V) (k2 : XW D Γ gl (b ++ ss) σ rest Φ V') : XW D Γ gl (.ifs c a b :: ss) σ rest Φ (bindM C fun x => if x then V else V') := fun n Q w dq d => by
  have app : ∀ (a : List S) (σ : Fr) (h : Hm), ((denSs Γ gl a σ h).bind fun r => match r.1.1 with | .next => denSs Γ gl ss r.1.2 r.2 | _ => some r) = denSs Γ gl (a ++ ss) σ h := by
    intro a
    induction a with
    | nil => intro σ h; rw [denSs]; rfl
    | cons s a ih =>
      intro σ h
      rw [List.cons_append, denSs, denSs]
      cases hs : denS Γ gl s σ h with
      | none => rfl
      | some r =>
        obtain ⟨⟨fl, σ1⟩, h1⟩ := r
        cases fl with
        | next => exact ih σ1 h1
        | brk | cont | ret _ => rfl
  obtain ⟨x, n1, dq1, e1, d1, w1⟩ := p n _ w dq d
  have e3 : denSs Γ gl (.ifs c a b :: ss) σ (D.hm dq ++ rest) = if x then denSs Γ gl (a ++ ss) σ (D.hm dq1 ++ rest) else denSs Γ gl (b ++ ss) σ (D.hm dq1 ++ rest) := by
    rw [denSs, s_if e1]
    cases x with
    | true => exact app a σ _
    | false => exact app b σ _
  cases x with
  | true =>
    obtain ⟨r, n2, fl, σ', dq2, rest', e2, q⟩ := k1 n1 _ w1 dq1 d1
    exact ⟨r, n2, fl, σ', dq2, rest', e3.trans e2, q⟩
  | false =>
    obtain ⟨r, n2, fl, σ', dq2, rest', e2, q⟩ := k2 n1 _ w1 dq1 d1
    exact ⟨r, n2, fl, σ', dq2, rest', e3.trans e2, q⟩
theorem XY_ret {e : E} {ss : List S} {k : τ → PyData} {V : WM τ} (p : X D Γ gl e σ rest k V) : XW D Γ gl (.ret e :: ss) σ rest (PsiY D k) V := fun n Q w dq d => by
  obtain ⟨x, n1, dq1, e1, d1, w1⟩ := p n _ w dq d
  exact ⟨x, n1, _, _, dq1, rest, ss_ret (s_ret e1), ⟨_, rfl, ShX.dat⟩, d1, w1⟩
theorem XY_retO {i a : Nat} {ss : List S} {f : α → PyData} {xs : List α} (h1 : σ[i]? = some (some (.ref (a + D.len)))) (h2 : rest[a]? = some (.lst (xs.map fun x => .dat (f x)))) : XW D Γ gl (.ret (.var i) :: ss) σ rest (PsiY D (eL f)) (retM xs) := fun n Q w dq d =>
  ⟨xs, n, _, _, dq, rest, ss_ret (s_ret (e_var h1)), ⟨_, rfl, ShX.own h2⟩, d, w⟩
theorem XZ_ret {e : E} {ss : List S} {k : τ → PyData} {G : A → Fr → Hm → Prop} {V : WM τ} (p : X D Γ gl e σ rest k V) : XW D Γ gl (.ret e :: ss) σ rest (PsiZ D G k) (bindM V fun x => retM (.ret x)) := fun n Q w dq d => by
  obtain ⟨x, n1, dq1, e1, d1, w1⟩ := p n _ w dq d
  exact ⟨.ret x, n1, _, _, dq1, rest, ss_ret (s_ret e1), ⟨_, rfl, ShX.dat⟩, d1, w1⟩
theorem XZ_nil {k : τ → PyData} {G : A → Fr → Hm → Prop} {a : A} (g : G a σ rest) : XW D Γ gl [] σ rest (PsiZ D G k) (retM (.go a)) := fun n Q w dq d =>
  ⟨.go a, n, .next, σ, dq, rest, by rw [denSs], ⟨.inl rfl, g⟩, d, w⟩
theorem XZ_cont {k : τ → PyData} {ss : List S} {G : A → Fr → Hm → Prop} {a : A} (g : G a σ rest) : XW D Γ gl (.cont :: ss) σ rest (PsiZ D G k) (retM (.go a)) := fun n Q w dq d =>
  ⟨.go a, n, .cont, σ, dq, rest, by rw [denSs, denS]; rfl, ⟨.inr rfl, g⟩, d, w⟩
theorem XZ_brk {k : τ → PyData} {ss : List S} {G : A → Fr → Hm → Prop} {a : A} (g : G a σ rest) : XW D Γ gl (.brk :: ss) σ rest (PsiZ D G k) (retM (.brk a)) := fun n Q w dq d =>
  ⟨.brk a, n, .brk, σ, dq, rest, by rw [denSs, denS]; rfl, ⟨rfl, g⟩, d, w⟩
theorem XW_pass {ss : List S} {V : WM ρ} (k : XW D Γ gl ss σ rest Φ V) : XW D Γ gl (.pass :: ss) σ rest Φ V := fun n Q w dq d => by
  obtain ⟨r, n2, fl, σ', dq2, rest', e2, q⟩ := k n _ w dq d
  exact ⟨r, n2, fl, σ', dq2, rest', (ss_next (by rw [denS])).trans e2, q⟩
def forM (B : α → A → WM (Fw A τ)) : List α → A → WM (Fw A τ)
  | [], a => retM (.go a)
  | x :: xs, a => bindM (B x a) fun r => match r with
    | .go a' => forM B xs a'
    | .brk a' => retM (.go a')
    | .ret v => retM (.ret v)
def whileM (C : A → WM Bool) (B : A → WM (Fw A τ)) : Nat → A → WM (Fw A τ)
  | 0, _ => fun _ _ => False
  | k + 1, a => bindM (C a) fun c => if c then bindM (B a) fun r => match r with
    | .go a' => whileM C B k a'
    | .brk a' => retM (.go a')
    | .ret v => retM (.ret v) else retM (.go a)
def thenM (rr : τ → ρ) (K : A → WM ρ) : Fw A τ → WM ρ
  | .go a => K a
  | .brk a => K a
  | .ret v => retM (rr v)
def EndX (D : Deck) (rg : Bool) (n : Nat) (Gb G : A → Fr → Hm → Prop) : Prop := ∀ a σ rest, Gb a σ rest → ∃ σ2 rest2, (∀ dq, endTurn rg n σ (D.hm dq ++ rest) = some (σ2, D.hm dq ++ rest2)) ∧ G a σ2 rest2
theorem endX {n : Nat} {G : A → Fr → Hm → Prop} : EndX D false n G G := fun a σ h g => ⟨σ, h, fun _ => rfl, g⟩
theorem forM_run {rg : Bool} {m : Nat} {t : Tg} {b : List S} {mk : α → Itm} {G Gb : A → Fr → Hm → Prop} {k : τ → PyData} {B : α → A → WM (Fw A τ)} (hgb : ∀ a σ h, Gb a σ h → rg = false → G a σ h) (hnb : rg = true → ∀ (a : A) fl σ h, PsiZ D Gb k fl σ h (.brk a) → False) (he : EndX D rg m Gb G)
    (hb : ∀ x a σ rest, G a σ rest → ∃ σ', tgItm t (mk x) σ = some σ' ∧ XW D Γ gl b σ' rest (PsiZ D Gb k) (B x a)) : ∀ (xs : List α) (a : A) (σ : Fr) (rest : Hm) (n : Nat) (Q : Fw A τ → Nat → Prop) (dq : D.St), G a σ rest → D.ok n dq → forM B xs a n Q →
    ∃ r n' fl σ' dq' rest', forD none rg m (fun x σ h => (tgItm t x σ).bind fun σ' => denSs Γ gl b σ' h) (xs.map mk) σ (D.hm dq ++ rest) = some ((fl, σ'), D.hm dq' ++ rest') ∧ (match r with | .go a => fl = .next ∧ G a σ' rest' | .brk _ => False | .ret v => ∃ w, fl = .ret w ∧ ShX D rest' w (k v)) ∧ D.ok n' dq' ∧ Q r n'
  | [], a, σ, rest, n, Q, dq, g, d, w => ⟨.go a, n, .next, σ, dq, rest, rfl, ⟨rfl, g⟩, d, w⟩
  | x :: xs, a, σ, rest, n, Q, dq, g, d, w => by
    obtain ⟨σ', ht, wb⟩ := hb x a σ rest g
    obtain ⟨r1, n1, fl, σ1, dq1, rest1, e1, p, d1, w1⟩ := wb n _ w dq d
    have e3 : forD none rg m (fun x σ h => (tgItm t x σ).bind fun σ' => denSs Γ gl b σ' h) ((x :: xs).map mk) σ (D.hm dq ++ rest) = contF fl σ1 (D.hm dq1 ++ rest1) ((endTurn rg m σ1 (D.hm dq1 ++ rest1)).bind fun q => forD none rg m (fun x σ h => (tgItm t x σ).bind fun σ' => denSs Γ gl b σ' h) (xs.map mk) q.1 q.2) := by
      rw [List.map_cons, forD]
      show (((tgItm t (mk x) σ).bind fun σ' => denSs Γ gl b σ' _).bind _) = _
      rw [ht]
      show ((denSs Γ gl b σ' _).bind _) = _
      rw [e1]
      cases fl <;> rfl
    cases r1 with
    | go a' =>
      obtain ⟨hf, g1⟩ := p
      obtain ⟨σ2, rest2, e4, g2⟩ := he a' σ1 rest1 g1
      obtain ⟨r, n3, fl2, σ3, dq3, rest3, e5, p3⟩ := forM_run hgb hnb he hb xs a' σ2 rest2 n1 Q dq1 g2 d1 w1
      refine ⟨r, n3, fl2, σ3, dq3, rest3, ?_, p3⟩
      rw [e3, e4]
      rcases hf with rfl | rfl <;> exact e5
    | brk a' =>
      cases hrg : rg with
      | true => exact (hnb hrg _ _ _ _ p).elim
      | false =>
        obtain ⟨rfl, g1⟩ := p
        exact ⟨.go a', n1, .next, σ1, dq1, rest1, by rw [← hrg, e3]; rfl, ⟨rfl, hgb _ _ _ g1 hrg⟩, d1, w1⟩
    | ret v =>
      obtain ⟨u, rfl, s⟩ := p
      exact ⟨.ret v, n1, .ret u, σ1, dq1, rest1, e3, ⟨u, rfl, s⟩, d1, w1⟩
theorem XW_for {rg : Bool} {t : Tg} {it : I} {b ss : List S} {mk : α → Itm} {G Gb : A → Fr → Hm → Prop} {k : τ → PyData} {B : α → A → WM (Fw A τ)} {XS : WM (List α)} {a0 : A} {rr : τ → ρ} {K : A → WM ρ}
    (hr : ∀ v w σ h, ShX D h w (k v) → Φ (.ret w) σ h (rr v)) (pi : XI D Γ gl it σ rest mk XS) (g0 : G a0 σ rest) (hgb : ∀ a σ h, Gb a σ h → rg = false → G a σ h) (hnb : rg = true → ∀ (a : A) fl σ h, PsiZ D Gb k fl σ h (.brk a) → False) (he : EndX D rg (rest.length + D.len) Gb G)
    (hb : ∀ x a σ rest, G a σ rest → ∃ σ', tgItm t (mk x) σ = some σ' ∧ XW D Γ gl b σ' rest (PsiZ D Gb k) (B x a)) (hk : ∀ a σ rest, G a σ rest → XW D Γ gl ss σ rest Φ (K a)) :
    XW D Γ gl (.loop rg t it b :: ss) σ rest Φ (bindM XS fun xs => bindM (forM B xs a0) (thenM rr K)) := fun n Q w dq d => by
  obtain ⟨xs, n1, dq1, e1, d1, w1⟩ := pi n _ w dq d
  obtain ⟨r1, n2, fl, σ1, dq2, rest2, e2, p, d2, w2⟩ := forM_run hgb hnb he hb xs a0 σ rest n1 _ dq1 g0 d1 w1
  have ds : denS Γ gl (.loop rg t it b) σ (D.hm dq ++ rest) = some ((fl, σ1), D.hm dq2 ++ rest2) := by
    rw [denS, e1]
    simp only [Option.bind_some, D.all]
    exact e2
  cases r1 with
  | go a =>
    obtain ⟨rfl, g1⟩ := p
    obtain ⟨r, n3, fl3, σ3, dq3, rest3, e3, q⟩ := hk a σ1 rest2 g1 n2 Q w2 dq2 d2
    exact ⟨r, n3, fl3, σ3, dq3, rest3, (ss_next ds).trans e3, q⟩
  | brk a => exact p.elim
  | ret v =>
    obtain ⟨u, rfl, s⟩ := p
    exact ⟨rr v, n2, .ret u, σ1, dq2, rest2, ss_ret ds, hr v u σ1 rest2 s, d2, w2⟩
theorem XW_for0 {t : Tg} {it : I} {b ss : List S} {mk : α → Itm} {k : τ → PyData} {B : α → A → WM (Fw A τ)} {XS : WM (List α)} {a0 : A} {rr : τ → ρ} {K : A → WM ρ} (G : A → Fr → Hm → Prop)
    (hr : ∀ v w σ h, ShX D h w (k v) → Φ (.ret w) σ h (rr v)) (pi : XI D Γ gl it σ rest mk XS) (g0 : G a0 σ rest)
    (hb : ∀ x a σ rest, G a σ rest → ∃ σ', tgItm t (mk x) σ = some σ' ∧ XW D Γ gl b σ' rest (PsiZ D G k) (B x a)) (hk : ∀ a σ rest, G a σ rest → XW D Γ gl ss σ rest Φ (K a)) :
    XW D Γ gl (.loop false t it b :: ss) σ rest Φ (bindM XS fun xs => bindM (forM B xs a0) (thenM rr K)) :=
  XW_for hr pi g0 (fun _ _ _ g _ => g) (fun e => by cases e) endX hb hk
theorem whileM_run {rg : Bool} {m : Nat} {c : E} {b : List S} {G Gb : A → Fr → Hm → Prop} {k : τ → PyData} {C : A → WM Bool} {B : A → WM (Fw A τ)} (hgb : ∀ a σ h, Gb a σ h → rg = false → G a σ h) (hnb : rg = true → ∀ (a : A) fl σ h, PsiZ D Gb k fl σ h (.brk a) → False) (he : EndX D rg m Gb G)
    (hc : ∀ a σ rest, G a σ rest → X D Γ gl c σ rest eB (C a)) (hb : ∀ a σ rest, G a σ rest → XW D Γ gl b σ rest (PsiZ D Gb k) (B a)) : ∀ (j : Nat) (a : A) (σ : Fr) (rest : Hm) (n : Nat) (Q : Fw A τ → Nat → Prop) (dq : D.St), G a σ rest → D.ok n dq → whileM C B j a n Q →
    ∃ r n' fl σ' dq' rest', whileD rg m (denE Γ gl c) (denSs Γ gl b) j σ (D.hm dq ++ rest) = some ((fl, σ'), D.hm dq' ++ rest') ∧ (match r with | .go a => fl = .next ∧ G a σ' rest' | .brk _ => False | .ret v => ∃ w, fl = .ret w ∧ ShX D rest' w (k v)) ∧ D.ok n' dq' ∧ Q r n'
  | 0, a, σ, rest, n, Q, dq, g, d, w => w.elim
  | j + 1, a, σ, rest, n, Q, dq, g, d, w => by
    obtain ⟨x, n0, dq0, e0, d0, w0⟩ := hc a σ rest g n _ w dq d
    cases x with
    | false => exact ⟨.go a, n0, .next, σ, dq0, rest, by rw [whileD, e0]; rfl, ⟨rfl, g⟩, d0, w0⟩
    | true =>
      obtain ⟨r1, n1, fl, σ1, dq1, rest1, e1, p, d1, w1⟩ := hb a σ rest g n0 _ w0 dq0 d0
      have e3 : whileD rg m (denE Γ gl c) (denSs Γ gl b) (j + 1) σ (D.hm dq ++ rest) = contF fl σ1 (D.hm dq1 ++ rest1) ((endTurn rg m σ1 (D.hm dq1 ++ rest1)).bind fun q => whileD rg m (denE Γ gl c) (denSs Γ gl b) j q.1 q.2) := by
        rw [whileD, e0]
        show ((denSs Γ gl b σ _).bind _) = _
        rw [e1]
        cases fl <;> rfl
      cases r1 with
      | go a' =>
        obtain ⟨hf, g1⟩ := p
        obtain ⟨σ2, rest2, e4, g2⟩ := he a' σ1 rest1 g1
        obtain ⟨r, n3, fl2, σ3, dq3, rest3, e5, p3⟩ := whileM_run hgb hnb he hc hb j a' σ2 rest2 n1 Q dq1 g2 d1 w1
        refine ⟨r, n3, fl2, σ3, dq3, rest3, ?_, p3⟩
        rw [e3, e4]
        rcases hf with rfl | rfl <;> exact e5
      | brk a' =>
        cases hrg : rg with
        | true => exact (hnb hrg _ _ _ _ p).elim
        | false =>
          obtain ⟨rfl, g1⟩ := p
          exact ⟨.go a', n1, .next, σ1, dq1, rest1, by rw [← hrg, e3]; rfl, ⟨rfl, hgb _ _ _ g1 hrg⟩, d1, w1⟩
      | ret v =>
        obtain ⟨u, rfl, s⟩ := p
        exact ⟨.ret v, n1, .ret u, σ1, dq1, rest1, e3, ⟨u, rfl, s⟩, d1, w1⟩
theorem XW_while {rg : Bool} {c : E} {b ss : List S} {G Gb : A → Fr → Hm → Prop} {k : τ → PyData} {C : A → WM Bool} {B : A → WM (Fw A τ)} {a0 : A} {rr : τ → ρ} {K : A → WM ρ}
    (hr : ∀ v w σ h, ShX D h w (k v) → Φ (.ret w) σ h (rr v)) (g0 : G a0 σ rest) (hgb : ∀ a σ h, Gb a σ h → rg = false → G a σ h) (hnb : rg = true → ∀ (a : A) fl σ h, PsiZ D Gb k fl σ h (.brk a) → False) (he : EndX D rg (rest.length + D.len) Gb G)
    (hc : ∀ a σ rest, G a σ rest → X D Γ gl c σ rest eB (C a)) (hb : ∀ a σ rest, G a σ rest → XW D Γ gl b σ rest (PsiZ D Gb k) (B a)) (hk : ∀ a σ rest, G a σ rest → XW D Γ gl ss σ rest Φ (K a)) :
    XW D Γ gl (.whl rg c b :: ss) σ rest Φ (bindM (whileM C B wfO a0) (thenM rr K)) := fun n Q w dq d => by
  obtain ⟨r1, n2, fl, σ1, dq2, rest2, e2, p, d2, w2⟩ := whileM_run hgb hnb he hc hb wfO a0 σ rest n _ dq g0 d w
  have ds : denS Γ gl (.whl rg c b) σ (D.hm dq ++ rest) = some ((fl, σ1), D.hm dq2 ++ rest2) := by
    rw [denS, D.all, ← wfO_eq]
    exact e2
  cases r1 with
  | go a =>
    obtain ⟨rfl, g1⟩ := p
    obtain ⟨r, n3, fl3, σ3, dq3, rest3, e3, q⟩ := hk a σ1 rest2 g1 n2 Q w2 dq2 d2
    exact ⟨r, n3, fl3, σ3, dq3, rest3, (ss_next ds).trans e3, q⟩
  | brk a => exact p.elim
  | ret v =>
    obtain ⟨u, rfl, s⟩ := p
    exact ⟨rr v, n2, .ret u, σ1, dq2, rest2, ss_ret ds, hr v u σ1 rest2 s, d2, w2⟩
theorem XW_while0 {c : E} {b ss : List S} {k : τ → PyData} {C : A → WM Bool} {B : A → WM (Fw A τ)} {a0 : A} {rr : τ → ρ} {K : A → WM ρ} (G : A → Fr → Hm → Prop)
    (hr : ∀ v w σ h, ShX D h w (k v) → Φ (.ret w) σ h (rr v)) (g0 : G a0 σ rest)
    (hc : ∀ a σ rest, G a σ rest → X D Γ gl c σ rest eB (C a)) (hb : ∀ a σ rest, G a σ rest → XW D Γ gl b σ rest (PsiZ D G k) (B a)) (hk : ∀ a σ rest, G a σ rest → XW D Γ gl ss σ rest Φ (K a)) :
    XW D Γ gl (.whl false c b :: ss) σ rest Φ (bindM (whileM C B wfO a0) (thenM rr K)) :=
  XW_while hr g0 (fun _ _ _ g _ => g) (fun e => by cases e) endX hc hb hk
theorem xretY {k : τ → PyData} : ∀ (v : τ) (w : Val) (σ : Fr) (h : Hm), ShX D h w (k v) → PsiY D k (.ret w) σ h v := fun _ w _ _ s => ⟨w, rfl, s⟩
theorem xretZ {k : τ → PyData} {G : A → Fr → Hm → Prop} : ∀ (v : τ) (w : Val) (σ : Fr) (h : Hm), ShX D h w (k v) → PsiZ D G k (.ret w) σ h (.ret v) := fun _ w _ _ s => ⟨w, rfl, s⟩
/-! ### objects -/
theorem XW_new {i : Nat} {m : N} {ss : List S} {f : α → PyData} {V : WM (List α)} {K : List α → WM ρ} (p : XN D Γ gl m σ rest f V) (k : ∀ xs, XW D Γ gl ss (σ.set i (some (.ref (rest.length + D.len)))) (rest ++ [.lst (xs.map fun x => .dat (f x))]) Φ (K xs)) : XW D Γ gl (.asg (.name i) (.nw m) :: ss) σ rest Φ (bindM V K) := fun n Q w dq d => by
  obtain ⟨x, n1, dq1, e1, d1, w1⟩ := p n _ w dq d
  obtain ⟨r, n2, fl, σ', dq2, rest', e2, q⟩ := k x n1 _ w1 dq1 d1
  refine ⟨r, n2, fl, σ', dq2, rest', (ss_next (s_asg (e_nw e1))).trans ?_, q⟩
  rw [D.all, List.append_assoc]
  exact e2
theorem XW_append {i a : Nat} {e : E} {ss : List S} {f : α → PyData} {xs : List α} {V : WM α} {K : List α → WM ρ} (h1 : σ[i]? = some (some (.ref (a + D.len)))) (h2 : rest[a]? = some (.lst (xs.map fun x => .dat (f x)))) (p : X D Γ gl e σ rest f V)
    (k : ∀ ys, XW D Γ gl ss σ (rest.set a (.lst (ys.map fun x => .dat (f x)))) Φ (K ys)) : XW D Γ gl (.expr (.met .append (.var i) [e]) :: ss) σ rest Φ (bindM V fun x => bindM (liftM (pushS xs x)) K) := fun n Q w dq d => by
  obtain ⟨x, n1, dq1, e1, d1, ys, e5, w1⟩ := p n _ w dq d
  obtain ⟨r, n2, fl, σ', dq2, rest', e6, q⟩ := k ys n1 _ w1 dq1 d1
  have hh : ∀ b, (D.hm b ++ rest)[a + D.len]? = some (.lst (xs.map fun x => .dat (f x))) := fun b => by rw [D.get]; exact h2
  refine ⟨r, n2, fl, σ', dq2, rest', (ss_next (σ' := σ) (h' := D.hm dq1 ++ rest.set a (.lst (ys.map fun x => .dat (f x)))) (s_expr (v := vn) (e_met (e_var h1) ?_ (es_cons e1 es_nil) ?_))).trans e6, q⟩
  · unfold mtOk
    simp only [items, isLst, hh]; rfl
  · show (match (D.hm dq1 ++ rest)[a + D.len]? with | some (.lst vs) => if vs.length < sizeLine then some (vn, (D.hm dq1 ++ rest).set (a + D.len) (.lst (vs ++ [Val.dat (f x)]))) else none | _ => none) = _
    rw [hh]
    show (if (xs.map fun x => Val.dat (f x)).length < sizeLine then some (vn, (D.hm dq1 ++ rest).set (a + D.len) (.lst ((xs.map fun x => Val.dat (f x)) ++ [.dat (f x)]))) else none) = _
    rw [List.length_map]
    unfold pushS at e5
    split at e5
    · rename_i c
      rw [if_pos c]
      cases e5
      rw [List.map_append, D.set]; rfl
    · cases e5
theorem XW_sset {i a : Nat} {j e : E} {ss : List S} {f : α → PyData} {xs : List α} {V : WM α} {U : WM Int} {K : List α → WM ρ} (h1 : σ[i]? = some (some (.ref (a + D.len)))) (h2 : rest[a]? = some (.lst (xs.map fun x => .dat (f x)))) (p : X D Γ gl e σ rest f V) (q : X D Γ gl j σ rest eI U)
    (k : ∀ ys, XW D Γ gl ss σ (rest.set a (.lst (ys.map fun x => .dat (f x)))) Φ (K ys)) : XW D Γ gl (.sset (.var i) j e :: ss) σ rest Φ (bindM V fun x => bindM U fun n => bindM (liftM (setS xs n x)) K) := fun n Q w dq d => by
  obtain ⟨x, n1, dq1, e1, d1, w1⟩ := p n _ w dq d
  obtain ⟨y, n2, dq2, e2, d2, ys, e5, w2⟩ := q n1 _ w1 dq1 d1
  obtain ⟨r, n3, fl, σ', dq3, rest', e6, q⟩ := k ys n2 _ w2 dq2 d2
  have hh : ∀ b, (D.hm b ++ rest)[a + D.len]? = some (.lst (xs.map fun x => .dat (f x))) := fun b => by rw [D.get]; exact h2
  refine ⟨r, n3, fl, σ', dq3, rest', (ss_next (σ' := σ) (h' := D.hm dq2 ++ rest.set a (.lst (ys.map fun x => .dat (f x)))) (s_sset e1 (e_var h1) e2 ?_)).trans e6, q⟩
  show (match (D.hm dq2 ++ rest)[a + D.len]? with | some (.lst vs) => (ixN vs.length y).map fun k => (D.hm dq2 ++ rest).set (a + D.len) (.lst (vs.set k (Val.dat (f x)))) | _ => none) = _
  rw [hh]
  show (ixN (xs.map fun x => Val.dat (f x)).length y).map _ = _
  rw [List.length_map]
  unfold setS at e5
  obtain ⟨m, e8, rfl⟩ := Option.map_eq_some_iff.mp e5
  rw [e8]
  show some ((D.hm dq2 ++ rest).set (a + D.len) (.lst ((xs.map fun x => Val.dat (f x)).set m (.dat (f x))))) = _
  rw [List.map_set, D.set]
/-! ### defs -/
theorem mapO_datD (n : Nat) (h : Hm) (ds : List PyData) : mapO (snapBelow n h) (ds.map Val.dat) = some (ds.map Val.dat) := mapO_map Val.dat (snapBelow n h) Val.dat (fun _ => rfl) ds
theorem all_datD (n : Nat) (ds : List PyData) : (ds.map Val.dat).all (Val.below n) = true := by
  induction ds with
  | nil => rfl
  | cons d ds ih => rw [List.map_cons, List.all_cons, ih]; rfl
end
theorem sp_X {D : Deck} {T : List Df} {gl : Glo} {f m : Nat} {d : Df} {args : α → List PyData} {k : τ → PyData} {F : α → WM τ} (e : T[f]? = some d) (hm : d.md = .sub D.len) (hl : ∀ x, (args x).length + 1 = d.np)
    (hy : ∀ x, XW D (callN T gl m) gl d.body (some (.ref D.at_) :: (args x).map (fun a => some (.dat a)) ++ List.replicate (d.ns - d.np) none) [] (PsiY D k) (F x)) : SpX D (callN T gl (m + 1)) f args k F := by
  intro x n Q w dq rest dd
  obtain ⟨v, n1, fl, σ', dq1, rest1, e1, ⟨u, rfl, s⟩, d1, w1⟩ := hy x n Q w dq dd
  refine ⟨v, n1, dq1, ?_, d1, w1⟩
  show ((T[f]?).bind fun d => runDf (callN T gl m) gl d _ _) = _
  rw [e]
  show runDf (callN T gl m) gl d _ _ = _
  have e00 : snapBelow D.len (D.hm dq ++ rest) (.ref D.at_) = some (.ref D.at_) := if_pos D.hat
  have e0 : mapO (snapBelow D.len (D.hm dq ++ rest)) (.ref D.at_ :: (args x).map Val.dat) = some (.ref D.at_ :: (args x).map Val.dat) := by
    rw [mapO, mapO_datD, e00]; rfl
  have ea : (Val.ref D.at_ :: (args x).map Val.dat).all (Val.below D.len) = true := by
    rw [List.all_cons, all_datD]
    show (decide (D.at_ < D.len) && true) = true
    rw [decide_eq_true D.hat]; rfl
  rw [runDf_sub hm (by rw [List.length_cons, List.length_map]; exact hl x) (by rw [D.all]; omega) e0 (D.cut _ _)]
  rw [List.map_cons, List.map_map]
  rw [List.append_nil] at e1
  show ((denSs (callN T gl m) gl d.body (some (.ref D.at_) :: (args x).map (fun a => some (.dat a)) ++ List.replicate (d.ns - d.np) none) (D.hm dq)).bind _) = _
  rw [e1]
  have eu : snapBelow D.len (D.hm dq1 ++ rest1) u = some (.dat (k v)) := by
    rcases s with rfl | ⟨a, ds, rfl, e2, e3⟩
    · rfl
    · show (if a + D.len < D.len then some (Val.ref (a + D.len)) else (snap 4 (List.replicate D.len Ob.dead ++ (D.hm dq1 ++ rest1).drop D.len) (.ref (a + D.len))).map Val.dat) = _
      rw [if_neg (by omega)]
      have e4 : (List.replicate D.len Ob.dead ++ (D.hm dq1 ++ rest1).drop D.len)[a + D.len]? = some (.lst (ds.map .dat)) := by
        rw [List.drop_left' (D.hlen dq1), List.getElem?_append_right (by rw [List.length_replicate]; omega), List.length_replicate, Nat.add_sub_cancel]
        exact e2
      rw [snap_dats e4, e3]; rfl
  show (snapBelow D.len (D.hm dq1 ++ rest1) u).bind _ = _
  rw [eu]
  show (cutH D.len (D.hm dq1 ++ rest1)).bind _ = _
  rw [D.cut]
  show (if ((Val.ref D.at_ :: (args x).map Val.dat).all (Val.below D.len) || _) = true then _ else none) = _
  rw [ea, Bool.true_or, if_pos rfl, List.drop_left' (D.hlen dq)]
end Mi
end
/-! ## MiV4 -/
section
set_option maxHeartbeats 2000000
/-! MiV4: loops by frames: what a turn leaves. -/
namespace Mi
open PySem
variable {α β γ δ ε τ A J ρ : Type}
def GJ (Sg : A → J → Fr) (Hg : A → Hm) : A → Fr → Hm → Prop := fun a σ h => ∃ j, σ = Sg a j ∧ h = Hg a
/-- with objects that are dropped -/
def GK (Sg : A → J → Fr) (Hg : A → Hm) : A → Fr → Hm → Prop := fun a σ h => ∃ j ex, σ = Sg a j ∧ h = Hg a ++ ex
section
variable {D : Deck} {Γ : Env} {gl : Glo} {σ : Fr} {h rest : Hm} {Φ : Fl → Fr → Hm → ρ → Prop}
theorem W_forG {t : Tg} {it : I} {b ss : List S} {mk : α → Itm} {k : τ → PyData} {B : α → A → Option (Fw A τ)} {XS : Option (List α)} {a0 : A} {rr : τ → ρ} {K : A → Option ρ} (Sg : A → J → Fr) (Hg : A → Hm) (j0 : J)
    (hr : ∀ v w σ h, Sh h w (k v) → Φ (.ret w) σ h (rr v)) (pi : PI0 Γ gl it σ h mk XS) (e0 : σ = Sg a0 j0) (e1 : h = Hg a0)
    (hb : ∀ x a j, ∃ σ', tgItm t (mk x) (Sg a j) = some σ' ∧ W Γ gl b σ' (Hg a) (PhiZ (GJ Sg Hg) k) (B x a)) (hk : ∀ a j, W Γ gl ss (Sg a j) (Hg a) Φ (K a)) :
    W Γ gl (.loop false t it b :: ss) σ h Φ (XS.bind fun xs => (forS B xs a0).bind (thenS rr K)) :=
  W_for0 (GJ Sg Hg) hr pi ⟨j0, e0, e1⟩ (fun x a σ h g => by obtain ⟨j, rfl, rfl⟩ := g; exact hb x a j) (fun a σ h g => by obtain ⟨j, rfl, rfl⟩ := g; exact hk a j)
theorem W_whileG {c : E} {b ss : List S} {k : τ → PyData} {C : A → Option Bool} {B : A → Option (Fw A τ)} {a0 : A} {rr : τ → ρ} {K : A → Option ρ} (Sg : A → J → Fr) (Hg : A → Hm) (j0 : J)
    (hr : ∀ v w σ h, Sh h w (k v) → Φ (.ret w) σ h (rr v)) (e0 : σ = Sg a0 j0) (e1 : h = Hg a0)
    (hc : ∀ a j, P Γ gl c (Sg a j) (Hg a) eB (C a)) (hb : ∀ a j, W Γ gl b (Sg a j) (Hg a) (PhiZ (GJ Sg Hg) k) (B a)) (hk : ∀ a j, W Γ gl ss (Sg a j) (Hg a) Φ (K a)) :
    W Γ gl (.whl false c b :: ss) σ h Φ ((whileS C B wfO a0).bind (thenS rr K)) :=
  W_while0 (GJ Sg Hg) hr ⟨j0, e0, e1⟩ (fun a σ h g => by obtain ⟨j, rfl, rfl⟩ := g; exact hc a j) (fun a σ h g => by obtain ⟨j, rfl, rfl⟩ := g; exact hb a j) (fun a σ h g => by obtain ⟨j, rfl, rfl⟩ := g; exact hk a j)
theorem below_lst {f : α → PyData} {n : Nat} (xs : List α) : Ob.below n (.lst (xs.map fun x => .dat (f x))) = true := by
  show (xs.map fun x => Val.dat (f x)).all (Val.below n) = true
  induction xs with
  | nil => rfl
  | cons x xs ih => rw [List.map_cons, List.all_cons, ih]; rfl
theorem cut_app {n : Nat} {h ex : Hm} (hn : n = h.length) (hb : h.all (Ob.below n) = true) : cutH n (h ++ ex) = some h := by
  subst hn
  unfold cutH
  rw [List.take_left' rfl, if_pos hb]
theorem W_forR {t : Tg} {it : I} {b ss : List S} {mk : α → Itm} {k : τ → PyData} {B : α → A → Option (Fw A τ)} {XS : Option (List α)} {a0 : A} {rr : τ → ρ} {K : A → Option ρ} (Sg : A → J → Fr) (Hg : A → Hm) (j0 : J)
    (hr : ∀ v w σ h, Sh h w (k v) → Φ (.ret w) σ h (rr v)) (pi : PI0 Γ gl it σ h mk XS) (e0 : σ = Sg a0 j0) (e1 : h = Hg a0) (hnb : ∀ x a a', B x a ≠ some (.brk a'))
    (hl : ∀ a, (Hg a).length = h.length) (hbl : ∀ a, (Hg a).all (Ob.below h.length) = true) (hd : ∀ a j, ∃ j', dropF h.length (Sg a j) = Sg a j')
    (hb : ∀ x a j, ∃ σ', tgItm t (mk x) (Sg a j) = some σ' ∧ W Γ gl b σ' (Hg a) (PhiZ (GK Sg Hg) k) (B x a)) (hk : ∀ a j, W Γ gl ss (Sg a j) (Hg a) Φ (K a)) :
    W Γ gl (.loop true t it b :: ss) σ h Φ (XS.bind fun xs => (forS B xs a0).bind (thenS rr K)) :=
  W_for (G := GJ Sg Hg) (Gb := GK Sg Hg) hr pi ⟨j0, e0, e1⟩ (fun _ => hnb) (fun e => by cases e) (fun a σ1 h1 g => by
    obtain ⟨j, ex, rfl, rfl⟩ := g
    obtain ⟨j', e⟩ := hd a j
    refine ⟨Sg a j', Hg a, ?_, j', rfl, rfl⟩
    show (cutH h.length (Hg a ++ ex)).map (fun h' => (dropF h.length (Sg a j), h')) = _
    rw [cut_app (hl a).symm (hbl a), e]; rfl) (fun x a σ h g => by obtain ⟨j, rfl, rfl⟩ := g; exact hb x a j) (fun a σ h g => by obtain ⟨j, rfl, rfl⟩ := g; exact hk a j)
theorem W_whileR {c : E} {b ss : List S} {k : τ → PyData} {C : A → Option Bool} {B : A → Option (Fw A τ)} {a0 : A} {rr : τ → ρ} {K : A → Option ρ} (Sg : A → J → Fr) (Hg : A → Hm) (j0 : J)
    (hr : ∀ v w σ h, Sh h w (k v) → Φ (.ret w) σ h (rr v)) (e0 : σ = Sg a0 j0) (e1 : h = Hg a0) (hnb : ∀ a a', B a ≠ some (.brk a'))
    (hl : ∀ a, (Hg a).length = h.length) (hbl : ∀ a, (Hg a).all (Ob.below h.length) = true) (hd : ∀ a j, ∃ j', dropF h.length (Sg a j) = Sg a j')
    (hc : ∀ a j, P Γ gl c (Sg a j) (Hg a) eB (C a)) (hb : ∀ a j, W Γ gl b (Sg a j) (Hg a) (PhiZ (GK Sg Hg) k) (B a)) (hk : ∀ a j, W Γ gl ss (Sg a j) (Hg a) Φ (K a)) :
    W Γ gl (.whl true c b :: ss) σ h Φ ((whileS C B wfO a0).bind (thenS rr K)) :=
  W_while (G := GJ Sg Hg) (Gb := GK Sg Hg) hr ⟨j0, e0, e1⟩ (fun _ => hnb) (fun e => by cases e) (fun a σ1 h1 g => by
    obtain ⟨j, ex, rfl, rfl⟩ := g
    obtain ⟨j', e⟩ := hd a j
    refine ⟨Sg a j', Hg a, ?_, j', rfl, rfl⟩
    show (cutH h.length (Hg a ++ ex)).map (fun h' => (dropF h.length (Sg a j), h')) = _
    rw [cut_app (hl a).symm (hbl a), e]; rfl) (fun a σ h g => by obtain ⟨j, rfl, rfl⟩ := g; exact hc a j) (fun a σ h g => by obtain ⟨j, rfl, rfl⟩ := g; exact hb a j) (fun a σ h g => by obtain ⟨j, rfl, rfl⟩ := g; exact hk a j)
theorem XW_forG {t : Tg} {it : I} {b ss : List S} {mk : α → Itm} {k : τ → PyData} {B : α → A → WM (Fw A τ)} {XS : WM (List α)} {a0 : A} {rr : τ → ρ} {K : A → WM ρ} (Sg : A → J → Fr) (Hg : A → Hm) (j0 : J)
    (hr : ∀ v w σ h, ShX D h w (k v) → Φ (.ret w) σ h (rr v)) (pi : XI D Γ gl it σ rest mk XS) (e0 : σ = Sg a0 j0) (e1 : rest = Hg a0)
    (hb : ∀ x a j, ∃ σ', tgItm t (mk x) (Sg a j) = some σ' ∧ XW D Γ gl b σ' (Hg a) (PsiZ D (GJ Sg Hg) k) (B x a)) (hk : ∀ a j, XW D Γ gl ss (Sg a j) (Hg a) Φ (K a)) :
    XW D Γ gl (.loop false t it b :: ss) σ rest Φ (bindM XS fun xs => bindM (forM B xs a0) (thenM rr K)) :=
  XW_for0 (GJ Sg Hg) hr pi ⟨j0, e0, e1⟩ (fun x a σ h g => by obtain ⟨j, rfl, rfl⟩ := g; exact hb x a j) (fun a σ h g => by obtain ⟨j, rfl, rfl⟩ := g; exact hk a j)
theorem XW_whileG {c : E} {b ss : List S} {k : τ → PyData} {C : A → WM Bool} {B : A → WM (Fw A τ)} {a0 : A} {rr : τ → ρ} {K : A → WM ρ} (Sg : A → J → Fr) (Hg : A → Hm) (j0 : J)
    (hr : ∀ v w σ h, ShX D h w (k v) → Φ (.ret w) σ h (rr v)) (e0 : σ = Sg a0 j0) (e1 : rest = Hg a0)
    (hc : ∀ a j, X D Γ gl c (Sg a j) (Hg a) eB (C a)) (hb : ∀ a j, XW D Γ gl b (Sg a j) (Hg a) (PsiZ D (GJ Sg Hg) k) (B a)) (hk : ∀ a j, XW D Γ gl ss (Sg a j) (Hg a) Φ (K a)) :
    XW D Γ gl (.whl false c b :: ss) σ rest Φ (bindM (whileM C B wfO a0) (thenM rr K)) :=
  XW_while0 (GJ Sg Hg) hr ⟨j0, e0, e1⟩ (fun a σ h g => by obtain ⟨j, rfl, rfl⟩ := g; exact hc a j) (fun a σ h g => by obtain ⟨j, rfl, rfl⟩ := g; exact hb a j) (fun a σ h g => by obtain ⟨j, rfl, rfl⟩ := g; exact hk a j)
/-- at the end of a turn that made objects: no break -/
def GN (Sg : A → J → Fr) (Hg : A → Hm) : A → Fr → Hm → Prop := GK Sg Hg
def PsiR (D : Deck) (G : A → Fr → Hm → Prop) (k : τ → PyData) : Fl → Fr → Hm → Fw A τ → Prop
  | fl, σ, rest, .go a => (fl = .next ∨ fl = .cont) ∧ G a σ rest
  | _, _, _, .brk _ => False
  | fl, _, rest, .ret v => ∃ w, fl = .ret w ∧ ShX D rest w (k v)
theorem forM_runR {m : Nat} {t : Tg} {b : List S} {mk : α → Itm} {G Gb : A → Fr → Hm → Prop} {k : τ → PyData} {B : α → A → WM (Fw A τ)} (he : EndX D true m Gb G)
    (hb : ∀ x a σ rest, G a σ rest → ∃ σ', tgItm t (mk x) σ = some σ' ∧ XW D Γ gl b σ' rest (PsiR D Gb k) (B x a)) : ∀ (xs : List α) (a : A) (σ : Fr) (rest : Hm) (n : Nat) (Q : Fw A τ → Nat → Prop) (dq : D.St), G a σ rest → D.ok n dq → forM B xs a n Q →
    ∃ r n' fl σ' dq' rest', forD none true m (fun x σ h => (tgItm t x σ).bind fun σ' => denSs Γ gl b σ' h) (xs.map mk) σ (D.hm dq ++ rest) = some ((fl, σ'), D.hm dq' ++ rest') ∧ (match r with | .go a => fl = .next ∧ G a σ' rest' | .brk _ => False | .ret v => ∃ w, fl = .ret w ∧ ShX D rest' w (k v)) ∧ D.ok n' dq' ∧ Q r n'
  | [], a, σ, rest, n, Q, dq, g, d, w => ⟨.go a, n, .next, σ, dq, rest, rfl, ⟨rfl, g⟩, d, w⟩
  | x :: xs, a, σ, rest, n, Q, dq, g, d, w => by
    obtain ⟨σ', ht, wb⟩ := hb x a σ rest g
    obtain ⟨r1, n1, fl, σ1, dq1, rest1, e1, p, d1, w1⟩ := wb n _ w dq d
    have e3 : forD none true m (fun x σ h => (tgItm t x σ).bind fun σ' => denSs Γ gl b σ' h) ((x :: xs).map mk) σ (D.hm dq ++ rest) = contF fl σ1 (D.hm dq1 ++ rest1) ((endTurn true m σ1 (D.hm dq1 ++ rest1)).bind fun q => forD none true m (fun x σ h => (tgItm t x σ).bind fun σ' => denSs Γ gl b σ' h) (xs.map mk) q.1 q.2) := by
      rw [List.map_cons, forD]
      show (((tgItm t (mk x) σ).bind fun σ' => denSs Γ gl b σ' _).bind _) = _
      rw [ht]
      show ((denSs Γ gl b σ' _).bind _) = _
      rw [e1]
      cases fl <;> rfl
    cases r1 with
    | go a' =>
      obtain ⟨hf, g1⟩ := p
      obtain ⟨σ2, rest2, e4, g2⟩ := he a' σ1 rest1 g1
      obtain ⟨r, n3, fl2, σ3, dq3, rest3, e5, p3⟩ := forM_runR he hb xs a' σ2 rest2 n1 Q dq1 g2 d1 w1
      refine ⟨r, n3, fl2, σ3, dq3, rest3, ?_, p3⟩
      rw [e3, e4]
      rcases hf with rfl | rfl <;> exact e5
    | brk a' => exact p.elim
    | ret v =>
      obtain ⟨u, rfl, s⟩ := p
      exact ⟨.ret v, n1, .ret u, σ1, dq1, rest1, e3, ⟨u, rfl, s⟩, d1, w1⟩
theorem XR_ret {e : E} {ss : List S} {k : τ → PyData} {G : A → Fr → Hm → Prop} {V : WM τ} (p : X D Γ gl e σ rest k V) : XW D Γ gl (.ret e :: ss) σ rest (PsiR D G k) (bindM V fun x => retM (.ret x)) := fun n Q w dq d => by
  obtain ⟨x, n1, dq1, e1, d1, w1⟩ := p n _ w dq d
  exact ⟨.ret x, n1, _, _, dq1, rest, ss_ret (s_ret e1), ⟨_, rfl, ShX.dat⟩, d1, w1⟩
theorem XR_nil {k : τ → PyData} {G : A → Fr → Hm → Prop} {a : A} (g : G a σ rest) : XW D Γ gl [] σ rest (PsiR D G k) (retM (.go a)) := fun n Q w dq d =>
  ⟨.go a, n, .next, σ, dq, rest, by rw [denSs], ⟨.inl rfl, g⟩, d, w⟩
theorem XR_cont {k : τ → PyData} {ss : List S} {G : A → Fr → Hm → Prop} {a : A} (g : G a σ rest) : XW D Γ gl (.cont :: ss) σ rest (PsiR D G k) (retM (.go a)) := fun n Q w dq d =>
  ⟨.go a, n, .cont, σ, dq, rest, by rw [denSs, denS]; rfl, ⟨.inr rfl, g⟩, d, w⟩
theorem xretR {k : τ → PyData} {G : A → Fr → Hm → Prop} : ∀ (v : τ) (w : Val) (σ : Fr) (h : Hm), ShX D h w (k v) → PsiR D G k (.ret w) σ h (.ret v) := fun _ w _ _ s => ⟨w, rfl, s⟩
theorem end_cut {D : Deck} {Sg : A → J → Fr} {Hg : A → Hm} {m : Nat} (hl : ∀ a, (Hg a).length + D.len = m) (hbl : ∀ a, (Hg a).all (Ob.below m) = true) (hd : ∀ a j, ∃ j', dropF m (Sg a j) = Sg a j') : EndX D true m (GK Sg Hg) (GJ Sg Hg) := fun a σ1 h1 g => by
  obtain ⟨j, ex, rfl, rfl⟩ := g
  obtain ⟨j', e⟩ := hd a j
  refine ⟨Sg a j', Hg a, fun dq => ?_, j', rfl, rfl⟩
  show (cutH m (D.hm dq ++ (Hg a ++ ex))).map (fun h' => (dropF m (Sg a j), h')) = _
  rw [← List.append_assoc, cut_app (by rw [D.all]; exact (hl a).symm) (by rw [List.all_append, hbl a, D.hbl dq m (by have := hl a; omega)]; rfl), e]; rfl
theorem XW_forR {t : Tg} {it : I} {b ss : List S} {mk : α → Itm} {k : τ → PyData} {B : α → A → WM (Fw A τ)} {XS : WM (List α)} {a0 : A} {rr : τ → ρ} {K : A → WM ρ} (Sg : A → J → Fr) (Hg : A → Hm) (j0 : J)
    (hr : ∀ v w σ h, ShX D h w (k v) → Φ (.ret w) σ h (rr v)) (pi : XI D Γ gl it σ rest mk XS) (e0 : σ = Sg a0 j0) (e1 : rest = Hg a0)
    (hl : ∀ a, (Hg a).length + D.len = rest.length + D.len) (hbl : ∀ a, (Hg a).all (Ob.below (rest.length + D.len)) = true) (hd : ∀ a j, ∃ j', dropF (rest.length + D.len) (Sg a j) = Sg a j')
    (hb : ∀ x a j, ∃ σ', tgItm t (mk x) (Sg a j) = some σ' ∧ XW D Γ gl b σ' (Hg a) (PsiR D (GK Sg Hg) k) (B x a)) (hk : ∀ a j, XW D Γ gl ss (Sg a j) (Hg a) Φ (K a)) :
    XW D Γ gl (.loop true t it b :: ss) σ rest Φ (bindM XS fun xs => bindM (forM B xs a0) (thenM rr K)) := fun n Q w dq d => by
  obtain ⟨xs, n1, dq1, e2, d1, w1⟩ := pi n _ w dq d
  obtain ⟨r1, n2, fl, σ1, dq2, rest2, e3, p, d2, w2⟩ := forM_runR (end_cut hl hbl hd) (fun x a σ h g => by obtain ⟨j, rfl, rfl⟩ := g; exact hb x a j) xs a0 σ rest n1 _ dq1 ⟨j0, e0, e1⟩ d1 w1
  have ds : denS Γ gl (.loop true t it b) σ (D.hm dq ++ rest) = some ((fl, σ1), D.hm dq2 ++ rest2) := by
    rw [denS, e2]
    simp only [Option.bind_some, D.all]
    exact e3
  cases r1 with
  | go a =>
    obtain ⟨rfl, j, rfl, rfl⟩ := p
    obtain ⟨r, n3, fl3, σ3, dq3, rest3, e4, q⟩ := hk a j n2 Q w2 dq2 d2
    exact ⟨r, n3, fl3, σ3, dq3, rest3, (ss_next ds).trans e4, q⟩
  | brk a => exact p.elim
  | ret v =>
    obtain ⟨u, rfl, s⟩ := p
    exact ⟨rr v, n2, .ret u, σ1, dq2, rest2, ss_ret ds, hr v u σ1 rest2 s, d2, w2⟩
/-! ### membership -/
theorem flat_int (xs : List Int) : (xs.map PyData.int).all flat = true := by
  induction xs with
  | nil => rfl
  | cons x xs ih => rw [List.map_cons, List.all_cons, ih]; rfl
theorem any_eqv {f : α → PyData} [DecidableEq α] [EqE f] (xs : List α) (x : α) : ((xs.map f).any fun y => PyData.eqv y (f x)) = decide (x ∈ xs) := by
  induction xs with
  | nil => rfl
  | cons y xs ih =>
    rw [List.map_cons, List.any_cons, ih, EqE.eqv]
    by_cases h1 : y = x
    · subst h1; simp
    · by_cases h2 : x ∈ xs
      · simp [h2]
      · simp [h1, h2, Ne.symm h1]
theorem inI {h : Hm} {xs : List Int} {x : Int} : inD h (vi x) (.dat (eT eI xs)) = some (decide (x ∈ xs)) := by
  show ((snap 4 h (vi x)).bind fun x => if flat x && (xs.map eI).all flat then some ((xs.map eI).any fun y => PyData.eqv y x) else none) = _
  show (if (flat (.int x) && (xs.map eI).all flat) = true then some ((xs.map eI).any fun y => PyData.eqv y (.int x)) else none) = _
  rw [flat_int]
  show some ((xs.map eI).any fun y => PyData.eqv y (eI x)) = _
  rw [any_eqv]
theorem P_inT {a b : E} {V : Option Int} {U : Option (List Int)} (p : P Γ gl a σ h eI V) (q : P Γ gl b σ h (eT eI) U) : P Γ gl (.cmp .isin a b) σ h eB (V.bind fun x => U.bind fun xs => some (decide (x ∈ xs))) := fun v hv => by
  obtain ⟨x, y, e1, e2, e3⟩ := bnd2 hv
  cases e3
  exact e_cmp (p x e1) (q y e2) (inI (h := h))
theorem P_ninT {a b : E} {V : Option Int} {U : Option (List Int)} (p : P Γ gl a σ h eI V) (q : P Γ gl b σ h (eT eI) U) : P Γ gl (.cmp .notin a b) σ h eB (V.bind fun x => U.bind fun xs => some (!decide (x ∈ xs))) := fun v hv => by
  obtain ⟨x, y, e1, e2, e3⟩ := bnd2 hv
  cases e3
  refine e_cmp (p x e1) (q y e2) ?_
  show (inD h (vi x) (.dat (eT eI y))).map (!·) = _
  rw [inI]; rfl
theorem inLs {f : α → PyData} [DecidableEq α] [EqE f] {n : Nat} [OkE f n] (hn : n ≤ 11) {u w : Val} {x : α} {xs : List α} (s1 : Sh h u (f x)) (s2 : Sh h w (eL f xs)) : inD h u w = some (decide (x ∈ xs)) := by
  have e : ((snap 4 h u).bind fun x => (snap 4 h w).bind fun y => match y with
    | .list ds => if okD 12 x && ds.all (okD 11) then some (ds.any fun y => PyData.eqv y x) else none
    | _ => none) = some (decide (x ∈ xs)) := by
    rw [s1.snap, s2.snap]
    show (if (okD 12 (f x) && (xs.map f).all (okD 11)) = true then some ((xs.map f).any fun y => PyData.eqv y (f x)) else none) = _
    rw [OkE.ok x 12 (by omega), okD_map hn, any_eqv]; rfl
  unfold inD
  rcases s2 with rfl | ⟨a, ds, rfl, e1, e2⟩
  · exact e
  · exact e
theorem P_inL {a b : E} {f : α → PyData} [DecidableEq α] [EqE f] {n : Nat} [OkE f n] {V : Option α} {U : Option (List α)} (hn : n ≤ 11) (p : PA Γ gl a σ h f V) (q : PA Γ gl b σ h (eL f) U) : P Γ gl (.cmp .isin a b) σ h eB (V.bind fun x => U.bind fun xs => some (decide (x ∈ xs))) := fun v hv => by
  obtain ⟨x, y, e1, e2, e3⟩ := bnd2 hv
  cases e3
  obtain ⟨u, d1, s1⟩ := p x e1
  obtain ⟨w, d2, s2⟩ := q y e2
  exact e_cmp d1 d2 (inLs hn s1 s2)
theorem P_ninL {a b : E} {f : α → PyData} [DecidableEq α] [EqE f] {n : Nat} [OkE f n] {V : Option α} {U : Option (List α)} (hn : n ≤ 11) (p : PA Γ gl a σ h f V) (q : PA Γ gl b σ h (eL f) U) : P Γ gl (.cmp .notin a b) σ h eB (V.bind fun x => U.bind fun xs => some (!decide (x ∈ xs))) := fun v hv => by
  obtain ⟨x, y, e1, e2, e3⟩ := bnd2 hv
  cases e3
  obtain ⟨u, d1, s1⟩ := p x e1
  obtain ⟨w, d2, s2⟩ := q y e2
  refine e_cmp d1 d2 ?_
  show (inD h u w).map (!·) = _
  rw [inLs hn s1 s2]; rfl
end
/-! ### reprs compared -/
def sameS (d d' : PyData) : Option Bool := (reprS d).bind fun a => (reprS d').bind fun b => some (a == b)
theorem same_sp {T : List Df} {gl : Glo} {f m : Nat} (e : T[f]? = some sameD) : SpD (callN T gl (m + 1)) f (fun (x : PyData × PyData) => [x.1, x.2]) eB (fun x => sameS x.1 x.2) := by
  intro h x v ev
  obtain ⟨a, b, e1, e2, e3⟩ := bnd2 ev
  cases e3
  show ((T[f]?).bind fun d => runDf (callN T gl m) gl d _ _) = _
  rw [e]
  have r1 : rsz 12 x.1 ≤ 2 ^ 24 ∧ a = x.1.shown := by
    unfold reprS at e1
    split at e1
    · rename_i c; cases e1; exact ⟨c, rfl⟩
    · cases e1
  have r2 : rsz 12 x.2 ≤ 2 ^ 24 ∧ b = x.2.shown := by
    unfold reprS at e2
    split at e2
    · rename_i c; cases e2; exact ⟨c, rfl⟩
    · cases e2
  rw [r1.2, r2.2]
  exact same_ok r1.1 r2.1
/-! ### the deck of three objects -/
structure Dok (n : Nat) (big cells : List Int) (c : Nat) : Prop where
  ne : cells ≠ []
  len : big.length ≤ 63
  cnt : c ≤ n
def dkA : Deck where
  St := List Int × List Int × Nat
  hm := fun s => [.lst (s.1.map vi), .lst (s.2.1.map vi), .lst [.ref 0, .ref 1, vi (s.2.2 : Int)]]
  ok := fun n s => Dok n s.1 s.2.1 s.2.2
  len := 3
  at_ := 2
  hlen := fun _ => rfl
  hat := by decide
  hno := fun s => dk_noL s.1 s.2.1 s.2.2
  hbl := fun s n hn => by
    have h0 : (Val.ref 0).below n = true := decide_eq_true (show 0 < n by omega)
    have h1 : (Val.ref 1).below n = true := decide_eq_true (show 1 < n by omega)
    simp only [List.all_cons, Ob.below, below_ints, List.all_nil, h0, h1]
    rfl
theorem draw_spX {T : List Df} {gl : Glo} {f m : Nat} (e : T[f]? = some drawD) : SpX dkA (callN T gl (m + 1)) f (fun (b : Int) => [eI b]) eI drawM := by
  intro b n Q w dq rest d
  obtain ⟨big, cells, c⟩ := dq
  obtain ⟨h1, h2, h3, h4⟩ := w
  obtain ⟨r, big', c', a1, a2, a3, a4, a5⟩ := draw_sp (gl := gl) e m big cells c b rest d.ne d.len (Nat.lt_of_le_of_lt d.cnt h1) h2 h3
  exact ⟨r, n + 1, (big', cells, c'), a5, ⟨d.ne, a3, Nat.le_trans a4 (Nat.succ_le_succ d.cnt)⟩, h4 r a1 a2⟩
end Mi
end
/-! ## MiV5 -/
section
set_option maxHeartbeats 2000000
/-! MiV5: several values at once; the law. -/
namespace Mi
open PySem
variable {α β γ δ ε τ A J ρ : Type}
section
variable {D : Deck} {Γ : Env} {gl : Glo} {σ : Fr} {h rest : Hm} {Φ : Fl → Fr → Hm → ρ → Prop}
def PK (Γ : Env) (gl : Glo) (es : List E) (σ : Fr) (h : Hm) (C : List Val → Hm → Option ρ → Prop) (V : Option ρ) : Prop := ∀ r, V = some r → ∃ vs h' V', denEs Γ gl es σ h = some (vs, h') ∧ C vs h' V' ∧ V' = some r
theorem PK_nil {C : List Val → Hm → Option ρ → Prop} {V : Option ρ} (c : C [] h V) : PK Γ gl [] σ h C V := fun r hr => ⟨[], h, V, es_nil, c, hr⟩
theorem PK_dat {e : E} {es : List E} {C : List Val → Hm → Option ρ → Prop} {f : α → PyData} {V : Option α} {K : α → Option ρ} (p : P Γ gl e σ h f V) (k : ∀ x, PK Γ gl es σ h (fun vs h' W => C (.dat (f x) :: vs) h' W) (K x)) : PK Γ gl (e :: es) σ h C (V.bind K) := fun r hr => by
  obtain ⟨x, e1, e2⟩ := Option.bind_eq_some_iff.mp hr
  obtain ⟨vs, h', V', d, c, e3⟩ := k x r e2
  exact ⟨_, h', V', es_cons (p x e1) d, c, e3⟩
theorem PK_new {n : N} {es : List E} {C : List Val → Hm → Option ρ → Prop} {f : α → PyData} {V : Option (List α)} {K : List α → Option ρ} (p : PN Γ gl n σ h f V) (k : ∀ x, PK Γ gl es σ (h ++ [.lst (x.map fun x => .dat (f x))]) (fun vs h' W => C (.ref h.length :: vs) h' W) (K x)) : PK Γ gl (.nw n :: es) σ h C (V.bind K) := fun r hr => by
  obtain ⟨x, e1, e2⟩ := Option.bind_eq_some_iff.mp hr
  obtain ⟨vs, h', V', d, c, e3⟩ := k x r e2
  exact ⟨_, h', V', es_cons (e_nw (p x e1)) d, c, e3⟩
theorem W_pars {is : List Nat} {es : List E} {ss : List S} {V : Option ρ} (p : PK Γ gl es σ h (fun vs h' V' => ∃ σ', setAll is vs σ = some σ' ∧ W Γ gl ss σ' h' Φ V') V) : W Γ gl (.pars is es :: ss) σ h Φ V := fun r hr => by
  obtain ⟨vs, h', V', d, ⟨σ', e1, w⟩, e2⟩ := p r hr
  exact W_next (s_pars d e1) w r e2
def XK (D : Deck) (Γ : Env) (gl : Glo) (es : List E) (σ : Fr) (rest : Hm) (C : List Val → Hm → WM ρ → Prop) (V : WM ρ) : Prop := ∀ n Q, V n Q → ∀ dq, D.ok n dq →
  ∃ vs rest' V' n' dq', denEs Γ gl es σ (D.hm dq ++ rest) = some (vs, D.hm dq' ++ rest') ∧ C vs rest' V' ∧ V' n' Q ∧ D.ok n' dq'
theorem XK_nil {C : List Val → Hm → WM ρ → Prop} {V : WM ρ} (c : C [] rest V) : XK D Γ gl [] σ rest C V := fun n Q w dq d => ⟨[], rest, V, n, dq, es_nil, c, w, d⟩
theorem XK_dat {e : E} {es : List E} {C : List Val → Hm → WM ρ → Prop} {f : α → PyData} {V : WM α} {K : α → WM ρ} (p : X D Γ gl e σ rest f V) (k : ∀ x, XK D Γ gl es σ rest (fun vs h' W => C (.dat (f x) :: vs) h' W) (K x)) : XK D Γ gl (e :: es) σ rest C (bindM V K) := fun n Q w dq d => by
  obtain ⟨x, n1, dq1, e1, d1, w1⟩ := p n _ w dq d
  obtain ⟨vs, rest', V', n2, dq2, e2, q⟩ := k x n1 _ w1 dq1 d1
  exact ⟨_, rest', V', n2, dq2, es_cons e1 e2, q⟩
theorem XK_new {m : N} {es : List E} {C : List Val → Hm → WM ρ → Prop} {f : α → PyData} {V : WM (List α)} {K : List α → WM ρ} (p : XN D Γ gl m σ rest f V) (k : ∀ x, XK D Γ gl es σ (rest ++ [.lst (x.map fun x => .dat (f x))]) (fun vs h' W => C (.ref (rest.length + D.len) :: vs) h' W) (K x)) : XK D Γ gl (.nw m :: es) σ rest C (bindM V K) := fun n Q w dq d => by
  obtain ⟨x, n1, dq1, e1, d1, w1⟩ := p n _ w dq d
  obtain ⟨vs, rest', V', n2, dq2, e2, q⟩ := k x n1 _ w1 dq1 d1
  refine ⟨.ref (rest.length + D.len) :: vs, rest', V', n2, dq2, ?_, q⟩
  have e3 := e_nw e1
  rw [D.all, List.append_assoc] at e3
  exact es_cons e3 e2
theorem XW_pars {is : List Nat} {es : List E} {ss : List S} {V : WM ρ} (p : XK D Γ gl es σ rest (fun vs h' V' => ∃ σ', setAll is vs σ = some σ' ∧ XW D Γ gl ss σ' h' Φ V') V) : XW D Γ gl (.pars is es :: ss) σ rest Φ V := fun n Q w dq d => by
  obtain ⟨vs, rest', V', n1, dq1, e1, ⟨σ', e2, w1⟩, w2, d1⟩ := p n _ w dq d
  obtain ⟨r, n2, fl, σ2, dq2, rest2, e3, q⟩ := w1 n1 _ w2 dq1 d1
  exact ⟨r, n2, fl, σ2, dq2, rest2, (ss_next (s_pars e1 e2)).trans e3, q⟩
theorem XW_aug {i : Nat} {o : Op2} {e : E} {ss : List S} {x : Int} {V : WM Int} {K : Int → WM ρ} {F : Int → Int → Int} (H : ∀ x y, augV o (vi x) (vi y) = some (vi (F x y))) (e1 : σ[i]? = some (some (.dat (eI x)))) (p : X D Γ gl e σ rest eI V) (k : ∀ y, XW D Γ gl ss (σ.set i (some (.dat (eI y)))) rest Φ (K y)) : XW D Γ gl (.aug i o e :: ss) σ rest Φ (bindM V fun y => K (F x y)) := fun n Q w dq d => by
  obtain ⟨y, n1, dq1, e2, d1, w1⟩ := p n _ w dq d
  obtain ⟨r, n2, fl, σ', dq2, rest', e3, q⟩ := k (F x y) n1 _ w1 dq1 d1
  refine ⟨r, n2, fl, σ', dq2, rest', (ss_next (σ' := σ.set i (some (.dat (eI (F x y))))) (h' := D.hm dq1 ++ rest) ?_).trans e3, q⟩
  rw [denS, e1]
  show ((denE Γ gl e σ _).bind fun p => (augV o (vi x) p.1).map fun v => ((Fl.next, σ.set i (some v)), p.2)) = _
  rw [e2]
  show (augV o (vi x) (vi y)).map _ = _
  rw [H]; rfl
end
/-- the law, behind the making of the deck -/
theorem law_run {D : Deck} {T : List Df} {gl : Glo} {iL fS m : Nat} {d dS : Df} {sb : List S} {V : WM Bool} (e : T[iL]? = some d) (hm : d.md = .keep) (hp : d.np = 1) (hb : d.body = .asg (.name 1) (.call fS [.var 0]) :: sb)
    (eS : T[fS]? = some dS) (hS : ∀ ns : List Int, ns.length ≤ 63 → ∃ s : D.St, D.ok 0 s ∧ runDf (callN T gl m) gl dS [.scr ns] [] = some (.ref D.at_, D.hm s))
    (hw : ∀ ns : List Int, XW D (callN T gl (m + 1)) gl sb ((some (.scr ns) :: List.replicate (d.ns - 1) none).set 1 (some (.ref D.at_))) [] (PsiY D eB) V) (hV : V 0 fun r _ => r = true) :
    ∀ ns : List Int, ns.length ≤ 63 → ∃ h', callN T gl (m + 2) iL [.scr ns] [] = some (vb true, h') := by
  intro ns hl
  obtain ⟨dq, h1, h3⟩ := hS ns hl
  obtain ⟨r, n1, fl, σ', dq1, rest', e1, ⟨w, rfl, s⟩, d1, rfl⟩ := hw ns 0 _ hV dq h1
  refine ⟨D.hm dq1 ++ rest', ?_⟩
  show ((T[iL]?).bind fun d => runDf (callN T gl (m + 1)) gl d _ _) = _
  rw [e]
  show runDf (callN T gl (m + 1)) gl d [.scr ns] [] = _
  unfold runDf
  rw [if_pos (by rw [hp]; rfl), hm, hp, hb]
  have ec : denS (callN T gl (m + 1)) gl (.asg (.name 1) (.call fS [.var 0])) (some (.scr ns) :: List.replicate (d.ns - 1) none) [] = some ((.next, (some (.scr ns) :: List.replicate (d.ns - 1) none).set 1 (some (.ref D.at_))), D.hm dq) := by
    refine s_asg (e_call (es_cons (e_var rfl) es_nil) ?_)
    show ((T[fS]?).bind fun d => runDf (callN T gl m) gl d _ _) = _
    rw [eS]
    exact h3
  show ((denSs (callN T gl (m + 1)) gl (.asg (.name 1) (.call fS [.var 0]) :: sb) (some (.scr ns) :: List.replicate (d.ns - 1) none) []).bind _) = _
  rw [ss_next ec]
  rw [List.append_nil] at e1
  rw [e1]
  rcases s with rfl | ⟨a, ds, rfl, e2, e3⟩
  · rfl
  · cases e3
theorem state_okA {Γ : Env} {gl : Glo} {ns : List Int} (hl : ns.length ≤ 63) : ∃ s : dkA.St, dkA.ok 0 s ∧ runDf Γ gl stateD [.scr ns] [] = some (.ref dkA.at_, dkA.hm s) := by
  obtain ⟨big, cells, h1, h2, h3⟩ := state_ok (Γ := Γ) (gl := gl) hl
  exact ⟨(big, cells, 0), ⟨h1, h2, Nat.le_refl _⟩, h3⟩
end Mi
end
/-! ## MiV6 -/
section
set_option maxHeartbeats 2000000
/-! MiV6: dicts, two walks, index, read as plain functions. -/
namespace Mi
open PySem
variable {α β γ δ ε τ A J ρ : Type}
/-- a dict with int keys, as it was filled -/
def eM (g : α → PyData) (kvs : List (Int × α)) : PyData := .dict (kvs.map fun p => (.int p.1, g p.2))
def lookS (kvs : List (Int × α)) (k : Int) : Option α := (kvs.find? fun p => decide (p.1 = k)).map (·.2)
def putS (kvs : List (Int × α)) (k : Int) (v : α) : List (Int × α) :=
  if (kvs.any fun p => decide (p.1 = k)) = true then kvs.map (fun p => if p.1 = k then (p.1, v) else p) else kvs ++ [(k, v)]
def dcompS (C : α → Option Bool) (Kf : α → Option Int) (F : α → Option β) : List α → List (Int × β) → Option (List (Int × β))
  | [], acc => some acc
  | x :: xs, acc => (C x).bind fun b => if b then (Kf x).bind fun k => (F x).bind fun v => dcompS C Kf F xs (putS acc k v) else dcompS C Kf F xs acc
def comp2S (C : α → Option Bool) (YS : α → Option (List β)) (C1 : α → β → Option Bool) (F : α → β → Option γ) : List α → Option (List γ)
  | [] => some []
  | x :: xs => (C x).bind fun b => if b then (YS x).bind fun ys => (compS (C1 x) (F x) ys).bind fun zs => (comp2S C YS C1 F xs).map (zs ++ ·) else comp2S C YS C1 F xs
def capS (xs : List α) : Option (List α) := if xs.length ≤ sizeLine then some xs else none
def srtS (ks : List Int) : Option (List Int) := if ks.length < 64 then some (ks.mergeSort (fun a b => decide (a ≤ b))) else none
def rngL (j : Int) : Option (List Int) := if j < 2 ^ 62 ∧ -(2 ^ 62) ≤ j ∧ j.toNat ≤ sizeLine then some ((List.range j.toNat).map fun (k : Nat) => (k : Int)) else none
def idxS (xs : List Int) (i : Int) : Option Int := (xs.findIdx? fun n => n == i).map fun k => ((k : Nat) : Int)
def vOf (g : α → PyData) (kvs : List (Int × α)) : List (PyData × Val) := kvs.map fun p => (.int p.1, .dat (g p.2))
theorem look_enc {g : α → PyData} {k : Int} : ∀ kvs : List (Int × α), dLook (vOf g kvs) (.int k) = (lookS kvs k).map fun x => .dat (g x)
  | [] => rfl
  | p :: kvs => by
    have ih := look_enc (g := g) (k := k) kvs
    unfold dLook lookS vOf at ih ⊢
    rw [List.map_cons, List.find?_cons, List.find?_cons]
    by_cases h : p.1 = k
    · have h' : (PyData.int p.1 = PyData.int k) := by rw [h]
      simp only [h, decide_true]; rfl
    · have h' : ¬ (PyData.int p.1 = PyData.int k) := fun e => h (PyData.int.inj e)
      simp only [h, h', decide_false]
      exact ih
theorem put_enc {g : α → PyData} {k : Int} {v : α} (kvs : List (Int × α)) : dPut (vOf g kvs) (.int k) (.dat (g v)) = vOf g (putS kvs k v) := by
  have e1 : ((vOf g kvs).any fun kv => decide (kv.1 = .int k)) = (kvs.any fun p => decide (p.1 = k)) := by
    unfold vOf
    rw [List.any_map]
    congr 1
    funext p
    show decide (PyData.int p.1 = PyData.int k) = decide (p.1 = k)
    exact decide_eq_decide.mpr ⟨fun e => PyData.int.inj e, fun e => by rw [e]⟩
  unfold dPut putS
  rw [e1]
  split
  · unfold vOf
    rw [List.map_map, List.map_map]
    apply List.map_congr_left
    intro p _
    show (if PyData.int p.1 = PyData.int k then (PyData.int p.1, Val.dat (g v)) else (PyData.int p.1, Val.dat (g p.2))) = _
    by_cases h : p.1 = k
    · rw [if_pos (by rw [h])]
      show _ = (PyData.int (if p.1 = k then (p.1, v) else p).1, Val.dat (g (if p.1 = k then (p.1, v) else p).2))
      rw [if_pos h]
    · rw [if_neg fun e => h (PyData.int.inj e)]
      show _ = (PyData.int (if p.1 = k then (p.1, v) else p).1, Val.dat (g (if p.1 = k then (p.1, v) else p).2))
      rw [if_neg h]
  · unfold vOf
    rw [List.map_append]; rfl
section
variable {Γ : Env} {gl : Glo} {σ : Fr} {h : Hm}
/-- a dict that is read: data, or an object of the heap -/
def PD (Γ : Env) (gl : Glo) (e : E) (σ : Fr) (h : Hm) (g : α → PyData) (V : Option (List (Int × α))) : Prop := ∀ v, V = some v → ∃ w, denE Γ gl e σ h = some (w, h) ∧ dItems h w = some (vOf g v)
theorem PD_of {e : E} {g : α → PyData} {V : Option (List (Int × α))} (p : P Γ gl e σ h (eM g) V) : PD Γ gl e σ h g V := fun v hv => ⟨_, p v hv, by
  show some ((v.map fun p => (PyData.int p.1, g p.2)).map fun kv => (kv.1, Val.dat kv.2)) = _
  rw [List.map_map]; rfl⟩
theorem PD_own {i a : Nat} {g : α → PyData} {kvs : List (Int × α)} (e1 : σ[i]? = some (some (.ref a))) (e2 : h[a]? = some (.dct (vOf g kvs))) : PD Γ gl (.var i) σ h g (some kvs) := fun v hv => by
  cases hv
  refine ⟨_, e_var e1, ?_⟩
  show (match h[a]? with | some (.dct kvs) => some kvs | _ => none) = _
  rw [e2]
theorem P_dsub {d k : E} {g : α → PyData} {V : Option (List (Int × α))} {W : Option Int} (p : PD Γ gl d σ h g V) (q : P Γ gl k σ h eI W) : P Γ gl (.dsub d k) σ h g (V.bind fun x => W.bind fun y => lookS x y) := fun v hv => by
  obtain ⟨x, y, e1, e2, e3⟩ := bnd2 hv
  obtain ⟨w, d1, d2⟩ := p x e1
  rw [denE, d1]
  simp only [Option.bind_some]
  rw [q y e2]
  show ((dItems h w).bind fun kvs => (keyD (vi y)).bind fun k => dLook kvs k).map _ = _
  rw [d2]
  show (dLook (vOf g x) (.int y)).map _ = _
  rw [look_enc, e3]; rfl
theorem P_dget {d k : E} {g : α → PyData} {V : Option (List (Int × α))} {W : Option Int} (p : PD Γ gl d σ h g V) (q : P Γ gl k σ h eI W) : P Γ gl (.dget d k) σ h (eO g) (V.bind fun x => W.bind fun y => some (lookS x y)) := fun v hv => by
  obtain ⟨x, y, e1, e2, e3⟩ := bnd2 hv
  cases e3
  obtain ⟨w, d1, d2⟩ := p x e1
  have hd : isDct h w = true := by show (dItems h w).isSome = true; rw [d2]; rfl
  rw [denE, d1]
  simp only [Option.bind_some]
  rw [if_pos hd, q y e2]
  show ((dItems h w).bind fun kvs => (keyD (vi y)).map fun k => (dLook kvs k).getD vn).map _ = _
  rw [d2]
  show some ((dLook (vOf g x) (.int y)).getD vn, h) = _
  rw [look_enc]
  cases lookS x y <;> rfl
theorem P_dget2 {d k a : E} {g : α → PyData} {V : Option (List (Int × α))} {W : Option Int} {U : Option α} (p : PD Γ gl d σ h g V) (q : P Γ gl k σ h eI W) (r : P Γ gl a σ h g U) : P Γ gl (.dget2 d k a) σ h g (V.bind fun x => W.bind fun y => U.bind fun z => some ((lookS x y).getD z)) := fun v hv => by
  obtain ⟨x, e1, e0⟩ := Option.bind_eq_some_iff.mp hv
  obtain ⟨y, z, e2, e3, e4⟩ := bnd2 e0
  cases e4
  obtain ⟨w, d1, d2⟩ := p x e1
  have hd : isDct h w = true := by show (dItems h w).isSome = true; rw [d2]; rfl
  rw [denE, d1]
  simp only [Option.bind_some]
  rw [if_pos hd, q y e2]
  simp only [Option.bind_some]
  rw [r z e3]
  show ((dItems h w).bind fun kvs => (keyD (vi y)).map fun k => (dLook kvs k).getD (.dat (g z))).map _ = _
  rw [d2]
  show some ((dLook (vOf g x) (.int y)).getD (.dat (g z)), h) = _
  rw [look_enc]
  cases lookS x y <;> rfl
theorem P_din {d k : E} {g : α → PyData} {V : Option (List (Int × α))} {W : Option Int} (q : P Γ gl k σ h eI W) (p : PD Γ gl d σ h g V) : P Γ gl (.din k d) σ h eB (W.bind fun y => V.bind fun x => some (lookS x y).isSome) := fun v hv => by
  obtain ⟨y, x, e2, e1, e3⟩ := bnd2 hv
  cases e3
  obtain ⟨w, d1, d2⟩ := p x e1
  rw [denE, q y e2]
  simp only [Option.bind_some]
  rw [d1]
  show ((dItems h w).bind fun kvs => (keyD (vi y)).map fun k => (dLook kvs k).isSome).map _ = _
  rw [d2]
  show some (vb (dLook (vOf g x) (.int y)).isSome, h) = _
  rw [look_enc]
  cases lookS x y <;> rfl
theorem P_dnin {d k : E} {g : α → PyData} {V : Option (List (Int × α))} {W : Option Int} (q : P Γ gl k σ h eI W) (p : PD Γ gl d σ h g V) : P Γ gl (.dnin k d) σ h eB (W.bind fun y => V.bind fun x => some (!(lookS x y).isSome)) := fun v hv => by
  obtain ⟨y, x, e2, e1, e3⟩ := bnd2 hv
  cases e3
  obtain ⟨w, d1, d2⟩ := p x e1
  rw [denE, q y e2]
  simp only [Option.bind_some]
  rw [d1]
  show ((dItems h w).bind fun kvs => (keyD (vi y)).map fun k => (dLook kvs k).isSome).map _ = _
  rw [d2]
  show some (vb (!(dLook (vOf g x) (.int y)).isSome), h) = _
  rw [look_enc]
  cases lookS x y <;> rfl
theorem keyInts_enc {g : α → PyData} (kvs : List (Int × α)) : keyInts (vOf g kvs) = some (kvs.map (·.1)) := by
  unfold keyInts vOf
  exact mapO_map (fun p : Int × α => ((PyData.int p.1, Val.dat (g p.2)) : PyData × Val)) _ (·.1) (fun _ => rfl) kvs
theorem PN_sortedD {a : E} {g : α → PyData} {V : Option (List (Int × α))} (p : PD Γ gl a σ h g V) : PN Γ gl (.sortedD a) σ h eI (V.bind fun x => srtS (x.map (·.1))) := fun v hv => by
  obtain ⟨x, e1, e2⟩ := Option.bind_eq_some_iff.mp hv
  obtain ⟨w, d1, d2⟩ := p x e1
  rw [denN, d1]
  simp only [Option.bind_some]
  rw [d2]
  simp only [Option.bind_some]
  rw [keyInts_enc]
  simp only [Option.bind_some]
  unfold srtS at e2
  split at e2
  · rename_i c; rw [if_pos c]; cases e2; rfl
  · cases e2
theorem PN_listD {a : E} {g : α → PyData} {V : Option (List (Int × α))} (p : PD Γ gl a σ h g V) : PN Γ gl (.listD a) σ h eI (V.map fun x => x.map (·.1)) := fun v hv => by
  obtain ⟨x, e1, rfl⟩ := Option.map_eq_some_iff.mp hv
  obtain ⟨w, d1, d2⟩ := p x e1
  rw [denN, d1]
  simp only [Option.bind_some]
  rw [d2]
  show some (Ob.lst ((vOf g x).map fun kv => .dat kv.1), h) = _
  unfold vOf
  rw [List.map_map, List.map_map]; rfl
theorem PN_listR1 {a : E} {V : Option Int} (p : P Γ gl a σ h eI V) : PN Γ gl (.listR1 a) σ h eI (V.bind rngL) := fun v hv => by
  obtain ⟨x, e1, e2⟩ := Option.bind_eq_some_iff.mp hv
  rw [denN, p x e1]
  simp only [Option.bind_some]
  unfold rngL at e2
  split at e2
  · rename_i c; rw [if_pos c]; cases e2; rw [List.map_map]; rfl
  · cases e2
def mkM (g : α → PyData) (p : Int × α) : Itm := .many [.int p.1, g p.2]
theorem I0_items {a : E} {g : α → PyData} {V : Option (List (Int × α))} (p : P Γ gl a σ h (eM g) V) : PI0 Γ gl (.items a) σ h (mkM g) V := fun v hv => by
  rw [denI, p v hv]
  show some (((v.map fun p => (PyData.int p.1, g p.2)).map fun kv => Itm.many [kv.1, kv.2], none), h) = _
  rw [List.map_map]; rfl
theorem I0_keys {a : E} {g : α → PyData} {V : Option (List (Int × α))} (p : P Γ gl a σ h (eM g) V) : PI0 Γ gl (.keys a) σ h (mk1 eI) (V.map fun x => x.map (·.1)) := fun v hv => by
  obtain ⟨x, e1, rfl⟩ := Option.map_eq_some_iff.mp hv
  rw [denI, p x e1]
  show some (((x.map fun p => (PyData.int p.1, g p.2)).map fun kv => Itm.one (.dat kv.1), none), h) = _
  rw [List.map_map, List.map_map]; rfl
theorem I0_vals {a : E} {g : α → PyData} {V : Option (List (Int × α))} (p : P Γ gl a σ h (eM g) V) : PI0 Γ gl (.vals a) σ h (mk1 g) (V.map fun x => x.map (·.2)) := fun v hv => by
  obtain ⟨x, e1, rfl⟩ := Option.map_eq_some_iff.mp hv
  rw [denI, p x e1]
  show some (((x.map fun p => (PyData.int p.1, g p.2)).map fun kv => Itm.one (.dat kv.2), none), h) = _
  rw [List.map_map, List.map_map]; rfl
theorem datsK_enc {g : α → PyData} (kvs : List (Int × α)) : datsK (vOf g kvs) = some (kvs.map fun p => (.int p.1, g p.2)) := by
  unfold datsK vOf
  exact mapO_map (fun p : Int × α => ((PyData.int p.1, Val.dat (g p.2)) : PyData × Val)) _ (fun p => (PyData.int p.1, g p.2)) (fun _ => rfl) kvs
theorem P_dcomp {k v : E} {t : Tg} {it : I} {cond : Option E} {own : List Nat} {mk : α → Itm} {g : β → PyData} {XS : Option (List α)} {S : α → Fr} {C : α → Option Bool} {Kf : α → Option Int} {F : α → Option β}
    (pi : PI Γ gl it σ h mk XS) (hs : ∀ x, tgItm t (mk x) (wipeF σ own) = some (S x)) (pc : ∀ x, PC Γ gl cond (S x) h (C x)) (pk : ∀ x, P Γ gl k (S x) h eI (Kf x)) (pf : ∀ x, P Γ gl v (S x) h g (F x)) :
    P Γ gl (.fz (.dcomp k v t it cond own)) σ h (eM g) (XS.bind fun xs => dcompS C Kf F xs []) := fun r hr => by
  obtain ⟨xs, e1, e2⟩ := Option.bind_eq_some_iff.mp hr
  obtain ⟨G, d, ok⟩ := pi xs e1
  have run : ∀ (xs : List α) (acc : List (Int × β)) (r : List (Int × β)), dcompS C Kf F xs acc = some r →
      dcompD G (fun x h => (tgItm t x (wipeF σ own)).bind fun σ' => (denC Γ gl cond σ' h).bind fun q => if q.1 then (denE Γ gl k σ' q.2).bind fun a => (keyD a.1).bind fun y => (denE Γ gl v σ' a.2).map fun b => (some (y, b.1), b.2) else some (none, q.2)) (xs.map mk) (vOf g acc) h = some (vOf g r, h) := by
    intro xs
    induction xs with
    | nil => intro acc r e; cases e; rw [List.map_nil, dcompD, if_pos ok]
    | cons x xs ih =>
      intro acc r e
      unfold dcompS at e
      obtain ⟨b, c1, c2⟩ := Option.bind_eq_some_iff.mp e
      rw [List.map_cons, dcompD, if_pos ok, hs x]
      simp only [Option.bind_some]
      rw [pc x b c1]
      cases b with
      | false => exact ih acc r c2
      | true =>
        obtain ⟨kk, vv, c3, c4, c5⟩ := bnd2 c2
        simp only [Option.bind_some, ↓reduceIte]
        rw [pk x kk c3]
        show ((((denE Γ gl v (S x) h).map fun b => (some (PyData.int kk, b.1), b.2)) : Option (Option (PyData × Val) × Hm)).bind _) = _
        rw [pf x vv c4]
        show dcompD G _ (xs.map mk) (dPut (vOf g acc) (.int kk) (.dat (g vv))) h = _
        rw [put_enc]
        exact ih _ r c5
  have e3 := run xs [] r e2
  have en : denN Γ gl (.dcomp k v t it cond own) σ h = some (.dct (vOf g r), h) := by
    rw [denN, d]
    simp only [Option.bind_some]
    rw [show ([] : List (PyData × Val)) = vOf g ([] : List (Int × β)) from rfl, e3]; rfl
  rw [denE, en]
  show (datsK (vOf g r)).map _ = _
  rw [datsK_enc]; rfl
theorem comp2_run {G : Gd} {Fn : Itm → List Val → Hm → Option (List Val × Hm)} {mk : α → Itm} {g : γ → PyData} {C : α → Option Bool} {Y : α → Option (List γ)} (ok : G.ok h = true)
    (H1 : ∀ x acc, C x = some false → Fn (mk x) acc h = some (acc, h)) (H2 : ∀ x acc ys, C x = some true → Y x = some ys → Fn (mk x) acc h = some (acc ++ ys.map fun y => .dat (g y), h)) : ∀ (xs : List α) (zs : List γ) (acc : List Val),
    (∀ x ∈ xs, True) → (xs.foldr (fun x r => (C x).bind fun b => if b then (Y x).bind fun ys => r.map (ys ++ ·) else r) (some [])) = some zs → comp2D G Fn (xs.map mk) acc h = some (acc ++ zs.map fun y => .dat (g y), h)
  | [], zs, acc, _, e => by
    cases e
    rw [List.map_nil, comp2D, if_pos ok, List.map_nil, List.append_nil]
  | x :: xs, zs, acc, hx, e => by
    rw [List.foldr_cons] at e
    obtain ⟨b, e1, e2⟩ := Option.bind_eq_some_iff.mp e
    rw [List.map_cons, comp2D, if_pos ok]
    cases b with
    | false =>
      rw [H1 x acc e1]
      exact comp2_run ok H1 H2 xs zs acc (fun _ _ => trivial) e2
    | true =>
      obtain ⟨ys, e3, e4⟩ := Option.bind_eq_some_iff.mp e2
      obtain ⟨zs', e5, rfl⟩ := Option.map_eq_some_iff.mp e4
      rw [H2 x acc ys e1 e3]
      show comp2D G Fn (xs.map mk) (acc ++ ys.map fun y => .dat (g y)) h = _
      rw [comp2_run ok H1 H2 xs zs' _ (fun _ _ => trivial) e5, List.append_assoc, List.map_append]
theorem comp2S_fold {C : α → Option Bool} {YS : α → Option (List β)} {C1 : α → β → Option Bool} {F : α → β → Option γ} : ∀ xs : List α, comp2S C YS C1 F xs = xs.foldr (fun x r => (C x).bind fun b => if b then ((YS x).bind fun ys => compS (C1 x) (F x) ys).bind fun ys => r.map (ys ++ ·) else r) (some [])
  | [] => rfl
  | x :: xs => by
    rw [List.foldr_cons, ← comp2S_fold xs]
    show ((C x).bind fun b => if b then (YS x).bind fun ys => (compS (C1 x) (F x) ys).bind fun zs => (comp2S C YS C1 F xs).map (zs ++ ·) else comp2S C YS C1 F xs) = _
    cases C x with
    | none => rfl
    | some b => cases b with
      | false => rfl
      | true =>
        show ((YS x).bind fun ys => (compS (C1 x) (F x) ys).bind fun zs => (comp2S C YS C1 F xs).map (zs ++ ·)) = _
        cases YS x <;> rfl
theorem PN_comp2 {elt : E} {t t1 : Tg} {it it1 : I} {cond cond1 : Option E} {own own1 : List Nat} {mk : α → Itm} {mk' : β → Itm} {g : γ → PyData} {XS : Option (List α)} {S : α → Fr} {C : α → Option Bool} {YS : α → Option (List β)} {S1 : α → β → Fr} {C1 : α → β → Option Bool} {F : α → β → Option γ}
    (pi : PI Γ gl it σ h mk XS) (hs : ∀ x, tgItm t (mk x) (wipeF σ own) = some (S x)) (pc : ∀ x, PC Γ gl cond (S x) h (C x)) (pi1 : ∀ x, PI Γ gl it1 (S x) h mk' (YS x)) (hs1 : ∀ x y, tgItm t1 (mk' y) (wipeF (S x) own1) = some (S1 x y))
    (pc1 : ∀ x y, PC Γ gl cond1 (S1 x y) h (C1 x y)) (pf : ∀ x y, P Γ gl elt (S1 x y) h g (F x y)) :
    PN Γ gl (.comp2 elt t it cond t1 it1 cond1 own own1) σ h g (XS.bind fun xs => (comp2S C YS C1 F xs).bind capS) := fun v hv => by
  obtain ⟨xs, e1, e2⟩ := Option.bind_eq_some_iff.mp hv
  obtain ⟨zs, e3, e4⟩ := Option.bind_eq_some_iff.mp e2
  obtain ⟨G, d, ok⟩ := pi xs e1
  rw [comp2S_fold] at e3
  have e5 := comp2_run (mk := mk) (g := g) (C := C) (Y := fun x => (YS x).bind fun ys => compS (C1 x) (F x) ys) (Fn := fun x acc h => (tgItm t x (wipeF σ own)).bind fun σ1 => (denC Γ gl cond σ1 h).bind fun q => if q.1 then (denI Γ gl it1 σ1 q.2).bind fun p1 =>
        compD p1.1.2 (fun y h => (tgItm t1 y (wipeF σ1 own1)).bind fun σ2 => (denC Γ gl cond1 σ2 h).bind fun q => if q.1 then (denE Γ gl elt σ2 q.2).map fun r => (some r.1, r.2) else some (none, q.2)) p1.1.1 acc p1.2 else some (acc, q.2)) ok (fun x acc ex => by
      rw [hs x]
      simp only [Option.bind_some]
      rw [pc x _ ex]; rfl) (fun x acc ys ex ey => by
      rw [hs x]
      simp only [Option.bind_some]
      rw [pc x _ ex]
      simp only [Option.bind_some, ↓reduceIte]
      obtain ⟨us, e6, e7⟩ := Option.bind_eq_some_iff.mp ey
      obtain ⟨G1, d1, ok1⟩ := pi1 x us e6
      rw [d1]
      simp only [Option.bind_some]
      exact comp_run (mk := mk') (g := g) (C := C1 x) (F := F x) ok1 (fun y ey => by
        rw [hs1 x y]
        simp only [Option.bind_some]
        rw [pc1 x y _ ey]; rfl) (fun y z ey ez => by
        rw [hs1 x y]
        simp only [Option.bind_some]
        rw [pc1 x y _ ey]
        simp only [Option.bind_some, ↓reduceIte]
        rw [pf x y z ez]; rfl) us ys acc e7) xs zs [] (fun _ _ => trivial) e3
  rw [denN, d]
  simp only [Option.bind_some]
  rw [e5]
  simp only [Option.bind_some, List.nil_append, List.length_map]
  unfold capS at e4
  split at e4
  · rename_i c; rw [if_pos c]; cases e4; rfl
  · cases e4
theorem P_idx {a b : E} {V : Option (List Int)} {W : Option Int} (p : P Γ gl a σ h (eT eI) V) (q : P Γ gl b σ h eI W) : P Γ gl (.idx a b) σ h eI (V.bind fun x => W.bind fun y => idxS x y) := fun v hv => by
  obtain ⟨x, y, e1, e2, e3⟩ := bnd2 hv
  rw [denE, p x e1]
  show (denE Γ gl b σ h).bind _ = _
  rw [q y e2]
  show ((intsV ((x.map eI).map .dat)).bind fun ns => (ns.findIdx? fun n => n == y).map fun k => vi (k : Nat)).map (fun v => (v, h)) = _
  rw [List.map_map]
  have := intsV_map x
  rw [show (x.map (Val.dat ∘ eI)) = x.map fun x => Val.dat (eI x) from rfl, this]
  unfold idxS at e3
  obtain ⟨k, e4, rfl⟩ := Option.map_eq_some_iff.mp e3
  show ((x.findIdx? fun n => n == y).map fun k => vi (k : Nat)).map (fun v => (v, h)) = _
  rw [e4]; rfl
theorem P_isT {a : E} {b neg : Bool} {V : Option Bool} (p : P Γ gl a σ h eB V) : P Γ gl (.isT b neg a) σ h eB (V.map fun x => if neg then !decide (x = b) else decide (x = b)) := fun v hv => by
  obtain ⟨x, e, rfl⟩ := Option.map_eq_some_iff.mp hv
  rw [denE, p x e]; rfl
variable {Φ : Fl → Fr → Hm → ρ → Prop}
/-! ### dicts of one's own -/
theorem W_newD {i : Nat} {g : α → PyData} {ss : List S} {K : Option ρ} (k : W Γ gl ss (σ.set i (some (.ref h.length))) (h ++ [.dct (vOf g ([] : List (Int × α)))]) Φ K) : W Γ gl (.asg (.name i) (.nw .dict0) :: ss) σ h Φ K :=
  W_next (s_asg (e_nw (by rw [denN]; rfl))) k
theorem PK_newD {es : List E} {C : List Val → Hm → Option ρ → Prop} {g : α → PyData} {K : Option ρ} (k : PK Γ gl es σ (h ++ [.dct (vOf g ([] : List (Int × α)))]) (fun vs h' W => C (.ref h.length :: vs) h' W) K) : PK Γ gl (.nw .dict0 :: es) σ h C K := fun r hr => by
  obtain ⟨vs, h', V', d, c, e3⟩ := k r hr
  exact ⟨_, h', V', es_cons (e_nw (by rw [denN]; rfl)) d, c, e3⟩
def putO (kvs : List (Int × α)) (k : Int) (v : α) : Option (List (Int × α)) := if kvs.length < sizeLine then some (putS kvs k v) else none
theorem W_dput {i a : Nat} {k e : E} {ss : List S} {g : α → PyData} {kvs : List (Int × α)} {V : Option α} {U : Option Int} {K : List (Int × α) → Option ρ} (e1 : σ[i]? = some (some (.ref a))) (e2 : h[a]? = some (.dct (vOf g kvs))) (p : P Γ gl e σ h g V) (q : P Γ gl k σ h eI U)
    (w : ∀ ys, W Γ gl ss σ (h.set a (.dct (vOf g ys))) Φ (K ys)) : W Γ gl (.dput (.var i) k e :: ss) σ h Φ (V.bind fun x => U.bind fun n => (putO kvs n x).bind K) := fun r hr => by
  obtain ⟨x, n, e3, e4, e5⟩ := bnd2 hr
  obtain ⟨ys, e6, e7⟩ := Option.bind_eq_some_iff.mp e5
  refine W_next (σ' := σ) (h' := h.set a (.dct (vOf g ys))) ?_ (w ys) r e7
  rw [denS, p x e3]
  simp only [Option.bind_some]
  rw [e_var e1]
  simp only [Option.bind_some]
  rw [q n e4]
  simp only [Option.bind_some]
  show ((match h[a]? with | some (.dct kvs) => if kvs.length < sizeLine then some (h.set a (.dct (dPut kvs (.int n) (Val.dat (g x))))) else none | _ => none) : Option Hm).map _ = _
  rw [e2]
  show ((if (vOf g kvs).length < sizeLine then some (h.set a (.dct (dPut (vOf g kvs) (.int n) (Val.dat (g x))))) else none) : Option Hm).map _ = _
  unfold putO at e6
  split at e6
  · rename_i c
    cases e6
    rw [if_pos (by unfold vOf; rw [List.length_map]; exact c), put_enc]; rfl
  · cases e6
end
end Mi
end
/-! ## MiV7 -/
section
set_option maxHeartbeats 2000000
/-! MiV7: own lists in defs that draw: pop, remove; lists that a def gives. -/
namespace Mi
open PySem
variable {α β γ δ ε τ A J ρ : Type}
def popS (xs : List α) : Option (α × List α) := (xs[xs.length - 1]?).map fun x => (x, xs.dropLast)
def popAtS (xs : List α) (i : Int) : Option (α × List α) := (ixN xs.length i).bind fun k => (xs[k]?).map fun x => (x, xs.eraseIdx k)
def removeS [DecidableEq α] (xs : List α) (x : α) : Option (List α) := (xs.findIdx? fun y => decide (y = x)).map fun k => xs.eraseIdx k
theorem dropLast_map' (f : α → β) (xs : List α) : (xs.map f).dropLast = xs.dropLast.map f := by
  rw [List.dropLast_eq_take, List.dropLast_eq_take, List.length_map, List.map_take]
section
variable {D : Deck} {Γ : Env} {gl : Glo} {σ : Fr} {h rest : Hm} {Φ : Fl → Fr → Hm → ρ → Prop}
theorem mt_own {m : Mt} {a : Nat} {vs : List Val} (hm : ∀ h v, mtOk m h v = ((items h v).isSome && isLst h v)) (e2 : h[a]? = some (.lst vs)) : mtOk m h (.ref a) = true := by
  rw [hm]
  simp only [items, isLst, e2]; rfl
theorem pop_run {a : Nat} {f : α → PyData} {xs ys : List α} {x : α} (e2 : h[a]? = some (.lst (xs.map fun x => .dat (f x)))) (e : popS xs = some (x, ys)) : metV .pop h (.ref a) [] = some (.dat (f x), h.set a (.lst (ys.map fun x => .dat (f x)))) := by
  show (match h[a]? with | some (.lst vs) => (vs[vs.length - 1]?).map fun v => (v, h.set a (.lst vs.dropLast)) | _ => none) = _
  rw [e2]
  show ((xs.map fun x => Val.dat (f x))[(xs.map fun x => Val.dat (f x)).length - 1]?).map _ = _
  rw [List.length_map, List.getElem?_map]
  unfold popS at e
  obtain ⟨y, e3, e4⟩ := Option.map_eq_some_iff.mp e
  cases e4
  rw [e3]
  show some (Val.dat (f x), h.set a (.lst (xs.map fun x => Val.dat (f x)).dropLast)) = _
  rw [dropLast_map']
theorem popAt_run {a : Nat} {f : α → PyData} {xs ys : List α} {x : α} {i : Int} (e2 : h[a]? = some (.lst (xs.map fun x => .dat (f x)))) (e : popAtS xs i = some (x, ys)) : metV .popAt h (.ref a) [vi i] = some (.dat (f x), h.set a (.lst (ys.map fun x => .dat (f x)))) := by
  show (match h[a]? with | some (.lst vs) => (ixN vs.length i).bind fun k => (vs[k]?).map fun v => (v, h.set a (.lst (vs.eraseIdx k))) | _ => none) = _
  rw [e2]
  show (ixN (xs.map fun x => Val.dat (f x)).length i).bind _ = _
  rw [List.length_map]
  unfold popAtS at e
  obtain ⟨k, e3, e4⟩ := Option.bind_eq_some_iff.mp e
  obtain ⟨y, e5, e6⟩ := Option.map_eq_some_iff.mp e4
  cases e6
  rw [e3]
  show ((xs.map fun x => Val.dat (f x))[k]?).map _ = _
  rw [List.getElem?_map, e5]
  show some (Val.dat (f x), h.set a (.lst ((xs.map fun x => Val.dat (f x)).eraseIdx k))) = _
  rw [erase_map]
theorem append_run {a : Nat} {f : α → PyData} {xs ys : List α} {x : α} (e2 : h[a]? = some (.lst (xs.map fun x => .dat (f x)))) (e : pushS xs x = some ys) : metV .append h (.ref a) [.dat (f x)] = some (vn, h.set a (.lst (ys.map fun x => .dat (f x)))) := by
  show (match h[a]? with | some (.lst vs) => if vs.length < sizeLine then some (vn, h.set a (.lst (vs ++ [Val.dat (f x)]))) else none | _ => none) = _
  rw [e2]
  show (if (xs.map fun x => Val.dat (f x)).length < sizeLine then some (vn, h.set a (.lst ((xs.map fun x => Val.dat (f x)) ++ [.dat (f x)]))) else none) = _
  rw [List.length_map]
  unfold pushS at e
  split at e
  · rename_i c
    rw [if_pos c]
    cases e
    rw [List.map_append]; rfl
  · cases e
theorem remove_run {a : Nat} {f : α → PyData} [DecidableEq α] [EqE f] {n : Nat} [OkE f n] (hn : n ≤ 12) {xs ys : List α} {x : α} (e2 : h[a]? = some (.lst (xs.map fun x => .dat (f x)))) (e : removeS xs x = some ys) : metV .remove h (.ref a) [.dat (f x)] = some (vn, h.set a (.lst (ys.map fun x => .dat (f x)))) := by
  show (match h[a]? with | some (.lst vs) => (dats vs).bind fun ds => if okD 12 (f x) && ds.all (okD 12) then (findD (f x) ds).map fun k => (vn, h.set a (.lst (vs.eraseIdx k))) else none | _ => none) = _
  rw [e2]
  show ((dats (xs.map fun x => Val.dat (f x))).bind _) = _
  rw [dats_enc]
  show (if (okD 12 (f x) && (xs.map f).all (okD 12)) = true then _ else none) = _
  rw [OkE.ok x 12 hn, okD_map hn, if_pos (by rfl)]
  have ef : findD (f x) (xs.map f) = xs.findIdx? fun y => decide (y = x) := by
    unfold findD
    rw [List.findIdx?_map]
    congr 1
    funext y
    exact EqE.eqv y x
  rw [ef]
  unfold removeS at e
  obtain ⟨k, e3, rfl⟩ := Option.map_eq_some_iff.mp e
  rw [e3]
  show some (vn, h.set a (.lst ((xs.map fun x => Val.dat (f x)).eraseIdx k))) = _
  rw [erase_map]
/-- name = own.pop() -/
theorem XW_pop {i j a : Nat} {ss : List S} {f : α → PyData} {xs : List α} {K : α → List α → WM ρ} (h1 : σ[j]? = some (some (.ref (a + D.len)))) (h2 : rest[a]? = some (.lst (xs.map fun x => .dat (f x))))
    (k : ∀ x ys, XW D Γ gl ss (σ.set i (some (.dat (f x)))) (rest.set a (.lst (ys.map fun x => .dat (f x)))) Φ (K x ys)) : XW D Γ gl (.asg (.name i) (.met .pop (.var j) []) :: ss) σ rest Φ (bindM (liftM (popS xs)) fun p => K p.1 p.2) := fun n Q w dq d => by
  obtain ⟨⟨x, ys⟩, e1, w1⟩ := w
  obtain ⟨r, n2, fl, σ', dq2, rest', e2, q⟩ := k x ys n _ w1 dq d
  have hh : (D.hm dq ++ rest)[a + D.len]? = some (.lst (xs.map fun x => .dat (f x))) := by rw [D.get]; exact h2
  refine ⟨r, n2, fl, σ', dq2, rest', (ss_next (s_asg (e_met (e_var h1) (mt_own (m := .pop) (fun _ _ => rfl) hh) es_nil (pop_run hh e1)))).trans ?_, q⟩
  rw [D.set]
  exact e2
/-- own.append(other.pop(e)) -/
theorem XW_appPopAt {i j a b : Nat} {e : E} {ss : List S} {f : α → PyData} {xs zs : List α} {V : WM Int} {K : List α → List α → WM ρ} (h1 : σ[i]? = some (some (.ref (a + D.len)))) (h2 : rest[a]? = some (.lst (xs.map fun x => .dat (f x)))) (h3 : σ[j]? = some (some (.ref (b + D.len)))) (h4 : rest[b]? = some (.lst (zs.map fun x => .dat (f x)))) (hab : a ≠ b)
    (p : X D Γ gl e σ rest eI V) (k : ∀ xs' zs', XW D Γ gl ss σ ((rest.set b (.lst (zs'.map fun x => .dat (f x)))).set a (.lst (xs'.map fun x => .dat (f x)))) Φ (K xs' zs')) :
    XW D Γ gl (.expr (.met .append (.var i) [.met .popAt (.var j) [e]]) :: ss) σ rest Φ (bindM V fun n => bindM (liftM (popAtS zs n)) fun q => bindM (liftM (pushS xs q.1)) fun xs' => K xs' q.2) := fun n Q w dq d => by
  obtain ⟨y, n1, dq1, e1, d1, ⟨x, zs'⟩, e2, xs', e3, w1⟩ := p n _ w dq d
  obtain ⟨r, n2, fl, σ', dq2, rest', e4, q⟩ := k xs' zs' n1 _ w1 dq1 d1
  have hh : ∀ s, (D.hm s ++ rest)[a + D.len]? = some (.lst (xs.map fun x => .dat (f x))) := fun s => by rw [D.get]; exact h2
  have hh4 : ∀ s, (D.hm s ++ rest)[b + D.len]? = some (.lst (zs.map fun x => .dat (f x))) := fun s => by rw [D.get]; exact h4
  have hh5 : (D.hm dq1 ++ rest.set b (.lst (zs'.map fun x => .dat (f x))))[a + D.len]? = some (.lst (xs.map fun x => .dat (f x))) := by rw [D.get, List.getElem?_set_ne (Ne.symm hab)]; exact h2
  have pp := popAt_run (hh4 dq1) e2
  rw [D.set] at pp
  have ap := append_run hh5 e3
  rw [D.set] at ap
  refine ⟨r, n2, fl, σ', dq2, rest', (ss_next (s_expr (e_met (e_var h1) (mt_own (m := .append) (fun _ _ => rfl) (hh dq)) (es_cons (e_met (e_var h3) (mt_own (m := .popAt) (fun _ _ => rfl) (hh4 dq)) (es_cons e1 es_nil) pp) es_nil) ap))).trans e4, q⟩
/-- own.remove(e) -/
theorem XW_remove {i a : Nat} {e : E} {ss : List S} {f : α → PyData} [DecidableEq α] [EqE f] {m : Nat} [OkE f m] {xs : List α} {V : WM α} {K : List α → WM ρ} (hm : m ≤ 12) (h1 : σ[i]? = some (some (.ref (a + D.len)))) (h2 : rest[a]? = some (.lst (xs.map fun x => .dat (f x)))) (p : X D Γ gl e σ rest f V)
    (k : ∀ ys, XW D Γ gl ss σ (rest.set a (.lst (ys.map fun x => .dat (f x)))) Φ (K ys)) : XW D Γ gl (.expr (.met .remove (.var i) [e]) :: ss) σ rest Φ (bindM V fun x => bindM (liftM (removeS xs x)) K) := fun n Q w dq d => by
  obtain ⟨x, n1, dq1, e1, d1, ys, e2, w1⟩ := p n _ w dq d
  obtain ⟨r, n2, fl, σ', dq2, rest', e4, q⟩ := k ys n1 _ w1 dq1 d1
  have hh : ∀ s, (D.hm s ++ rest)[a + D.len]? = some (.lst (xs.map fun x => .dat (f x))) := fun s => by rw [D.get]; exact h2
  have rr := remove_run hm (hh dq1) e2
  rw [D.set] at rr
  exact ⟨r, n2, fl, σ', dq2, rest', (ss_next (s_expr (e_met (e_var h1) (mt_own (m := .remove) (fun _ _ => rfl) (hh dq)) (es_cons e1 es_nil) rr))).trans e4, q⟩
/-! ### a list that a def gives -/
def SpGv (D : Deck) (Γ : Env) (f : Nat) (args : α → List PyData) (g : β → PyData) (F : α → WM (List β)) : Prop := ∀ x n Q, F x n Q → ∀ dq rest, D.ok n dq →
  ∃ v n' dq', Γ f (.ref D.at_ :: (args x).map .dat) (D.hm dq ++ rest) = some (.ref (rest.length + D.len), D.hm dq' ++ (rest ++ [.lst (v.map fun y => .dat (g y))])) ∧ D.ok n' dq' ∧ Q v n'
abbrev PsiG (D : Deck) (g : β → PyData) : Fl → Fr → Hm → List β → Prop := fun fl _ rest v => ∃ a, fl = .ret (.ref (a + D.len)) ∧ rest[a]? = some (.lst (v.map fun y => .dat (g y)))
theorem XG_ret {i a : Nat} {ss : List S} {g : β → PyData} {xs : List β} (h1 : σ[i]? = some (some (.ref (a + D.len)))) (h2 : rest[a]? = some (.lst (xs.map fun x => .dat (g x)))) : XW D Γ gl (.ret (.var i) :: ss) σ rest (PsiG D g) (retM xs) := fun n Q w dq d =>
  ⟨xs, n, _, _, dq, rest, ss_ret (s_ret (e_var h1)), ⟨a, rfl, h2⟩, d, w⟩
theorem XW_give {f i j : Nat} {es : List E} {ss : List S} {args : α → List PyData} {g : β → PyData} {F : α → WM (List β)} {V : WM α} {K : List β → WM ρ} (s : SpGv D Γ f args g F) (hi : σ[j]? = some (some (.ref D.at_))) (p : XEs D Γ gl es σ rest args V)
    (k : ∀ xs, XW D Γ gl ss (σ.set i (some (.ref (rest.length + D.len)))) (rest ++ [.lst (xs.map fun x => .dat (g x))]) Φ (K xs)) : XW D Γ gl (.asg (.name i) (.call f (.var j :: es)) :: ss) σ rest Φ (bindM (bindM V F) K) := fun n Q w dq d => by
  obtain ⟨x, n1, dq1, e1, d1, w1⟩ := p n _ w dq d
  obtain ⟨v, n2, dq2, e2, d2, w2⟩ := s x n1 _ w1 dq1 rest d1
  obtain ⟨r, n3, fl, σ', dq3, rest', e3, q⟩ := k v n2 _ w2 dq2 d2
  exact ⟨r, n3, fl, σ', dq3, rest', (ss_next (s_asg (e_call (es_cons (e_var hi) e1) e2))).trans e3, q⟩
theorem XK_give {f j : Nat} {es es' : List E} {C : List Val → Hm → WM ρ → Prop} {args : α → List PyData} {g : β → PyData} {F : α → WM (List β)} {V : WM α} {K : List β → WM ρ} (s : SpGv D Γ f args g F) (hi : σ[j]? = some (some (.ref D.at_))) (p : XEs D Γ gl es σ rest args V)
    (k : ∀ xs, XK D Γ gl es' σ (rest ++ [.lst (xs.map fun x => .dat (g x))]) (fun vs h' W => C (.ref (rest.length + D.len) :: vs) h' W) (K xs)) : XK D Γ gl (.call f (.var j :: es) :: es') σ rest C (bindM (bindM V F) K) := fun n Q w dq d => by
  obtain ⟨x, n1, dq1, e1, d1, w1⟩ := p n _ w dq d
  obtain ⟨v, n2, dq2, e2, d2, w2⟩ := s x n1 _ w1 dq1 rest d1
  obtain ⟨vs, rest', V', n3, dq3, e3, q⟩ := k v n2 _ w2 dq2 d2
  exact ⟨_, rest', V', n3, dq3, es_cons (e_call (es_cons (e_var hi) e1) e2) e3, q⟩
end
theorem sp_G {D : Deck} {T : List Df} {gl : Glo} {f m : Nat} {d : Df} {args : α → List PyData} {g : β → PyData} {n : Nat} [NoLE g n] (hn : n ≤ 8) {F : α → WM (List β)} (e : T[f]? = some d) (hm : d.md = .give D.len) (hl : ∀ x, (args x).length + 1 = d.np)
    (hy : ∀ x, XW D (callN T gl m) gl d.body (some (.ref D.at_) :: (args x).map (fun a => some (.dat a)) ++ List.replicate (d.ns - d.np) none) [] (PsiG D g) (F x)) : SpGv D (callN T gl (m + 1)) f args g F := by
  intro x n Q w dq rest dd
  obtain ⟨v, n1, fl, σ', dq1, rest1, e1, ⟨a, rfl, ea⟩, d1, w1⟩ := hy x n Q w dq dd
  refine ⟨v, n1, dq1, ?_, d1, w1⟩
  show ((T[f]?).bind fun d => runDf (callN T gl m) gl d _ _) = _
  rw [e]
  show runDf (callN T gl m) gl d _ _ = _
  have eall : (Val.ref D.at_ :: (args x).map Val.dat).all (Val.below D.len) = true := by
    rw [List.all_cons, all_datD]
    show (decide (D.at_ < D.len) && true) = true
    rw [decide_eq_true D.hat]; rfl
  unfold runDf
  rw [if_pos (by rw [List.length_cons, List.length_map]; exact hl x), hm]
  simp only []
  rw [if_pos ⟨by rw [D.all]; omega, eall⟩, D.cut]
  rw [List.map_cons, List.map_map]
  rw [List.append_nil] at e1
  show ((denSs (callN T gl m) gl d.body (some (.ref D.at_) :: (args x).map (fun a => some (.dat a)) ++ List.replicate (d.ns - d.np) none) (D.hm dq)).bind _) = _
  rw [e1]
  simp only [Option.bind_some, resV]
  rw [D.get, ea]
  simp only []
  rw [dats_enc]
  simp only [Option.bind_some]
  rw [D.cut]
  simp only [Option.bind_some]
  rw [if_pos ⟨by omega, noL_map hn v, D.hno dq1⟩, List.drop_left' (D.hlen dq), D.all, List.append_assoc]
end Mi
end
/-! ## MiV8 -/
section
set_option maxHeartbeats 2000000
/-! MiV8: tuples of fixed lengths, joined. -/
namespace Mi
open PySem
variable {α β γ δ ε τ : Type}
def e1 (f : α → PyData) (x : α) : PyData := .tuple [f x]
instance {f : α → PyData} {g : β → PyData} {k : γ → PyData} {l : δ → PyData} [DecidableEq α] [DecidableEq β] [DecidableEq γ] [DecidableEq δ] [EqE f] [EqE g] [EqE k] [EqE l] : EqE (e4 f g k l) := ⟨fun x y => by
  show (PyData.eqv (f x.1) (f y.1) && (PyData.eqv (g x.2.1) (g y.2.1) && (PyData.eqv (k x.2.2.1) (k y.2.2.1) && (PyData.eqv (l x.2.2.2) (l y.2.2.2) && true)))) = _
  rw [EqE.eqv, EqE.eqv, EqE.eqv, EqE.eqv]
  obtain ⟨a, b, c, d⟩ := x
  obtain ⟨a', b', c', d'⟩ := y
  by_cases h1 : a = a' <;> by_cases h2 : b = b' <;> by_cases h3 : c = c' <;> by_cases h4 : d = d' <;> simp [h1, h2, h3, h4]⟩
instance {f : α → PyData} {g : β → PyData} {k : γ → PyData} {l : δ → PyData} {m : ε → PyData} [DecidableEq α] [DecidableEq β] [DecidableEq γ] [DecidableEq δ] [DecidableEq ε] [EqE f] [EqE g] [EqE k] [EqE l] [EqE m] : EqE (e5 f g k l m) := ⟨fun x y => by
  show (PyData.eqv (f x.1) (f y.1) && (PyData.eqv (g x.2.1) (g y.2.1) && (PyData.eqv (k x.2.2.1) (k y.2.2.1) && (PyData.eqv (l x.2.2.2.1) (l y.2.2.2.1) && (PyData.eqv (m x.2.2.2.2) (m y.2.2.2.2) && true))))) = _
  rw [EqE.eqv, EqE.eqv, EqE.eqv, EqE.eqv, EqE.eqv]
  obtain ⟨a, b, c, d, e⟩ := x
  obtain ⟨a', b', c', d', e'⟩ := y
  by_cases h1 : a = a' <;> by_cases h2 : b = b' <;> by_cases h3 : c = c' <;> by_cases h4 : d = d' <;> by_cases h5 : e = e' <;> simp [h1, h2, h3, h4, h5]⟩
instance {f : α → PyData} {g : β → PyData} {q : γ → PyData} {r : δ → PyData} {n m l o : Nat} [OkE f n] [OkE g m] [OkE q l] [OkE r o] : OkE (e4 f g q r) (max n (max m (max l o)) + 1) := ⟨fun x k h => by
  obtain ⟨k, rfl⟩ : ∃ j, k = j + 1 := ⟨k - 1, by omega⟩
  show (okD k (f x.1) && (okD k (g x.2.1) && (okD k (q x.2.2.1) && (okD k (r x.2.2.2) && true)))) = true
  rw [OkE.ok x.1 k (by omega), OkE.ok x.2.1 k (by omega), OkE.ok x.2.2.1 k (by omega), OkE.ok x.2.2.2 k (by omega)]; rfl⟩
instance {f : α → PyData} {g : β → PyData} {q : γ → PyData} {r : δ → PyData} {s : ε → PyData} {n m l o p : Nat} [OkE f n] [OkE g m] [OkE q l] [OkE r o] [OkE s p] : OkE (e5 f g q r s) (max n (max m (max l (max o p))) + 1) := ⟨fun x k h => by
  obtain ⟨k, rfl⟩ : ∃ j, k = j + 1 := ⟨k - 1, by omega⟩
  show (okD k (f x.1) && (okD k (g x.2.1) && (okD k (q x.2.2.1) && (okD k (r x.2.2.2.1) && (okD k (s x.2.2.2.2) && true))))) = true
  rw [OkE.ok x.1 k (by omega), OkE.ok x.2.1 k (by omega), OkE.ok x.2.2.1 k (by omega), OkE.ok x.2.2.2.1 k (by omega), OkE.ok x.2.2.2.2 k (by omega)]; rfl⟩
instance {f : α → PyData} {g : β → PyData} {q : γ → PyData} {n m l : Nat} [NoLE f n] [NoLE g m] [NoLE q l] : NoLE (e3 f g q) (max n (max m l) + 1) := ⟨fun x k h => by
  obtain ⟨k, rfl⟩ : ∃ j, k = j + 1 := ⟨k - 1, by omega⟩
  show (noL k (f x.1) && (noL k (g x.2.1) && (noL k (q x.2.2) && true))) = true
  rw [NoLE.no x.1 k (by omega), NoLE.no x.2.1 k (by omega), NoLE.no x.2.2 k (by omega)]; rfl⟩
instance {f : α → PyData} {g : β → PyData} {q : γ → PyData} {r : δ → PyData} {n m l o : Nat} [NoLE f n] [NoLE g m] [NoLE q l] [NoLE r o] : NoLE (e4 f g q r) (max n (max m (max l o)) + 1) := ⟨fun x k h => by
  obtain ⟨k, rfl⟩ : ∃ j, k = j + 1 := ⟨k - 1, by omega⟩
  show (noL k (f x.1) && (noL k (g x.2.1) && (noL k (q x.2.2.1) && (noL k (r x.2.2.2) && true)))) = true
  rw [NoLE.no x.1 k (by omega), NoLE.no x.2.1 k (by omega), NoLE.no x.2.2.1 k (by omega), NoLE.no x.2.2.2 k (by omega)]; rfl⟩
instance {f : α → PyData} {g : β → PyData} {q : γ → PyData} {r : δ → PyData} {s : ε → PyData} {n m l o p : Nat} [NoLE f n] [NoLE g m] [NoLE q l] [NoLE r o] [NoLE s p] : NoLE (e5 f g q r s) (max n (max m (max l (max o p))) + 1) := ⟨fun x k h => by
  obtain ⟨k, rfl⟩ : ∃ j, k = j + 1 := ⟨k - 1, by omega⟩
  show (noL k (f x.1) && (noL k (g x.2.1) && (noL k (q x.2.2.1) && (noL k (r x.2.2.2.1) && (noL k (s x.2.2.2.2) && true))))) = true
  rw [NoLE.no x.1 k (by omega), NoLE.no x.2.1 k (by omega), NoLE.no x.2.2.1 k (by omega), NoLE.no x.2.2.2.1 k (by omega), NoLE.no x.2.2.2.2 k (by omega)]; rfl⟩
instance {f : α → PyData} {g : β → PyData} {k : γ → PyData} {l : δ → PyData} : NnE (e4 f g k l) := ⟨fun _ => rfl⟩
instance {f : α → PyData} {g : β → PyData} {k : γ → PyData} {l : δ → PyData} {m : ε → PyData} : NnE (e5 f g k l m) := ⟨fun _ => rfl⟩
section
variable {Γ : Env} {gl : Glo} {σ : Fr} {h : Hm}
theorem P_one {a : E} {f : α → PyData} {V : Option α} (p : P Γ gl a σ h f V) : P Γ gl (.tup [a]) σ h (e1 f) V := fun v hv =>
  e_tup (ds := [f v]) (es_cons (p v hv) es_nil) rfl (show 1 ≤ sizeLine by decide)
/-- tuples of fixed lengths, joined -/
theorem P_catP {a b : E} {f : α → PyData} {g : β → PyData} {k : γ → PyData} {F : α → List PyData} {G : β → List PyData} {n : Nat} (c : α → β → γ) (hf : ∀ x, f x = .tuple (F x)) (hg : ∀ y, g y = .tuple (G y)) (hk : ∀ x y, k (c x y) = .tuple (F x ++ G y)) (hl : ∀ x y, (F x).length + (G y).length = n) (hn : n ≤ sizeLine)
    {V : Option α} {W : Option β} (p : P Γ gl a σ h f V) (q : P Γ gl b σ h g W) : P Γ gl (.op .add a b) σ h k (V.bind fun x => W.bind fun y => some (c x y)) := P_op (fun x y v e => by
  cases e
  rw [hf, hg, hk]
  show (if (F x).length + (G y).length ≤ sizeLine then some (vt (F x ++ G y)) else none) = _
  rw [hl, if_pos hn]) p q
theorem XN_lst {D : Deck} {rest : Hm} {es : List E} {args : α → List PyData} {f : β → PyData} (c : α → List β) {V : WM α} (hc : ∀ x, args x = (c x).map f) {n : Nat} (hl : ∀ x, (c x).length = n) (hn : n ≤ sizeLine) (p : XEs D Γ gl es σ rest args V) : XN D Γ gl (.lst es) σ rest f (bindM V fun x => retM (c x)) := fun n Q w dq d => by
  obtain ⟨x, n1, dq1, e1, d1, w1⟩ := p n _ w dq d
  refine ⟨c x, n1, dq1, ?_, d1, w1⟩
  rw [hc, List.map_map] at e1
  exact n_lst e1 (by rw [List.length_map, hl]; exact hn)
end
end Mi
end
/-! ## MiD2 -/
section
set_option maxHeartbeats 2000000
/-! MiD2: decks of two objects. -/
namespace Mi
open PySem
def dk2 (cells : List Int) (rest : Int) (c : Nat) (bl : Int) : Hm := [.lst (cells.map vi), .lst [.ref 0, vi rest, vi (c : Int), vi bl]]
structure Dok2 (n : Nat) (cells : List Int) (c : Nat) (bl : Int) : Prop where
  len : cells.length ≤ 63
  cnt : c ≤ n
  b0 : 0 ≤ bl
  b1 : bl < 2147483647
def dkE : Deck where
  St := List Int × Int × Nat × Int
  hm := fun s => dk2 s.1 s.2.1 s.2.2.1 s.2.2.2
  ok := fun n s => Dok2 n s.1 s.2.2.1 s.2.2.2
  len := 2
  at_ := 1
  hlen := fun _ => rfl
  hat := by decide
  hno := fun s => by
    simp only [dk2, List.all_cons, Ob.noL, noL_ints, List.all_nil, Val.noL]
    rfl
  hbl := fun s n hn => by
    have h0 : (Val.ref 0).below n = true := decide_eq_true (show 0 < n by omega)
    simp only [dk2, List.all_cons, Ob.below, below_ints, List.all_nil, h0]
    rfl
section
variable {Γ : Env} {gl : Glo}
theorem d2_pop {x : Int} {cells : List Int} {rest : Int} {c : Nat} {bl : Int} : metV .popAt (dk2 (x :: cells) rest c bl) (.ref 0) [vi 0] = some (vi x, dk2 cells rest c bl) := popAt_run (f := eI) (xs := x :: cells) (ys := cells) rfl (by simp [popAtS, ixN])
abbrev w2C : E := .and (.cmp .eq (.sub (.var 0) (.int 1)) (.int 0)) (.cmp .ne (.sub (.var 0) (.int 0)) (.fz (.lst [])))
variable {cells : List Int} {rest : Int} {c : Nat} {bl : Int} {σ : Fr}
theorem d2_at {i : Int} {v : Val} (e : σ[0]? = some (some (.ref 1))) (h : atI [.ref 0, vi rest, vi (c : Int), vi bl] i = some v) : denE Γ gl (.sub (.var 0) (.int i)) σ (dk2 cells rest c bl) = some (v, dk2 cells rest c bl) := e_sub (e_var e) e_int h
theorem w2C_rest (e : σ[0]? = some (some (.ref 1))) (h : rest ≠ 0) : denE Γ gl w2C σ (dk2 cells rest c bl) = some (vb false, dk2 cells rest c bl) := by
  have e1 : denE Γ gl (.cmp .eq (.sub (.var 0) (.int 1)) (.int 0)) σ (dk2 cells rest c bl) = some (vb false, dk2 cells rest c bl) :=
    e_cmp (d2_at e rfl) e_int (by
      show some (decide (rest = 0)) = _
      rw [decide_eq_false h])
  rw [w2C, denE, e1]; rfl
theorem w2C_cells (e : σ[0]? = some (some (.ref 1))) : denE Γ gl w2C σ (dk2 cells 0 c bl) = some (vb (decide (cells ≠ [])), dk2 cells 0 c bl) := by
  have e1 : denE Γ gl (.cmp .eq (.sub (.var 0) (.int 1)) (.int 0)) σ (dk2 cells 0 c bl) = some (vb true, dk2 cells 0 c bl) := e_cmp (d2_at e rfl) e_int rfl
  rw [w2C, denE, e1]
  show denE Γ gl (.cmp .ne (.sub (.var 0) (.int 0)) (.fz (.lst []))) σ (dk2 cells 0 c bl) = _
  refine e_cmp (d2_at e rfl) (w := vl []) (e_fz (n_lst es_nil (by decide)) rfl) ?_
  have k1 : snap 4 (dk2 cells 0 c bl) (.ref 0) = some (.list (cells.map .int)) := snap_ints rfl
  have k2 : okD 12 (.list (cells.map .int)) = true := okD_ints 10 _
  show ((eqD0 (dk2 cells 0 c bl) (.ref 0) (vl [])).map (!·)) = _
  unfold eqD0
  rw [k1]
  show (((if (okD 12 (.list (cells.map .int)) && true) = true then some (PyData.eqv (.list (cells.map .int)) (.list [])) else none) : Option Bool).map (!·)) = _
  rw [k2]
  cases cells <;> rfl
def deckE : Df := { np := 1, ns := 2, md := .keep, body := [(.ret (.nw (.lst [(.nw (.comp (.bi .abs [(.var 1)]) (.name 1) (.e (.fz (.slc (.var 0) none (some (.int 63))))) none [1])), (.int 0), (.int 0), (.op .add (.int 5) (.op .mul (.int 31) (.bi .len [(.var 0)])))])))] }
def deckD : Df := { np := 1, ns := 2, md := .keep, body := [(.ret (.nw (.lst [(.nw (.comp (.bi .abs [(.var 1)]) (.name 1) (.e (.fz (.slc (.var 0) none (some (.int 63))))) none [1])), (.int 0), (.int 0), (.op .add (.int 11) (.op .mul (.int 37) (.bi .len [(.var 0)])))])))] }
theorem d2_scr {ns : List Int} (hl : ns.length ≤ 63) : denE Γ gl (.fz (.slc (.var 0) none (some (.int 63)))) [some (.scr ns), none] [] = some (vl (ns.map .int), []) := by
  refine e_fz (vs := (ns.map PyData.int).map .dat) ?_ (dats_dats _)
  rw [denN, e_var (v := .scr ns) rfl]
  have eo : denO Γ gl none [some (.scr ns), none] [] = some (none, []) := by rw [denO]
  have eh : denO Γ gl (some (.int 63)) [some (.scr ns), none] [] = some (some 63, []) := by rw [denO, e_int]; rfl
  simp only [Option.bind_some, eo, eh]
  show some (Ob.lst (cutL (ns.map vi) none (some 63)), _) = _
  have ec : cutL (ns.map vi) none (some 63) = ns.map vi := by
    have : sIx ns.length ns.length (some 63) = min 63 ns.length := rfl
    unfold cutL
    rw [List.length_map, this]
    show ((ns.map vi).drop 0).take (min 63 ns.length - 0) = _
    rw [List.drop_zero, Nat.min_eq_right hl, Nat.sub_zero, List.take_of_length_le (by rw [List.length_map]; exact Nat.le_refl _)]
  rw [ec, List.map_map]
  rfl
/-! ### draws: E -/
def nextE : Df := { np := 2, ns := 5, md := .sub 2, body := [(.whl false w2C [(.asg (.name 3) (.met .popAt (.sub (.var 0) (.int 0)) [(.int 0)])),
    (.sset (.var 0) (.int 3) (.op .mod (.op .add (.op .add (.op .mul (.sub (.var 0) (.int 3)) (.int 69069)) (.op .mod (.var 3) (.int 2147483629))) (.int 1)) (.int 2147483629))),
    (.sset (.var 0) (.int 1) (.op .mul (.var 3) (.bi .int [(.cmp .ge (.var 3) (.op .pow (.int 10) (.int 18)))])))]),
    (.ifs (.cmp .gt (.sub (.var 0) (.int 1)) (.int 0)) [(.asg (.name 4) (.op .mod (.sub (.var 0) (.int 1)) (.var 1))),
    (.sset (.var 0) (.int 1) (.op .fdiv (.sub (.var 0) (.int 1)) (.var 1))),
    (.ret (.var 4))] []),
    (.sset (.var 0) (.int 2) (.op .add (.sub (.var 0) (.int 2)) (.int 1))),
    (.asg (.name 2) (.op .mod (.op .add (.op .add (.op .mul (.sub (.var 0) (.int 3)) (.int 48271)) (.op .mul (.op .mul (.sub (.var 0) (.int 2)) (.sub (.var 0) (.int 2))) (.int 40692))) (.int 7)) (.int 2147483587))),
    (.ret (.op .mod (.op .fdiv (.op .mod (.op .mul (.var 2) (.var 2)) (.int 2147483563)) (.int 16)) (.var 1)))] }
abbrev wBE : List S := [(.asg (.name 3) (.met .popAt (.sub (.var 0) (.int 0)) [(.int 0)])),
    (.sset (.var 0) (.int 3) (.op .mod (.op .add (.op .add (.op .mul (.sub (.var 0) (.int 3)) (.int 69069)) (.op .mod (.var 3) (.int 2147483629))) (.int 1)) (.int 2147483629))),
    (.sset (.var 0) (.int 1) (.op .mul (.var 3) (.bi .int [(.cmp .ge (.var 3) (.op .pow (.int 10) (.int 18)))])))]
abbrev frE (b : Int) (x : Option Val) : Fr := [some (.ref 1), some (vi b), none, x, none]
theorem wBE_ok {x b : Int} {x3 : Option Val} : ∃ r' bl', 0 ≤ bl' ∧ bl' < 2147483647 ∧ denSs Γ gl wBE (frE b x3) (dk2 (x :: cells) 0 c bl) = some ((.next, frE b (some (vi x))), dk2 cells r' c bl') := by
  refine ⟨x * (if decide ((10 : Int) ^ 18 ≤ x) = true then 1 else 0), (bl * 69069 + x % 2147483629 + 1) % 2147483629, Int.emod_nonneg _ (by decide), Int.lt_of_lt_of_le (Int.emod_lt_of_pos _ (by decide)) (by decide), ?_⟩
  refine (ss_next (h' := dk2 cells 0 c bl) (s_asg (v := vi x) (e_met (d2_at rfl rfl) rfl (es_cons e_int es_nil) d2_pop))).trans ?_
  refine (ss_next (σ' := frE b (some (vi x))) (h' := dk2 cells 0 c ((bl * 69069 + x % 2147483629 + 1) % 2147483629)) (s_sset (h3 := dk2 cells 0 c bl) (v := vi ((bl * 69069 + x % 2147483629 + 1) % 2147483629)) ?_ (e_var rfl) e_int rfl)).trans ?_
  · exact e_op (e_op (e_op (e_op (d2_at rfl rfl) e_int (op_mul (.inr (by decide)))) (e_op (e_var rfl) e_int (op_mod (by decide))) (op_add _ _)) e_int (op_add _ _)) e_int (op_mod (by decide))
  refine (ss_next (σ' := frE b (some (vi x))) (s_sset (h3 := dk2 cells 0 c ((bl * 69069 + x % 2147483629 + 1) % 2147483629)) (v := vi (x * (if decide ((10 : Int) ^ 18 ≤ x) = true then 1 else 0))) ?_ (e_var rfl) e_int rfl)).trans ?_
  · refine e_op (e_var rfl) (e_bi (u := vi (if decide ((10 : Int) ^ 18 ≤ x) = true then 1 else 0)) (es_cons (e_cmp (e_var rfl) (e_op e_int e_int rfl) rfl) es_nil) ?_) (op_mul (.inr ?_))
    · show biV .int _ [vb (decide ((10 : Int) ^ 18 ≤ x))] = _
      cases decide ((10 : Int) ^ 18 ≤ x) <;> rfl
    · split <;> decide
  rw [denSs]; rfl
theorem whE_ok {b : Int} : ∀ (cells : List Int) (k : Nat) (rest bl : Int) (x3 : Option Val), cells.length < k → 0 ≤ bl → bl < 2147483647 → ∃ cells' r' bl' x3', cells'.length ≤ cells.length ∧ 0 ≤ bl' ∧ bl' < 2147483647 ∧
    whileD false 2 (denE Γ gl w2C) (denSs Γ gl wBE) k (frE b x3) (dk2 cells rest c bl) = some ((.next, frE b x3'), dk2 cells' r' c bl')
  | cells, 0, rest, bl, x3, hk, _, _ => absurd hk (Nat.not_lt_zero _)
  | cells, k + 1, rest, bl, x3, hk, h1, h2 => by
    by_cases hr : rest = 0
    · subst hr
      cases cells with
      | nil => exact ⟨[], 0, bl, x3, Nat.le_refl _, h1, h2, by rw [whileD, w2C_cells rfl]; rfl⟩
      | cons x cells =>
        obtain ⟨r', bl', a1, a2, a3⟩ := wBE_ok (Γ := Γ) (gl := gl) (cells := cells) (c := c) (bl := bl) (x := x) (b := b) (x3 := x3)
        obtain ⟨cells2, r2, bl2, x2, b1, b2, b3, b4⟩ := whE_ok (b := b) cells k r' bl' (some (vi x)) (by simpa using hk) a1 a2
        refine ⟨cells2, r2, bl2, x2, Nat.le_succ_of_le b1, b2, b3, ?_⟩
        rw [whileD, w2C_cells rfl]
        show ((denSs Γ gl wBE _ _).bind _) = _
        rw [a3]
        exact b4
    · exact ⟨cells, rest, bl, x3, Nat.le_refl _, h1, h2, by rw [whileD, w2C_rest rfl hr]; rfl⟩
theorem nxE_ok {b : Int} {x3 : Option Val} (h1 : 1 ≤ b) (h2 : b < 1073741824) (hc : c < 1000000000) (b0 : 0 ≤ bl) (b1 : bl < 2147483647) : ∃ r σ' rest' c' bl', 0 ≤ r ∧ r < b ∧ c' ≤ c + 1 ∧ 0 ≤ bl' ∧ bl' < 2147483647 ∧
    denSs Γ gl (nextE.body.drop 1) (frE b x3) (dk2 cells rest c bl) = some ((.ret (vi r), σ'), dk2 cells rest' c' bl') := by
  have hb : 0 < b := by omega
  have ei : ∀ {ss : List S}, denS Γ gl (.ifs (.cmp .gt (.sub (.var 0) (.int 1)) (.int 0)) ss []) (frE b x3) (dk2 cells rest c bl) = if decide (0 < rest) then denSs Γ gl ss (frE b x3) (dk2 cells rest c bl) else denSs Γ gl [] (frE b x3) (dk2 cells rest c bl) := s_if (e_cmp (d2_at rfl rfl) e_int rfl)
  by_cases hr : 0 < rest
  · refine ⟨rest % b, [some (.ref 1), some (vi b), none, x3, some (vi (rest % b))], rest / b, c, bl, Int.emod_nonneg _ (by omega), Int.emod_lt_of_pos _ hb, Nat.le_succ _, b0, b1, ?_⟩
    refine ss_ret (Eq.trans ei ?_)
    rw [decide_eq_true hr, if_pos rfl]
    refine (ss_next (s_asg (v := vi (rest % b)) (e_op (d2_at rfl rfl) (e_var rfl) (op_mod hb)))).trans ?_
    refine (ss_next (h' := dk2 cells (rest / b) c bl) (s_sset (v := vi (rest / b)) (e_op (d2_at rfl rfl) (e_var rfl) (op_fdiv ⟨hb, h2⟩)) (e_var rfl) e_int rfl)).trans ?_
    exact ss_ret (s_ret (e_var rfl))
  · have ei2 : denSs Γ gl (nextE.body.drop 1) (frE b x3) (dk2 cells rest c bl) = denSs Γ gl (nextE.body.drop 2) (frE b x3) (dk2 cells rest c bl) := ss_next (Eq.trans ei (by
      rw [decide_eq_false hr, if_neg (by decide), denSs]))
    have ei3 : denSs Γ gl (nextE.body.drop 2) (frE b x3) (dk2 cells rest c bl) = denSs Γ gl (nextE.body.drop 3) (frE b x3) (dk2 cells rest (c + 1) bl) := ss_next (s_sset (e_op (d2_at rfl rfl) e_int (op_add _ _)) (e_var rfl) e_int rfl)
    rw [ei2, ei3]
    generalize hC : ((c + 1 : Nat) : Int) = C
    have hC0 : 0 ≤ C ∧ C < 2000000000 := by omega
    have at2 : ∀ {σ : Fr} {bl : Int}, σ[0]? = some (some (.ref 1)) → denE Γ gl (.sub (.var 0) (.int 2)) σ (dk2 cells rest (c + 1) bl) = some (vi C, dk2 cells rest (c + 1) bl) := fun e => by
      rw [← hC]; exact d2_at e rfl
    generalize hz : (bl * 48271 + C * C * 40692 + 7) % 2147483587 = z
    have z0 : 0 ≤ z := by rw [← hz]; exact Int.emod_nonneg _ (by decide)
    have z1 : z < 2147483587 := by rw [← hz]; exact Int.emod_lt_of_pos _ (by decide)
    refine ⟨z * z % 2147483563 / 16 % b, [some (.ref 1), some (vi b), some (vi z), x3, none], rest, c + 1, bl, Int.emod_nonneg _ (by omega), Int.emod_lt_of_pos _ hb, Nat.le_refl _, b0, b1, ?_⟩
    refine (ss_next (s_asg (v := vi z) (h1 := dk2 cells rest (c + 1) bl) ?_)).trans ?_
    · exact e_op (e_op (e_op (e_op (d2_at rfl rfl) e_int (op_mul (.inr (by decide)))) (e_op (e_op (at2 rfl) (at2 rfl) (op_mul (.inl ⟨by omega, by omega⟩))) e_int (op_mul (.inr (by decide)))) (op_add _ _)) e_int (op_add _ _)) e_int (by rw [op_mod (by decide), hz])
    refine ss_ret (s_ret ?_)
    exact e_op (e_op (e_op (e_op (e_var rfl) (e_var rfl) (op_mul (.inl ⟨by omega, by omega⟩))) e_int (op_mod (by decide))) e_int (op_fdiv (by decide))) (e_var rfl) (op_mod hb)
theorem nextE_sp {T : List Df} {f m : Nat} (e : T[f]? = some nextE) : SpX dkE (callN T gl (m + 1)) f (fun (b : Int) => [eI b]) eI drawM := by
  intro b n Q w dq rest d
  obtain ⟨cells, r0, c, bl⟩ := dq
  obtain ⟨h1, h2, h3, h4⟩ := w
  have hc : c < 1000000000 := Nat.lt_of_le_of_lt d.cnt h1
  obtain ⟨cells', r', bl', x3', a1, a2, a3, a4⟩ := whE_ok (Γ := callN T gl m) (gl := gl) (c := c) (b := b) cells wfuel r0 bl none (Nat.lt_of_le_of_lt d.len (by decide)) d.b0 d.b1
  obtain ⟨r, σ', r2, c2, bl2, q1, q2, q3, q4, q5, q6⟩ := nxE_ok (Γ := callN T gl m) (gl := gl) (cells := cells') (rest := r') (c := c) (bl := bl') (b := b) (x3 := x3') h2 h3 hc a2 a3
  refine ⟨r, n + 1, (cells', r2, c2, bl2), ?_, ⟨Nat.le_trans a1 d.len, Nat.le_trans q3 (Nat.succ_le_succ d.cnt), q4, q5⟩, h4 r q1 q2⟩
  have body : denSs (callN T gl m) gl nextE.body (frE b none) (dk2 cells r0 c bl) = some ((.ret (vi r), σ'), dk2 cells' r2 c2 bl2) := by
    show denSs (callN T gl m) gl ((.whl false w2C wBE) :: nextE.body.drop 1) _ _ = _
    rw [ss_next (s := .whl false w2C wBE) (by rw [denS]; exact a4)]
    exact q6
  show (T[f]?.bind fun d => runDf (callN T gl m) gl d _ _) = _
  rw [e]
  have ec0 : cutH 2 (dk2 cells r0 c bl ++ rest) = some (dk2 cells r0 c bl) := dkE.cut (cells, r0, c, bl) rest
  refine Eq.trans (runDf_sub (d := nextE) (n := 2) (args := [.ref 1, vi b]) (args' := [.ref 1, vi b]) rfl rfl (by rw [List.length_append]; exact Nat.le_add_right 2 _) rfl ec0) ?_
  show (denSs (callN T gl m) gl nextE.body (frE b none) (dk2 cells r0 c bl)).bind _ = _
  rw [body]
  show (cutH 2 (dk2 cells' r2 c2 bl2)).bind _ = _
  have ec : cutH 2 (dk2 cells' r2 c2 bl2 ++ []) = some (dk2 cells' r2 c2 bl2) := dkE.cut (cells', r2, c2, bl2) []
  rw [List.append_nil] at ec
  rw [ec]
  rfl
theorem deckE_ok {ns : List Int} (hl : ns.length ≤ 63) : ∃ s : dkE.St, dkE.ok 0 s ∧ runDf Γ gl deckE [.scr ns] [] = some (.ref dkE.at_, dkE.hm s) := by
  let ab : List Int := ns.map fun i => if i < 0 then -i else i
  have lab : ab.length ≤ 63 := by rw [List.length_map]; exact hl
  refine ⟨(ab, 0, 0, 5 + 31 * (ns.length : Int)), ⟨lab, Nat.le_refl _, by show 0 ≤ 5 + 31 * (ns.length : Int); omega, by show 5 + 31 * (ns.length : Int) < 2147483647; omega⟩, ?_⟩
  have ea : denN Γ gl (.comp (.bi .abs [(.var 1)]) (.name 1) (.e (.fz (.slc (.var 0) none (some (.int 63))))) none [1]) [some (.scr ns), none] [] = some (.lst (ab.map vi), []) := by
    refine n_comp (is := ns.map fun i => .one (vi i)) (g := none) (h1 := []) ?_ ?_
    · rw [denI, d2_scr hl]
      show some ((((ns.map PyData.int).map fun d => Itm.one (.dat d)), none), _) = _
      rw [List.map_map]
      rfl
    · have := compD_filter (g := none) (h := []) (F := fun x h => (tgItm (.name 1) x (wipeF [some (.scr ns), none] [1])).bind fun σ' => (denC Γ gl none σ' h).bind fun q => if q.1 then (denE Γ gl (.bi .abs [(.var 1)]) σ' q.2).map fun r => (some r.1, r.2) else some (none, q.2)) rfl (fun i : Int => Itm.one (vi i)) (fun _ => true) (fun i => vi (if i < 0 then -i else i)) ns [] fun i _ => by
          have e1 : denE Γ gl (.bi .abs [(.var 1)]) [some (.scr ns), some (vi i)] [] = some (vi (if i < 0 then -i else i), []) := e_bi (es_cons (e_var rfl) es_nil) rfl
          show ((denC Γ gl none [some (.scr ns), some (vi i)] []).bind fun q => if q.1 then (denE Γ gl (.bi .abs [(.var 1)]) [some (.scr ns), some (vi i)] q.2).map fun r => (some r.1, r.2) else some (none, q.2)) = _
          rw [denC]
          simp only [Option.bind_some, ↓reduceIte, e1, Option.map_some]
      rw [this, List.nil_append, List.filter_eq_self.mpr (fun _ _ => rfl)]
      show some ((ns.map fun i => vi (if i < 0 then -i else i)), _) = some ((ns.map fun i => if i < 0 then -i else i).map vi, _)
      rw [List.map_map]
      rfl
  have body : denSs Γ gl deckE.body [some (.scr ns), none] [] = some ((.ret (.ref 1), [some (.scr ns), none]), dk2 ab 0 0 (5 + 31 * (ns.length : Int))) := by
    refine ss_ret (s_ret (e_nw (h1 := [Ob.lst (ab.map vi)]) ?_))
    refine n_lst (vs := [.ref 0, vi 0, vi 0, vi (5 + 31 * (ns.length : Int))]) (es_cons (e_nw ea) (es_cons e_int (es_cons e_int (es_cons (e_op e_int (e_op e_int (e_bi (u := vi (ns.length : Int)) (es_cons (e_var rfl) es_nil) (by show some (vi ((ns.map vi).length : Int)) = _; rw [List.length_map])) (op_mul (.inl (by decide)))) (op_add _ _)) es_nil)))) (show 4 ≤ sizeLine by decide)
  show ((denSs Γ gl deckE.body [some (.scr ns), none] []).bind fun r => (resV r.1.1).map fun v => (v, r.2)) = _
  rw [body]
  rfl
/-! ### draws: D -/
def nextD : Df := { np := 2, ns := 4, md := .sub 2, body := [(.whl false w2C [(.asg (.name 2) (.met .popAt (.sub (.var 0) (.int 0)) [(.int 0)])),
    (.sset (.var 0) (.int 3) (.op .mod (.op .add (.op .add (.op .mul (.sub (.var 0) (.int 3)) (.int 48271)) (.var 2)) (.int 7)) (.int 2147483647))),
    (.sset (.var 0) (.int 1) (.op .mul (.var 2) (.bi .int [(.cmp .ge (.var 2) (.op .pow (.int 10) (.int 18)))])))]),
    (.ifs (.cmp .gt (.sub (.var 0) (.int 1)) (.int 0)) [(.asg (.name 3) (.op .mod (.sub (.var 0) (.int 1)) (.var 1))),
    (.sset (.var 0) (.int 1) (.op .fdiv (.sub (.var 0) (.int 1)) (.var 1))),
    (.ret (.var 3))] []),
    (.sset (.var 0) (.int 2) (.op .add (.sub (.var 0) (.int 2)) (.int 1))),
    (.sset (.var 0) (.int 3) (.op .mod (.op .add (.op .add (.op .mul (.sub (.var 0) (.int 3)) (.int 69621)) (.op .mul (.int 30011) (.sub (.var 0) (.int 2)))) (.int 12345)) (.int 2147483647))),
    (.ret (.op .mod (.op .fdiv (.op .mod (.op .mul (.sub (.var 0) (.int 3)) (.sub (.var 0) (.int 3))) (.int 2147483629)) (.int 8)) (.var 1)))] }
abbrev wBD : List S := [(.asg (.name 2) (.met .popAt (.sub (.var 0) (.int 0)) [(.int 0)])),
    (.sset (.var 0) (.int 3) (.op .mod (.op .add (.op .add (.op .mul (.sub (.var 0) (.int 3)) (.int 48271)) (.var 2)) (.int 7)) (.int 2147483647))),
    (.sset (.var 0) (.int 1) (.op .mul (.var 2) (.bi .int [(.cmp .ge (.var 2) (.op .pow (.int 10) (.int 18)))])))]
abbrev frD (b : Int) (x : Option Val) : Fr := [some (.ref 1), some (vi b), x, none]
theorem wBD_ok {x b : Int} {x3 : Option Val} : ∃ r' bl', 0 ≤ bl' ∧ bl' < 2147483647 ∧ denSs Γ gl wBD (frD b x3) (dk2 (x :: cells) 0 c bl) = some ((.next, frD b (some (vi x))), dk2 cells r' c bl') := by
  refine ⟨x * (if decide ((10 : Int) ^ 18 ≤ x) = true then 1 else 0), (bl * 48271 + x + 7) % 2147483647, Int.emod_nonneg _ (by decide), Int.lt_of_lt_of_le (Int.emod_lt_of_pos _ (by decide)) (by decide), ?_⟩
  refine (ss_next (h' := dk2 cells 0 c bl) (s_asg (v := vi x) (e_met (d2_at rfl rfl) rfl (es_cons e_int es_nil) d2_pop))).trans ?_
  refine (ss_next (σ' := frD b (some (vi x))) (h' := dk2 cells 0 c ((bl * 48271 + x + 7) % 2147483647)) (s_sset (h3 := dk2 cells 0 c bl) (v := vi ((bl * 48271 + x + 7) % 2147483647)) ?_ (e_var rfl) e_int rfl)).trans ?_
  · exact e_op (e_op (e_op (e_op (d2_at rfl rfl) e_int (op_mul (.inr (by decide)))) (e_var rfl) (op_add _ _)) e_int (op_add _ _)) e_int (op_mod (by decide))
  refine (ss_next (σ' := frD b (some (vi x))) (s_sset (h3 := dk2 cells 0 c ((bl * 48271 + x + 7) % 2147483647)) (v := vi (x * (if decide ((10 : Int) ^ 18 ≤ x) = true then 1 else 0))) ?_ (e_var rfl) e_int rfl)).trans ?_
  · refine e_op (e_var rfl) (e_bi (u := vi (if decide ((10 : Int) ^ 18 ≤ x) = true then 1 else 0)) (es_cons (e_cmp (e_var rfl) (e_op e_int e_int rfl) rfl) es_nil) ?_) (op_mul (.inr ?_))
    · show biV .int _ [vb (decide ((10 : Int) ^ 18 ≤ x))] = _
      cases decide ((10 : Int) ^ 18 ≤ x) <;> rfl
    · split <;> decide
  rw [denSs]; rfl
theorem whD_ok {b : Int} : ∀ (cells : List Int) (k : Nat) (rest bl : Int) (x3 : Option Val), cells.length < k → 0 ≤ bl → bl < 2147483647 → ∃ cells' r' bl' x3', cells'.length ≤ cells.length ∧ 0 ≤ bl' ∧ bl' < 2147483647 ∧
    whileD false 2 (denE Γ gl w2C) (denSs Γ gl wBD) k (frD b x3) (dk2 cells rest c bl) = some ((.next, frD b x3'), dk2 cells' r' c bl')
  | cells, 0, rest, bl, x3, hk, _, _ => absurd hk (Nat.not_lt_zero _)
  | cells, k + 1, rest, bl, x3, hk, h1, h2 => by
    by_cases hr : rest = 0
    · subst hr
      cases cells with
      | nil => exact ⟨[], 0, bl, x3, Nat.le_refl _, h1, h2, by rw [whileD, w2C_cells rfl]; rfl⟩
      | cons x cells =>
        obtain ⟨r', bl', a1, a2, a3⟩ := wBD_ok (Γ := Γ) (gl := gl) (cells := cells) (c := c) (bl := bl) (x := x) (b := b) (x3 := x3)
        obtain ⟨cells2, r2, bl2, x2, b1, b2, b3, b4⟩ := whD_ok (b := b) cells k r' bl' (some (vi x)) (by simpa using hk) a1 a2
        refine ⟨cells2, r2, bl2, x2, Nat.le_succ_of_le b1, b2, b3, ?_⟩
        rw [whileD, w2C_cells rfl]
        show ((denSs Γ gl wBD _ _).bind _) = _
        rw [a3]
        exact b4
    · exact ⟨cells, rest, bl, x3, Nat.le_refl _, h1, h2, by rw [whileD, w2C_rest rfl hr]; rfl⟩
theorem nxD_ok {b : Int} {x3 : Option Val} (h1 : 1 ≤ b) (h2 : b < 1073741824) (hc : c < 1000000000) (b0 : 0 ≤ bl) (b1 : bl < 2147483647) : ∃ r σ' rest' c' bl', 0 ≤ r ∧ r < b ∧ c' ≤ c + 1 ∧ 0 ≤ bl' ∧ bl' < 2147483647 ∧
    denSs Γ gl (nextD.body.drop 1) (frD b x3) (dk2 cells rest c bl) = some ((.ret (vi r), σ'), dk2 cells rest' c' bl') := by
  have hb : 0 < b := by omega
  have ei : ∀ {ss : List S}, denS Γ gl (.ifs (.cmp .gt (.sub (.var 0) (.int 1)) (.int 0)) ss []) (frD b x3) (dk2 cells rest c bl) = if decide (0 < rest) then denSs Γ gl ss (frD b x3) (dk2 cells rest c bl) else denSs Γ gl [] (frD b x3) (dk2 cells rest c bl) := s_if (e_cmp (d2_at rfl rfl) e_int rfl)
  by_cases hr : 0 < rest
  · refine ⟨rest % b, [some (.ref 1), some (vi b), x3, some (vi (rest % b))], rest / b, c, bl, Int.emod_nonneg _ (by omega), Int.emod_lt_of_pos _ hb, Nat.le_succ _, b0, b1, ?_⟩
    refine ss_ret (Eq.trans ei ?_)
    rw [decide_eq_true hr, if_pos rfl]
    refine (ss_next (s_asg (v := vi (rest % b)) (e_op (d2_at rfl rfl) (e_var rfl) (op_mod hb)))).trans ?_
    refine (ss_next (h' := dk2 cells (rest / b) c bl) (s_sset (v := vi (rest / b)) (e_op (d2_at rfl rfl) (e_var rfl) (op_fdiv ⟨hb, h2⟩)) (e_var rfl) e_int rfl)).trans ?_
    exact ss_ret (s_ret (e_var rfl))
  · have ei2 : denSs Γ gl (nextD.body.drop 1) (frD b x3) (dk2 cells rest c bl) = denSs Γ gl (nextD.body.drop 2) (frD b x3) (dk2 cells rest c bl) := ss_next (Eq.trans ei (by
      rw [decide_eq_false hr, if_neg (by decide), denSs]))
    have ei3 : denSs Γ gl (nextD.body.drop 2) (frD b x3) (dk2 cells rest c bl) = denSs Γ gl (nextD.body.drop 3) (frD b x3) (dk2 cells rest (c + 1) bl) := ss_next (s_sset (e_op (d2_at rfl rfl) e_int (op_add _ _)) (e_var rfl) e_int rfl)
    rw [ei2, ei3]
    generalize hC : ((c + 1 : Nat) : Int) = C
    have hC0 : 0 ≤ C ∧ C < 2000000000 := by omega
    have at2 : ∀ {σ : Fr} {bl : Int}, σ[0]? = some (some (.ref 1)) → denE Γ gl (.sub (.var 0) (.int 2)) σ (dk2 cells rest (c + 1) bl) = some (vi C, dk2 cells rest (c + 1) bl) := fun e => by
      rw [← hC]; exact d2_at e rfl
    generalize hz : (bl * 69621 + 30011 * C + 12345) % 2147483647 = z
    have z0 : 0 ≤ z := by rw [← hz]; exact Int.emod_nonneg _ (by decide)
    have z1 : z < 2147483647 := by rw [← hz]; exact Int.emod_lt_of_pos _ (by decide)
    refine ⟨z * z % 2147483629 / 8 % b, [some (.ref 1), some (vi b), x3, none], rest, c + 1, z, Int.emod_nonneg _ (by omega), Int.emod_lt_of_pos _ hb, Nat.le_refl _, z0, z1, ?_⟩
    refine (ss_next (σ' := frD b x3) (h' := dk2 cells rest (c + 1) z) (s_sset (h3 := dk2 cells rest (c + 1) bl) (v := vi z) ?_ (e_var rfl) e_int rfl)).trans ?_
    · exact e_op (e_op (e_op (e_op (d2_at rfl rfl) e_int (op_mul (.inr (by decide)))) (e_op e_int (at2 rfl) (op_mul (.inl (by decide)))) (op_add _ _)) e_int (op_add _ _)) e_int (by rw [op_mod (by decide), hz])
    refine ss_ret (s_ret ?_)
    exact e_op (e_op (e_op (e_op (d2_at rfl rfl) (d2_at rfl rfl) (op_mul (.inl ⟨by omega, by omega⟩))) e_int (op_mod (by decide))) e_int (op_fdiv (by decide))) (e_var rfl) (op_mod hb)
theorem nextD_sp {T : List Df} {f m : Nat} (e : T[f]? = some nextD) : SpX dkE (callN T gl (m + 1)) f (fun (b : Int) => [eI b]) eI drawM := by
  intro b n Q w dq rest d
  obtain ⟨cells, r0, c, bl⟩ := dq
  obtain ⟨h1, h2, h3, h4⟩ := w
  have hc : c < 1000000000 := Nat.lt_of_le_of_lt d.cnt h1
  obtain ⟨cells', r', bl', x3', a1, a2, a3, a4⟩ := whD_ok (Γ := callN T gl m) (gl := gl) (c := c) (b := b) cells wfuel r0 bl none (Nat.lt_of_le_of_lt d.len (by decide)) d.b0 d.b1
  obtain ⟨r, σ', r2, c2, bl2, q1, q2, q3, q4, q5, q6⟩ := nxD_ok (Γ := callN T gl m) (gl := gl) (cells := cells') (rest := r') (c := c) (bl := bl') (b := b) (x3 := x3') h2 h3 hc a2 a3
  refine ⟨r, n + 1, (cells', r2, c2, bl2), ?_, ⟨Nat.le_trans a1 d.len, Nat.le_trans q3 (Nat.succ_le_succ d.cnt), q4, q5⟩, h4 r q1 q2⟩
  have body : denSs (callN T gl m) gl nextD.body (frD b none) (dk2 cells r0 c bl) = some ((.ret (vi r), σ'), dk2 cells' r2 c2 bl2) := by
    show denSs (callN T gl m) gl ((.whl false w2C wBD) :: nextD.body.drop 1) _ _ = _
    rw [ss_next (s := .whl false w2C wBD) (by rw [denS]; exact a4)]
    exact q6
  show (T[f]?.bind fun d => runDf (callN T gl m) gl d _ _) = _
  rw [e]
  have ec0 : cutH 2 (dk2 cells r0 c bl ++ rest) = some (dk2 cells r0 c bl) := dkE.cut (cells, r0, c, bl) rest
  refine Eq.trans (runDf_sub (d := nextD) (n := 2) (args := [.ref 1, vi b]) (args' := [.ref 1, vi b]) rfl rfl (by rw [List.length_append]; exact Nat.le_add_right 2 _) rfl ec0) ?_
  show (denSs (callN T gl m) gl nextD.body (frD b none) (dk2 cells r0 c bl)).bind _ = _
  rw [body]
  show (cutH 2 (dk2 cells' r2 c2 bl2)).bind _ = _
  have ec : cutH 2 (dk2 cells' r2 c2 bl2 ++ []) = some (dk2 cells' r2 c2 bl2) := dkE.cut (cells', r2, c2, bl2) []
  rw [List.append_nil] at ec
  rw [ec]
  rfl
theorem deckD_ok {ns : List Int} (hl : ns.length ≤ 63) : ∃ s : dkE.St, dkE.ok 0 s ∧ runDf Γ gl deckD [.scr ns] [] = some (.ref dkE.at_, dkE.hm s) := by
  let ab : List Int := ns.map fun i => if i < 0 then -i else i
  have lab : ab.length ≤ 63 := by rw [List.length_map]; exact hl
  refine ⟨(ab, 0, 0, 11 + 37 * (ns.length : Int)), ⟨lab, Nat.le_refl _, by show 0 ≤ 11 + 37 * (ns.length : Int); omega, by show 11 + 37 * (ns.length : Int) < 2147483647; omega⟩, ?_⟩
  have ea : denN Γ gl (.comp (.bi .abs [(.var 1)]) (.name 1) (.e (.fz (.slc (.var 0) none (some (.int 63))))) none [1]) [some (.scr ns), none] [] = some (.lst (ab.map vi), []) := by
    refine n_comp (is := ns.map fun i => .one (vi i)) (g := none) (h1 := []) ?_ ?_
    · rw [denI, d2_scr hl]
      show some ((((ns.map PyData.int).map fun d => Itm.one (.dat d)), none), _) = _
      rw [List.map_map]
      rfl
    · have := compD_filter (g := none) (h := []) (F := fun x h => (tgItm (.name 1) x (wipeF [some (.scr ns), none] [1])).bind fun σ' => (denC Γ gl none σ' h).bind fun q => if q.1 then (denE Γ gl (.bi .abs [(.var 1)]) σ' q.2).map fun r => (some r.1, r.2) else some (none, q.2)) rfl (fun i : Int => Itm.one (vi i)) (fun _ => true) (fun i => vi (if i < 0 then -i else i)) ns [] fun i _ => by
          have e1 : denE Γ gl (.bi .abs [(.var 1)]) [some (.scr ns), some (vi i)] [] = some (vi (if i < 0 then -i else i), []) := e_bi (es_cons (e_var rfl) es_nil) rfl
          show ((denC Γ gl none [some (.scr ns), some (vi i)] []).bind fun q => if q.1 then (denE Γ gl (.bi .abs [(.var 1)]) [some (.scr ns), some (vi i)] q.2).map fun r => (some r.1, r.2) else some (none, q.2)) = _
          rw [denC]
          simp only [Option.bind_some, ↓reduceIte, e1, Option.map_some]
      rw [this, List.nil_append, List.filter_eq_self.mpr (fun _ _ => rfl)]
      show some ((ns.map fun i => vi (if i < 0 then -i else i)), _) = some ((ns.map fun i => if i < 0 then -i else i).map vi, _)
      rw [List.map_map]
      rfl
  have body : denSs Γ gl deckD.body [some (.scr ns), none] [] = some ((.ret (.ref 1), [some (.scr ns), none]), dk2 ab 0 0 (11 + 37 * (ns.length : Int))) := by
    refine ss_ret (s_ret (e_nw (h1 := [Ob.lst (ab.map vi)]) ?_))
    refine n_lst (vs := [.ref 0, vi 0, vi 0, vi (11 + 37 * (ns.length : Int))]) (es_cons (e_nw ea) (es_cons e_int (es_cons e_int (es_cons (e_op e_int (e_op e_int (e_bi (u := vi (ns.length : Int)) (es_cons (e_var rfl) es_nil) (by show some (vi ((ns.map vi).length : Int)) = _; rw [List.length_map])) (op_mul (.inl (by decide)))) (op_add _ _)) es_nil)))) (show 4 ≤ sizeLine by decide)
  show ((denSs Γ gl deckD.body [some (.scr ns), none] []).bind fun r => (resV r.1.1).map fun v => (v, r.2)) = _
  rw [body]
  rfl
end
end Mi
end
/-! ## MiW -/
section
set_option maxHeartbeats 2000000
/-! MiW: facts on the plain functions. -/
namespace Mi
open PySem
variable {α β γ δ ε τ A J ρ : Type}
theorem liftM_some (v : α) : liftM (some v) = retM v := by
  funext n Q
  exact propext ⟨fun ⟨w, e, q⟩ => by cases e; exact q, fun q => ⟨v, rfl, q⟩⟩
theorem bindM_ret (v : α) (k : α → WM β) : bindM (retM v) k = k v := rfl
theorem bindM_assoc (m : WM α) (k : α → WM β) (l : β → WM γ) : bindM (bindM m k) l = bindM m fun x => bindM (k x) l := rfl
theorem retM_app (v : α) (n : Nat) (Q : α → Nat → Prop) : retM v n Q = Q v n := rfl
theorem bindM_app (m : WM α) (k : α → WM β) (n : Nat) (Q : β → Nat → Prop) : bindM m k n Q = m n fun x n' => k x n' Q := rfl
theorem thenM_go (rr : τ → ρ) (K : A → WM ρ) (a : A) : thenM rr K (.go a) = K a := rfl
theorem thenM_ret (rr : τ → ρ) (K : A → WM ρ) (v : τ) : thenM rr K (.ret v) = retM (rr v) := rfl
theorem thenS_go (rr : τ → ρ) (K : A → Option ρ) (a : A) : thenS rr K (.go a) = K a := rfl
theorem thenS_ret (rr : τ → ρ) (K : A → Option ρ) (v : τ) : thenS rr K (.ret v) = some (rr v) := rfl
/-- a loop that draws: every turn goes on, K draws at most -/
theorem forM_ok {B : α → A → WM (Fw A τ)} (I : A → Prop) (K N : Nat) : ∀ (xs : List α) (a : A) (n : Nat) (Q : Fw A τ → Nat → Prop),
    (∀ x ∈ xs, ∀ a n, I a → n ≤ N → ∀ Q : Fw A τ → Nat → Prop, (∀ a' n', I a' → n' ≤ n + K → Q (.go a') n') → B x a n Q) → I a → n + K * xs.length ≤ N + K → (∀ a' n', I a' → n' ≤ n + K * xs.length → Q (.go a') n') → forM B xs a n Q
  | [], a, n, Q, _, i, _, q => q a n i (Nat.le_add_right _ _)
  | x :: xs, a, n, Q, H, i, hn, q => by
    have e : K * (x :: xs).length = K + K * xs.length := by rw [List.length_cons, Nat.mul_succ, Nat.add_comm]
    rw [e] at hn q
    show B x a n _
    refine H x List.mem_cons_self a n i (by omega) _ fun a' n' i' hn' => ?_
    exact forM_ok I K N xs a' n' Q (fun y hy => H y (List.mem_cons_of_mem _ hy)) i' (by omega) fun a2 n2 i2 h2 => q a2 n2 i2 (by omega)
/-- the same, with the number of the turn -/
theorem forM_ix {B : α → A → WM (Fw A τ)} (I : Nat → A → Prop) (K N : Nat) : ∀ (xs : List α) (i0 : Nat) (a : A) (n : Nat) (Q : Fw A τ → Nat → Prop),
    (∀ k x, xs[k]? = some x → ∀ a n, I (i0 + k) a → n ≤ N → ∀ Q : Fw A τ → Nat → Prop, (∀ a' n', I (i0 + k + 1) a' → n' ≤ n + K → Q (.go a') n') → B x a n Q) → I i0 a → n + K * xs.length ≤ N + K → (∀ a' n', I (i0 + xs.length) a' → n' ≤ n + K * xs.length → Q (.go a') n') → forM B xs a n Q
  | [], i0, a, n, Q, _, i, _, q => q a n i (Nat.le_add_right _ _)
  | x :: xs, i0, a, n, Q, H, i, hn, q => by
    have e : K * (x :: xs).length = K + K * xs.length := by rw [List.length_cons, Nat.mul_succ, Nat.add_comm]
    rw [e] at hn q
    show B x a n _
    refine H 0 x rfl a n i (by omega) _ fun a' n' i' hn' => ?_
    refine forM_ix I K N xs (i0 + 1) a' n' Q (fun k y hy a n ia hn Q q => H (k + 1) y (by simpa using hy) a n (by rw [show i0 + (k + 1) = i0 + 1 + k by omega]; exact ia) hn Q fun a2 n2 i2 h2 => q a2 n2 (by rw [show i0 + 1 + k + 1 = i0 + (k + 1) + 1 by omega]; exact i2) h2) i' (by omega) fun a2 n2 i2 h2 => q a2 n2 (by rw [List.length_cons, show i0 + (xs.length + 1) = i0 + 1 + xs.length by omega]; exact i2) (by omega)
/-- a pure loop that always goes on -/
theorem forS_fold {B : α → A → Option (Fw A τ)} (f : A → α → A) : ∀ (xs : List α) (a : A), (∀ x ∈ xs, ∀ a, B x a = some (.go (f a x))) → forS B xs a = some (.go (xs.foldl f a))
  | [], a, _ => rfl
  | x :: xs, a, H => by
    unfold forS
    rw [H x List.mem_cons_self a]
    exact forS_fold f xs (f a x) fun y hy => H y (List.mem_cons_of_mem _ hy)
theorem forS_inv {B : α → A → Option (Fw A τ)} (I : Nat → A → Prop) : ∀ (xs : List α) (i0 : Nat) (a : A), (∀ k x, xs[k]? = some x → ∀ a, I (i0 + k) a → ∃ a', B x a = some (.go a') ∧ I (i0 + k + 1) a') → I i0 a → ∃ a', forS B xs a = some (.go a') ∧ I (i0 + xs.length) a'
  | [], i0, a, _, i => ⟨a, rfl, i⟩
  | x :: xs, i0, a, H, i => by
    obtain ⟨a', e, i'⟩ := H 0 x rfl a i
    obtain ⟨a2, e2, i2⟩ := forS_inv I xs (i0 + 1) a' (fun k y hy a ia => by
      obtain ⟨a3, e3, i3⟩ := H (k + 1) y (by simpa using hy) a (by rw [show i0 + (k + 1) = i0 + 1 + k by omega]; exact ia)
      exact ⟨a3, e3, by rw [show i0 + 1 + k + 1 = i0 + (k + 1) + 1 by omega]; exact i3⟩) i'
    refine ⟨a2, ?_, by rw [List.length_cons, show i0 + (xs.length + 1) = i0 + 1 + xs.length by omega]; exact i2⟩
    unfold forS
    rw [e]
    exact e2
/-- a search: the first turn that returns -/
theorem forS_find {B : α → Unit → Option (Fw Unit τ)} (g : α → Option τ) : ∀ (xs : List α), (∀ x ∈ xs, B x () = some (match g x with | some v => .ret v | none => .go ())) → forS B xs () = some (match xs.findSome? g with | some v => .ret v | none => .go ())
  | [], _ => rfl
  | x :: xs, H => by
    unfold forS
    rw [H x List.mem_cons_self, List.findSome?_cons]
    cases g x with
    | some v => rfl
    | none => exact forS_find g xs fun y hy => H y (List.mem_cons_of_mem _ hy)
theorem mapO_some {F : α → Option β} {g : α → β} : ∀ {xs : List α}, (∀ x ∈ xs, F x = some (g x)) → mapO F xs = some (xs.map g)
  | [], _ => rfl
  | x :: xs, H => by
    unfold mapO
    rw [H x List.mem_cons_self, mapO_some fun y hy => H y (List.mem_cons_of_mem _ hy)]
    rfl
theorem compS_some {C : α → Option Bool} {F : α → Option β} {c : α → Bool} {g : α → β} : ∀ {xs : List α}, (∀ x ∈ xs, C x = some (c x)) → (∀ x ∈ xs, c x = true → F x = some (g x)) → compS C F xs = some ((xs.filter c).map g)
  | [], _, _ => rfl
  | x :: xs, H1, H2 => by
    have ih := compS_some (xs := xs) (fun y hy => H1 y (List.mem_cons_of_mem _ hy)) fun y hy => H2 y (List.mem_cons_of_mem _ hy)
    unfold compS
    rw [H1 x List.mem_cons_self]
    cases hc : c x with
    | true =>
      show (F x).bind _ = _
      rw [H2 x List.mem_cons_self hc, List.filter_cons_of_pos hc, ih]; rfl
    | false =>
      show compS C F xs = _
      rw [List.filter_cons_of_neg (by rw [hc]; decide), ih]
theorem compS_map {F : α → Option β} {g : α → β} {xs : List α} (H : ∀ x ∈ xs, F x = some (g x)) : compS (fun _ => some true) F xs = some (xs.map g) := by
  rw [compS_some (c := fun _ => true) (fun _ _ => rfl) fun x hx _ => H x hx, List.filter_eq_self.mpr (fun _ _ => rfl)]
theorem mapO_comp {F : α → Option β} : ∀ {xs : List α}, compS (fun _ => some true) F xs = mapO F xs
  | [] => rfl
  | x :: xs => by
    unfold compS mapO
    rw [mapO_comp (xs := xs)]; rfl
theorem mapO_congr {F G : α → Option β} : ∀ {xs : List α}, (∀ x ∈ xs, F x = G x) → mapO F xs = mapO G xs
  | [], _ => rfl
  | x :: xs, H => by
    unfold mapO
    rw [H x List.mem_cons_self, mapO_congr fun y hy => H y (List.mem_cons_of_mem _ hy)]
theorem compS_pure {g : α → β} {xs : List α} : compS (fun _ => some true) (fun x => some (g x)) xs = some (xs.map g) := compS_map fun _ _ => rfl
theorem compS_filter {c : α → Bool} {g : α → β} {xs : List α} : compS (fun x => some (c x)) (fun x => some (g x)) xs = some ((xs.filter c).map g) := compS_some (fun _ _ => rfl) fun _ _ _ => rfl
def nUp (n : Nat) : List Int := (List.range n).map fun (k : Nat) => (k : Int)
theorem rng1_nat {n : Nat} (h : n ≤ 16777216) : rng1 (n : Int) = some (nUp n) := by
  unfold rng1
  rw [if_pos ⟨Int.le_trans (by decide) (Int.natCast_nonneg n), by rw [Int.toNat_natCast]; exact h⟩, Int.toNat_natCast]; rfl
theorem mem_nUp {n : Nat} {x : Int} : x ∈ nUp n ↔ 0 ≤ x ∧ x < n := by
  unfold nUp
  rw [List.mem_map]
  constructor
  · rintro ⟨k, hk, rfl⟩
    have := List.mem_range.mp hk
    omega
  · rintro ⟨h1, h2⟩
    exact ⟨x.toNat, List.mem_range.mpr (by omega), by omega⟩
theorem nUp_len (n : Nat) : (nUp n).length = n := by unfold nUp; rw [List.length_map, List.length_range]
theorem nUp_get {n k : Nat} (h : k < n) : (nUp n)[k]? = some (k : Int) := by
  unfold nUp
  rw [List.getElem?_map, List.getElem?_range h]; rfl
theorem atI_nat (xs : List α) (i : Nat) : atI xs (i : Int) = xs[i]? := by
  unfold atI ixN
  rw [if_pos (Int.natCast_nonneg i)]
  by_cases h : i < xs.length
  · rw [if_pos (by omega)]; show xs[((i : Int)).toNat]? = _; rw [Int.toNat_natCast]
  · rw [if_neg (by omega), List.getElem?_eq_none (by omega)]; rfl
theorem atI_pos {xs : List α} {i : Int} (h : 0 ≤ i) : atI xs i = xs[i.toNat]? := by
  obtain ⟨k, rfl⟩ : ∃ k : Nat, i = k := ⟨i.toNat, by omega⟩
  rw [atI_nat, Int.toNat_natCast]
theorem atI_lt {xs : List α} {i : Nat} (h : i < xs.length) : atI xs (i : Int) = some xs[i] := by rw [atI_nat, List.getElem?_eq_getElem h]
theorem enumS_get : ∀ (xs : List α) (i k : Nat), (enumS i xs)[k]? = (xs[k]?).map fun x => (((i + k : Nat) : Int), x)
  | [], i, k => by rw [enumS, List.getElem?_nil, List.getElem?_nil]; rfl
  | x :: xs, i, 0 => rfl
  | x :: xs, i, k + 1 => by
    show (enumS (i + 1) xs)[k]? = (xs[k]?).map _
    rw [enumS_get xs (i + 1) k, show i + 1 + k = i + (k + 1) by omega]
theorem enumS_len : ∀ (xs : List α) (i : Nat), (enumS i xs).length = xs.length
  | [], _ => rfl
  | x :: xs, i => by show (enumS (i + 1) xs).length + 1 = _; rw [enumS_len xs (i + 1)]; rfl
theorem mem_enumS {xs : List α} {i : Nat} {p : Int × α} : p ∈ enumS i xs ↔ ∃ k : Nat, xs[k]? = some p.2 ∧ p.1 = ((i + k : Nat) : Int) := by
  constructor
  · intro h
    obtain ⟨k, hk⟩ := List.getElem?_of_mem h
    rw [enumS_get] at hk
    obtain ⟨x, e, rfl⟩ := Option.map_eq_some_iff.mp hk
    exact ⟨k, e, rfl⟩
  · rintro ⟨k, e, e2⟩
    have : (enumS i xs)[k]? = some p := by
      rw [enumS_get, e]
      show some (((i + k : Nat) : Int), p.2) = some p
      rw [← e2]
    exact List.mem_of_getElem? this
theorem enumS_map (f : α → β) : ∀ (xs : List α) (i : Nat), enumS i (xs.map f) = (enumS i xs).map fun p => (p.1, f p.2)
  | [], _ => rfl
  | x :: xs, i => by
    show ((i : Int), f x) :: enumS (i + 1) (xs.map f) = _
    rw [enumS_map f xs (i + 1)]; rfl
theorem catS_le {xs ys : List α} (h : xs.length + ys.length ≤ 16777216) : catS xs ys = some (xs ++ ys) := if_pos h
theorem pushS_lt {xs : List α} {x : α} (h : xs.length < 16777216) : pushS xs x = some (xs ++ [x]) := if_pos h
theorem reprS_le {d : PyData} (h : rsz 12 d ≤ 16777216) : reprS d = some d.shown := if_pos h
theorem sameS_same {d d' : PyData} (e : d = d') (h : rsz 12 d ≤ 16777216) : sameS d d' = some true := by
  subst e
  unfold sameS
  rw [reprS_le h]
  show some (d.shown == d.shown) = _
  rw [beq_self_eq_true]
theorem modS_pos {i j : Int} (h : 0 < j) : modS i j = some (i % j) := if_pos h
/-! bounds of reprs -/
class RzE (f : α → PyData) (ok : α → Prop) (n : outParam Nat) (b : outParam Nat) : Prop where
  le : ∀ x k, ok x → n ≤ k → rsz k (f x) ≤ b
theorem rsz_int {i : Int} {k : Nat} (h : i.natAbs < 10 ^ 60) : rsz (k + 1) (.int i) = 62 := if_pos h
theorem rsz_map {f : α → PyData} {k b : Nat} : ∀ {xs : List α}, (∀ x ∈ xs, rsz k (f x) ≤ b) → ((xs.map f).map fun x => rsz k x + 2).sum ≤ (b + 2) * xs.length
  | [], _ => Nat.zero_le _
  | x :: xs, h => by
    rw [List.map_cons, List.map_cons, List.sum_cons, List.length_cons, Nat.mul_succ]
    have h1 := h x List.mem_cons_self
    have h2 := rsz_map (f := f) (xs := xs) fun y hy => h y (List.mem_cons_of_mem _ hy)
    omega
theorem rsz_eT {f : α → PyData} {k b m : Nat} {xs : List α} (h : ∀ x ∈ xs, rsz k (f x) ≤ b) (hl : xs.length ≤ m) : rsz (k + 1) (eT f xs) ≤ (b + 2) * m + 3 := by
  show ((xs.map f).map fun x => rsz k x + 2).sum + 3 ≤ _
  have := rsz_map h
  have := Nat.mul_le_mul_left (b + 2) hl
  omega
theorem rsz_eL {f : α → PyData} {k b m : Nat} {xs : List α} (h : ∀ x ∈ xs, rsz k (f x) ≤ b) (hl : xs.length ≤ m) : rsz (k + 1) (eL f xs) ≤ (b + 2) * m + 3 := by
  show ((xs.map f).map fun x => rsz k x + 2).sum + 3 ≤ _
  have := rsz_map h
  have := Nat.mul_le_mul_left (b + 2) hl
  omega
/-- small nUp -/
def Sm (i : Int) : Prop := -1000000000 ≤ i ∧ i ≤ 1000000000
theorem Sm.rsz {i : Int} {k : Nat} (h : Sm i) : rsz (k + 1) (eI i) ≤ 62 := by
  unfold Sm at h
  rw [rsz_int (Nat.lt_of_le_of_lt (show i.natAbs ≤ 1000000000 by omega) (by decide))]
  exact Nat.le_refl _
theorem rsz_ints_T {k m : Nat} {xs : List Int} (h : ∀ x ∈ xs, Sm x) (hl : xs.length ≤ m) : rsz (k + 2) (eT eI xs) ≤ 64 * m + 3 := rsz_eT (fun x hx => (h x hx).rsz) hl
theorem rsz_ints_L {k m : Nat} {xs : List Int} (h : ∀ x ∈ xs, Sm x) (hl : xs.length ≤ m) : rsz (k + 2) (eL eI xs) ≤ 64 * m + 3 := rsz_eL (fun x hx => (h x hx).rsz) hl
/-- histories that are small enough to be shown -/
structure SmH (R : List (List Int)) : Prop where
  len : R.length ≤ 40
  row : ∀ r ∈ R, r.length ≤ 200
  ent : ∀ r ∈ R, ∀ x ∈ r, Sm x
theorem SmH.rsz {R : List (List Int)} (h : SmH R) : rsz 12 (eT (eT eI) R) ≤ 16777216 := by
  have := rsz_eT (f := eT eI) (k := 11) (b := 64 * 200 + 3) (m := 40) (xs := R) (fun r hr => rsz_ints_T (k := 9) (h.ent r hr) (h.row r hr)) h.len
  exact Nat.le_trans this (by decide)
end Mi
end
/-! ## MiD3 -/
section
set_option maxHeartbeats 2000000
/-! MiD3: lists that are drawn empty. -/
namespace Mi
open PySem
variable {α β : Type}
def popsM : Nat → List β → WM (List β)
  | 0, _ => retM []
  | k + 1, left => bindM (drawM left.length) fun i => bindM (liftM (popAtS left i)) fun q => bindM (popsM k q.2) fun v => retM (q.1 :: v)
section
variable {D : Deck} {Γ : Env} {gl : Glo} {f : Nat} {g : β → PyData} {u : Option Val}
abbrev popE (f : Nat) : E := .met .popAt (.var 2) [(.call f [(.var 0), (.bi .len [(.var 2)])])]
theorem pops_run (s : SpX D Γ f (fun (b : Int) => [eI b]) eI drawM) : ∀ (js : List Int) (left : List β) (acc : List Val) (n : Nat) (Q : List β → Nat → Prop) (dq : D.St), D.ok n dq → popsM js.length left n Q →
    ∃ v n' dq' left', compD none (fun x h => (tgItm (.name 3) x (wipeF [some (.ref D.at_), u, some (.ref (0 + D.len)), none] [3])).bind fun σ' => (denC Γ gl none σ' h).bind fun q => if q.1 then (denE Γ gl (popE f) σ' q.2).map fun r => (some r.1, r.2) else some (none, q.2)) (js.map (mk1 eI)) acc (D.hm dq ++ [.lst (left.map fun y => .dat (g y))]) =
      some (acc ++ v.map (fun y => .dat (g y)), D.hm dq' ++ [.lst ((left' : List β).map fun y => .dat (g y))]) ∧ D.ok n' dq' ∧ Q v n'
  | [], left, acc, n, Q, dq, d, w => ⟨[], n, dq, left, by rw [List.map_nil, compD, List.map_nil, List.append_nil]; rfl, d, w⟩
  | j :: js, left, acc, n, Q, dq, d, w => by
    have px : X D Γ gl (.call f [(.var 0), (.bi .len [(.var 2)])]) [some (.ref D.at_), u, some (.ref (0 + D.len)), some (vi j)] [.lst (left.map fun y => .dat (g y))] eI _ := X_call s rfl (XEs_one (X_of fun dq => P_len sqL (PA_own (f := g) (xs := left) rfl (by rw [D.get]; rfl))))
    obtain ⟨i, n1, dq1, e1, d1, ⟨x, left'⟩, e2, w1⟩ := px n (fun i n1 => bindM (liftM (popAtS left i)) (fun q => bindM (popsM js.length q.2) fun v => retM (q.1 :: v)) n1 Q) ⟨_, rfl, w⟩ dq d
    obtain ⟨v, n2, dq2, l2, e3, d2, w2⟩ := pops_run s js left' (acc ++ [.dat (g x)]) n1 _ dq1 d1 w1
    refine ⟨x :: v, n2, dq2, l2, ?_, d2, w2⟩
    have hh : ∀ s, (D.hm s ++ [Ob.lst (left.map fun y => .dat (g y))])[0 + D.len]? = some (.lst (left.map fun y => .dat (g y))) := fun s => by rw [D.get]; rfl
    have pp := popAt_run (hh dq1) e2
    rw [D.set] at pp
    have ee : denE Γ gl (popE f) [some (.ref D.at_), u, some (.ref (0 + D.len)), some (vi j)] (D.hm dq ++ [.lst (left.map fun y => .dat (g y))]) = some (.dat (g x), D.hm dq1 ++ [.lst (left'.map fun y => .dat (g y))]) := e_met (e_var rfl) (mt_own (m := .popAt) (fun _ _ => rfl) (hh dq)) (es_cons e1 es_nil) pp
    rw [List.map_cons, compD]
    have et : tgItm (.name 3) (mk1 eI j) (wipeF [some (.ref D.at_), u, some (.ref (0 + D.len)), none] [3]) = some [some (.ref D.at_), u, some (.ref (0 + D.len)), some (vi j)] := rfl
    show (((tgItm (.name 3) (mk1 eI j) (wipeF [some (.ref D.at_), u, some (.ref (0 + D.len)), none] [3])).bind _).bind _) = _
    rw [et, Option.bind_some, denC]
    simp only [Option.bind_some, ↓reduceIte]
    rw [ee]
    show compD none _ (js.map (mk1 eI)) (acc ++ [.dat (g x)]) (D.hm dq1 ++ [.lst (left'.map fun y => .dat (g y))]) = _
    rw [e3, List.append_assoc]; rfl
def shufS (xs : List β) : WM (List β) := if xs.length ≤ sizeLine then popsM xs.length xs else fun _ _ => False
/-- a list that is drawn empty: the law's def -/
def shufE (f : Nat) : Df := { np := 2, ns := 4, md := .give 2, body := [(.asg (.name 2) (.nw (.list (.var 1)))),
    (.ret (.nw (.comp (popE f) (.name 3) (.range1 (.bi .len [(.var 2)])) none [3])))] }
theorem shufE_W (s : SpX D Γ f (fun (b : Int) => [eI b]) eI drawM) (xs : List β) : XW D Γ gl (shufE f).body [some (.ref D.at_), some (.dat (eL g xs)), none, none] [] (PsiG D g) (shufS xs) := fun n Q w dq d => by
  unfold shufS at w
  split at w
  · rename_i hz
    have en : denN Γ gl (.list (.var 1)) [some (.ref D.at_), some (.dat (eL g xs)), none, none] (D.hm dq ++ []) = some (.lst (xs.map fun y => .dat (g y)), D.hm dq ++ []) := PN_list (g := g) sqL (PA_of (P_var (f := eL g) rfl)) xs rfl
    have e1 := ss_next (ss := [(.ret (.nw (.comp (popE f) (.name 3) (.range1 (.bi .len [(.var 2)])) none [3])))]) (s_asg (i := 2) (e_nw en))
    have hl : (D.hm dq ++ []).length = 0 + D.len := by rw [List.append_nil, D.hlen]; omega
    have er : rng1 (xs.length : Int) = some ((List.range xs.length).map fun (k : Nat) => (k : Int)) := by
      unfold rng1
      rw [if_pos ⟨by omega, by omega⟩]; rfl
    obtain ⟨v, n2, dq2, l2, e3, d2, w2⟩ := pops_run (gl := gl) (g := g) (u := some (.dat (eL g xs))) s ((List.range xs.length).map fun (k : Nat) => (k : Int)) xs [] n Q dq d (by rw [List.length_map, List.length_range]; exact w)
    refine ⟨v, n2, .ret (.ref (1 + D.len)), [some (.ref D.at_), some (.dat (eL g xs)), some (.ref (0 + D.len)), none], dq2, [.lst (l2.map fun y => .dat (g y)), .lst (v.map fun y => .dat (g y))], ?_, ⟨1, rfl, rfl⟩, d2, w2⟩
    refine e1.trans ?_
    rw [hl]
    show denSs Γ gl _ [some (.ref D.at_), some (.dat (eL g xs)), some (.ref (0 + D.len)), none] _ = _
    refine ss_ret (s_ret ?_)
    have ei : denI Γ gl (.range1 (.bi .len [(.var 2)])) [some (.ref D.at_), some (.dat (eL g xs)), some (.ref (0 + D.len)), none] (D.hm dq ++ [.lst (xs.map fun y => .dat (g y))]) = some ((((List.range xs.length).map fun (k : Nat) => (k : Int)).map (mk1 eI), none), D.hm dq ++ [.lst (xs.map fun y => .dat (g y))]) :=
      I0_range1 (P_len sqL (PA_own (f := g) (xs := xs) rfl (by rw [D.get]; rfl))) _ er
    have ec := n_comp (elt := popE f) (t := .name 3) (own := [3]) (cond := none) ei e3
    rw [List.nil_append] at ec
    have := e_nw ec
    rw [List.append_nil]
    rw [this, D.all, List.append_assoc]; rfl
  · exact w.elim
theorem shufE_sp {T : List Df} {f fn m n : Nat} [NoLE g n] (hn : n ≤ 8) (e : T[f]? = some (shufE fn)) (hD : D.len = 2) (s : SpX D (callN T gl m) fn (fun (b : Int) => [eI b]) eI drawM) : SpGv D (callN T gl (m + 1)) f (fun (xs : List β) => [eL g xs]) g shufS :=
  sp_G (d := shufE fn) hn e (by rw [hD]; rfl) (fun _ => rfl) fun x => shufE_W s x
/-! ### what is drawn -/
theorem popAtS_ok {xs : List β} {i : Int} (h0 : 0 ≤ i) (h1 : i < xs.length) : ∃ x ys, popAtS xs i = some (x, ys) ∧ (x :: ys).Perm xs := by
  have hk : i.toNat < xs.length := by omega
  refine ⟨xs[i.toNat], xs.eraseIdx i.toNat, ?_, ?_⟩
  · unfold popAtS ixN
    rw [if_pos h0, if_pos h1]
    show (xs[i.toNat]?).map _ = _
    rw [List.getElem?_eq_getElem hk]; rfl
  · exact erase_perm hk
theorem popsM_ok : ∀ (k : Nat) (left : List β) (n : Nat) (Q : List β → Nat → Prop), left.length = k → k < 1073741824 → n + k < 1000000000 → (∀ v, v.Perm left → Q v (n + k)) → popsM k left n Q
  | 0, left, n, Q, h1, _, _, q => q [] (by rw [List.length_eq_zero_iff.mp h1])
  | k + 1, left, n, Q, h1, h2, h3, q => by
    refine ⟨by omega, by omega, by omega, fun r r0 r1 => ?_⟩
    obtain ⟨x, ys, e, p⟩ := popAtS_ok (xs := left) r0 r1
    refine ⟨(x, ys), e, ?_⟩
    have hl : ys.length = k := by have := p.length_eq; rw [List.length_cons] at this; omega
    refine popsM_ok k ys (n + 1) _ hl (by omega) (by omega) fun v pv => ?_
    have := q (x :: v) ((pv.cons x).trans p)
    rw [show n + 1 + k = n + (k + 1) by omega]
    exact this
end
end Mi
end
/-! ## ShE -/
section
set_option maxHeartbeats 4000000
/-! ShE: defs of the program read as plain functions (written by gl.py). -/
namespace ShE
open PySem Mi Sh
def law_history_D (f_law_next f_law_shuffled : Nat) : Df := { np := 3, ns := 14, md := .sub 2, body := [(.pars [4, 5] [(.op .add (.int 1) (.call f_law_next [(.var 0), (.var 1)])), (.call f_law_next [(.var 0), (.int 4)])]),
    (.pars [6, 7, 8] [(.nw (.rep (.fz (.lst [(.tup [])])) (.var 4))), (.call f_law_shuffled [(.var 0), (.fz (.listR (.int 1) (.int 25)))]), (.nw (.lst []))]),
    (.loop false (.name 3) (.range1 (.call f_law_next [(.var 0), (.op .add (.var 2) (.int 1))])) [(.asg (.name 9) (.call f_law_next [(.var 0), (.var 4)])),
    (.asg (.name 10) (.fz (.comp (.var 13) (.name 13) (.e (.var 8)) (some (.cmp .ne (.sub (.var 13) (.int 1)) (.var 9))) [13]))),
    (.asg (.name 11) (.call f_law_next [(.var 0), (.sub (.fz (.lst [(.int 4), (.int 3), (.int 8), (.int 2)])) (.var 5))])),
    (.asg (.name 12) (.int 0)),
    (.ifs (.and (.cmp .gt (.var 11) (.int 0)) (.and (.cmp .ne (.var 10) (.fz (.lst []))) (.or (.cmp .eq (.var 7) (.fz (.lst []))) (.cmp .eq (.call f_law_next [(.var 0), (.int 2)]) (.int 0))))) [(.asg (.name 13) (.sub (.var 10) (.call f_law_next [(.var 0), (.bi .len [(.var 10)])]))),
    (.expr (.met .remove (.var 8) [(.var 13)])),
    (.asg (.name 12) (.op .sub (.int 0) (.sub (.var 13) (.int 0))))] [(.ifs (.and (.cmp .gt (.var 11) (.int 0)) (.cmp .ne (.var 7) (.fz (.lst [])))) [(.asg (.name 12) (.met .pop (.var 7) [])),
    (.expr (.met .append (.var 8) [(.tup [(.var 12), (.var 9)])]))] [])]),
    (.sset (.var 6) (.var 9) (.op .add (.sub (.var 6) (.var 9)) (.tup [(.var 12)])))]),
    (.ret (.bi .tuple [(.var 6)]))] }
def law_history_S (x : Int × Int) : {V : WM (List (List Int)) // ∀ {Γ : Mi.Env} {gl : Glo} {f_law_next f_law_shuffled : Nat} (h_law_next : SpX dkE Γ f_law_next (fun (x : Int) => [eI x]) eI drawM) (h_law_shuffled : SpGv dkE Γ f_law_shuffled (fun (x : (List Int)) => [(eL eI) x]) eI shufS), XW dkE Γ gl (law_history_D f_law_next f_law_shuffled).body [some (.ref 1), some (.dat (eI x.1)), some (.dat (eI x.2)), none, none, none, none, none, none, none, none, none, none, none] [] (PsiY dkE (eT (eT eI))) V} := ⟨_, fun {Γ gl f_law_next f_law_shuffled} h_law_next h_law_shuffled =>
  (XW_pars (XK_dat (f := eI) (X_add (X_of fun _ => P_int) (X_call h_law_next rfl (XEs_one (X_of fun _ => (P_var (f := eI) rfl))))) fun v1 => (XK_dat (f := eI) (X_call h_law_next rfl (XEs_one (X_of fun _ => P_int))) fun v2 => (XK_nil ⟨_, rfl,
  (XW_pars (XK_new (XN_of fun _ => (PN_rep (PA_of (P_fz (PN_lst (by decide) (PH_cons (P_tup0 (f := eI)) PH_nil)))) (P_var (f := eI) rfl))) fun l3 => (XK_give h_law_shuffled rfl (XEs_one (X_of fun _ => (P_fz (PN_listR P_int P_int)))) fun l4 => (XK_new (XN_of fun _ => (PN_lst (f := (eP eI eI)) (by decide) PH_nil)) fun l5 => (XK_nil ⟨_, rfl,
  (XW_forG (k := (eT (eT eI))) (a0 := (l3, l4, l5)) (fun (a6 : (List (List Int)) × (List Int) × (List (Int × Int))) (j7 : Option Val × Option Val × Option Val × Option Val × Option Val × Option Val) => [some (.ref 1), some (.dat (eI x.1)), some (.dat (eI x.2)), j7.1, some (.dat (eI v1)), some (.dat (eI v2)), some (.ref 2), some (.ref 3), some (.ref 4), j7.2.1, j7.2.2.1, j7.2.2.2.1, j7.2.2.2.2.1, j7.2.2.2.2.2]) (fun (a6 : (List (List Int)) × (List Int) × (List (Int × Int))) => [.lst (a6.1.map fun x => .dat ((eT eI) x)), .lst (a6.2.1.map fun x => .dat (eI x)), .lst (a6.2.2.map fun x => .dat ((eP eI eI) x))]) (_, _, _, _, _, _) xretY (XI_range1 (X_call h_law_next rfl (XEs_one (X_of fun _ => (P_add (P_var (f := eI) rfl) P_int))))) rfl rfl  (fun x8 a6 j7 => ⟨_, rfl,
  (XW_asg (f := eI) (X_call h_law_next rfl (XEs_one (X_of fun _ => (P_var (f := eI) rfl)))) fun v9 =>
  (XW_asg (f := (eL (eP eI eI))) (X_of fun _ => (P_fz (PN_comp (I_e sqL (PA_own (f := (eP eI eI)) rfl rfl)) (fun _ => rfl) (fun x10 => (PC_some (P_ne (by decide) (PA_of (P_part (i := 1) (g := eI) (c := fun x => x.2) (fun _ _ => rfl) (P_var (f := (eP eI eI)) rfl))) (PA_of (P_var (f := eI) rfl))))) (fun x10 => (P_var (f := (eP eI eI)) rfl))))) fun v11 =>
  (XW_asg (f := eI) (X_call h_law_next rfl (XEs_one (X_of fun _ => (P_sub sqL (PA_of (P_fz (PN_lst (by decide) (PH_cons P_int (PH_cons P_int (PH_cons P_int (PH_cons P_int PH_nil))))))) (P_var (f := eI) rfl))))) fun v12 =>
  (XW_asg (f := eI) (X_of fun _ => P_int) fun v13 =>
  (XW_if (X_and (X_of fun _ => (P_gt (P_var (f := eI) rfl) P_int)) (X_and (X_of fun _ => (P_ne (by decide) (PA_of (P_var (f := (eL (eP eI eI))) rfl)) (PA_of (P_fz (PN_lst (f := (eP eI eI)) (by decide) PH_nil))))) (X_or (X_of fun _ => (P_eq (by decide) (PA_own (f := eI) rfl rfl) (PA_of (P_fz (PN_lst (f := eI) (by decide) PH_nil))))) (X_cmpI (o := .eq) (fun _ _ _ => rfl) (X_call h_law_next rfl (XEs_one (X_of fun _ => P_int))) (X_of fun _ => P_int)))))
  (XW_asg (f := (eP eI eI)) (X_sub sqL (X_of fun _ => (P_var (f := (eL (eP eI eI))) rfl)) (X_call h_law_next rfl (XEs_one (X_of fun _ => (P_len sqL (PA_of (P_var (f := (eL (eP eI eI))) rfl))))))) fun v14 =>
  (XW_remove (f := (eP eI eI)) (by decide) rfl rfl (X_of fun _ => (P_var (f := (eP eI eI)) rfl)) fun l15 =>
  (XW_asg (f := eI) (X_of fun _ => (P_minus P_int (P_part (i := 0) (g := eI) (c := fun x => x.1) (fun _ _ => rfl) (P_var (f := (eP eI eI)) rfl)))) fun v16 =>
  (XW_sset (f := (eT eI)) rfl rfl (X_of fun _ => (P_cat (P_sub sqL (PA_own (f := (eT eI)) rfl rfl) (P_var (f := eI) rfl)) (P_tup1 (P_var (f := eI) rfl)))) (X_of fun _ => (P_var (f := eI) rfl)) fun l17 =>
  (XZ_nil (a := (l17, a6.2.1, l15)) ⟨(_, _, _, _, _, _), rfl, rfl⟩)))))
  (XW_if (X_of fun _ => (P_and (P_gt (P_var (f := eI) rfl) P_int) (P_ne (by decide) (PA_own (f := eI) rfl rfl) (PA_of (P_fz (PN_lst (f := eI) (by decide) PH_nil))))))
  (XW_pop (f := eI) rfl rfl fun v18 l19 =>
  (XW_append (f := (eP eI eI)) rfl rfl (X_of fun _ => (P_tup2 (P_var (f := eI) rfl) (P_var (f := eI) rfl))) fun l20 =>
  (XW_sset (f := (eT eI)) rfl rfl (X_of fun _ => (P_cat (P_sub sqL (PA_own (f := (eT eI)) rfl rfl) (P_var (f := eI) rfl)) (P_tup1 (P_var (f := eI) rfl)))) (X_of fun _ => (P_var (f := eI) rfl)) fun l21 =>
  (XZ_nil (a := (l21, l19, l20)) ⟨(_, _, _, _, _, _), rfl, rfl⟩))))
  (XW_sset (f := (eT eI)) rfl rfl (X_of fun _ => (P_cat (P_sub sqL (PA_own (f := (eT eI)) rfl rfl) (P_var (f := eI) rfl)) (P_tup1 (P_var (f := eI) rfl)))) (X_of fun _ => (P_var (f := eI) rfl)) fun l22 =>
  (XZ_nil (a := (l22, a6.2.1, a6.2.2)) ⟨(_, _, _, _, _, _), rfl, rfl⟩))))))))⟩) fun a23 j24 =>
  (XY_ret (X_of fun _ => (P_tuple sqL (PA_own (f := (eT eI)) rfl rfl)))))⟩)))))⟩))))⟩
def law_history (x : Int × Int) : WM (List (List Int)) := (law_history_S x).1
def law_messages_D : Df := { np := 1, ns := 7, md := .sub 0, body := [(.pars [2, 3] [(.nw .dict0), (.nw (.lst []))]),
    (.loop false (.tup [(.name 4), (.name 5)]) (.enum (.var 0)) [(.loop false (.tup [(.name 6), (.name 1)]) (.enum (.var 5)) [(.dput (.var 2) (.var 1) (.tup [(.var 4), (.var 6)]))])]),
    (.loop false (.name 1) (.e (.fz (.sorted (.fz (.listD (.var 2)))))) [(.ifs (.cmp .lt (.var 1) (.int 0)) [(.expr (.met .append (.var 3) [(.op .add (.op .add (.tup [(.op .sub (.int 0) (.var 1))]) (.dsub (.var 2) (.op .sub (.int 0) (.var 1)))) (.dsub (.var 2) (.var 1)))]))] [])]),
    (.ret (.var 3))] }
def law_messages_S (x : (List (List Int))) : {V : Option (List (Int × Int × Int × Int × Int)) // ∀ {Γ : Mi.Env} {gl : Glo} , W Γ gl law_messages_D.body [some (.dat ((eT (eT eI)) x)), none, none, none, none, none, none] [] (PhiY (eL (e5 eI eI eI eI eI))) V} := ⟨_, fun {Γ gl }  =>
  (W_pars (PK_newD (g := (eP eI eI)) (PK_new (PN_lst (f := (e5 eI eI eI eI eI)) (by decide) PH_nil) fun l1 => (PK_nil ⟨_, rfl,
  (W_forG (k := (eL (e5 eI eI eI eI eI))) (a0 := ([] : List (Int × (Int × Int)))) (fun (a2 : (List (Int × (Int × Int)))) (j3 : Option Val × Option Val × Option Val × Option Val) => [some (.dat ((eT (eT eI)) x)), j3.1, some (.ref 0), some (.ref 1), j3.2.1, j3.2.2.1, j3.2.2.2]) (fun (a2 : (List (Int × (Int × Int)))) => [.dct (vOf (eP eI eI) a2), .lst (l1.map fun x => .dat ((e5 eI eI eI eI eI) x))]) (_, _, _, _) retY (I0_enum sqT (P_var (f := (eT (eT eI))) rfl)) rfl rfl  (fun x4 a2 j3 => ⟨_, rfl,
  (W_forG (k := (eL (e5 eI eI eI eI eI))) (a0 := a2) (fun (a5 : (List (Int × (Int × Int)))) (j6 : Option Val × Option Val) => [some (.dat ((eT (eT eI)) x)), j6.1, some (.ref 0), some (.ref 1), some (.dat (eI x4.1)), some (.dat ((eT eI) x4.2)), j6.2]) (fun (a5 : (List (Int × (Int × Int)))) => [.dct (vOf (eP eI eI) a5), .lst (l1.map fun x => .dat ((e5 eI eI eI eI eI) x))]) (_, _) retZ (I0_enum sqT (P_var (f := (eT eI)) rfl)) rfl rfl  (fun x7 a5 j6 => ⟨_, rfl,
  (W_dput (g := (eP eI eI)) rfl rfl (P_tup2 (P_var (f := eI) rfl) (P_var (f := eI) rfl)) (P_var (f := eI) rfl) fun l8 =>
  (Z_nil (a := l8) ⟨(_, _), rfl, rfl⟩))⟩) fun a9 j10 =>
  (Z_nil (a := a9) ⟨(_, _, _, _), rfl, rfl⟩))⟩) fun a11 j12 =>
  (W_forG (k := (eL (e5 eI eI eI eI eI))) (a0 := l1) (fun (a13 : (List (Int × Int × Int × Int × Int))) (j14 : Option Val × Option Val × Option Val × Option Val) => [some (.dat ((eT (eT eI)) x)), j14.1, some (.ref 0), some (.ref 1), j14.2.1, j14.2.2.1, j14.2.2.2]) (fun (a13 : (List (Int × Int × Int × Int × Int))) => [.dct (vOf (eP eI eI) a11), .lst (a13.map fun x => .dat ((e5 eI eI eI eI eI) x))]) (_, _, _, _) retY (I0_e sqL (P_fz (PN_sorted (PA_of (P_fz (PN_listD (PD_own (g := (eP eI eI)) rfl rfl))))))) rfl rfl  (fun x15 a13 j14 => ⟨_, rfl,
  (W_if (P_lt (P_var (f := eI) rfl) P_int)
  (W_append (f := (e5 eI eI eI eI eI)) rfl rfl (P_catP (k := (e5 eI eI eI eI eI)) (F := fun (x : (Int × Int × Int)) => [eI x.1, eI x.2.1, eI x.2.2]) (G := fun (y : (Int × Int)) => [eI y.1, eI y.2]) (n := 5) (fun (x : (Int × Int × Int)) (y : (Int × Int)) => (x.1, x.2.1, x.2.2, y.1, y.2)) (fun _ => rfl) (fun _ => rfl) (fun _ _ => rfl) (fun _ _ => rfl) (by decide) (P_catP (k := (e3 eI eI eI)) (F := fun (x : (Int)) => [eI x]) (G := fun (y : (Int × Int)) => [eI y.1, eI y.2]) (n := 3) (fun (x : (Int)) (y : (Int × Int)) => (x, y.1, y.2)) (fun _ => rfl) (fun _ => rfl) (fun _ _ => rfl) (fun _ _ => rfl) (by decide) (P_one (P_minus P_int (P_var (f := eI) rfl))) (P_dsub (PD_own (g := (eP eI eI)) rfl rfl) (P_minus P_int (P_var (f := eI) rfl)))) (P_dsub (PD_own (g := (eP eI eI)) rfl rfl) (P_var (f := eI) rfl))) fun l16 =>
  (Z_nil (a := l16) ⟨(_, _, _, _), rfl, rfl⟩))
  (Z_nil (a := a13) ⟨(_, _, _, _), rfl, rfl⟩))⟩) fun a17 j18 =>
  (Y_ret (PA_own (f := (e5 eI eI eI eI eI)) rfl rfl))))⟩))))⟩
def law_messages (x : (List (List Int))) : Option (List (Int × Int × Int × Int × Int)) := (law_messages_S x).1
end ShE
end
/-! ## MiV9 -/
section
set_option maxHeartbeats 2000000
/-! MiV9: tuples with stars, zip of a tuple with a list, lists that may be none. -/
namespace Mi
open PySem
variable {α β γ δ ε τ : Type}
theorem eqv_none_l {d : PyData} (h : (Val.dat d).isNon = false) : PyData.eqv .none d = false := by cases d <;> first | rfl | cases h
theorem eqv_none_r {d : PyData} (h : (Val.dat d).isNon = false) : PyData.eqv d .none = false := by cases d <;> first | rfl | cases h
instance {f : α → PyData} [DecidableEq α] [EqE f] [NnE f] : EqE (eO f) := ⟨fun x y => by
  cases x with
  | none => cases y with
    | none => rfl
    | some y => show PyData.eqv .none (f y) = _; rw [eqv_none_l (NnE.nn y)]; rfl
  | some x => cases y with
    | none => show PyData.eqv (f x) .none = _; rw [eqv_none_r (NnE.nn x)]; rfl
    | some y => show PyData.eqv (f x) (f y) = _; rw [EqE.eqv]; by_cases h : x = y <;> simp [h]⟩
instance {f : α → PyData} {n : Nat} [OkE f n] : OkE (eO f) (n + 1) := ⟨fun x k h => by
  obtain ⟨k, rfl⟩ : ∃ j, k = j + 1 := ⟨k - 1, by omega⟩
  cases x with
  | none => rfl
  | some x => exact OkE.ok x (k + 1) (by omega)⟩
section
variable {Γ : Env} {gl : Glo} {σ : Fr} {h : Hm}
theorem PA_some {e : E} {f : α → PyData} {V : Option α} (p : PA Γ gl e σ h f V) : PA Γ gl e σ h (eO f) (V.map some) := fun v hv => by
  obtain ⟨x, rfl, rfl⟩ := Option.map_eq_some_iff.mp hv
  exact p x rfl
/-- (a, *b, *c) -/
theorem P_tup5S {a b c : E} {f : α → PyData} {g : β → PyData} {k : γ → PyData} {l : δ → PyData} {m : ε → PyData} {V : Option α} {W : Option (β × γ)} {U : Option (δ × ε)} (p : P Γ gl a σ h f V) (q : P Γ gl b σ h (eP g k) W) (r : P Γ gl c σ h (eP l m) U) :
    P Γ gl (.tupS [false, true, true] [a, b, c]) σ h (e5 f g k l m) (V.bind fun x => W.bind fun y => U.bind fun z => some (x, y.1, y.2, z.1, z.2)) := fun v hv => by
  obtain ⟨x, e1, e2⟩ := Option.bind_eq_some_iff.mp hv
  obtain ⟨y, z, e3, e4, e5⟩ := bnd2 e2
  cases e5
  rw [denE]
  rw [denEsS, p x e1]
  simp only [Option.bind_some]
  rw [denEsS, q y e3]
  simp only [Option.bind_some]
  rw [denEsS, r z e4]
  simp only [Option.bind_some]
  rw [denEsS]
  rfl
theorem I0_zipM {a b : E} {f : α → PyData} {g : β → PyData} {V : Option (List α)} {W : Option (List β)} (p : P Γ gl a σ h (eT f) V) (q : P Γ gl b σ h (eL g) W) : PI0 Γ gl (.zip a b) σ h (mkZ f g) (V.bind fun x => W.bind fun y => some (x.zip y)) := fun v hv => by
  obtain ⟨x, y, e1, e2, e3⟩ := bnd2 hv
  cases e3
  rw [denI, p x e1]
  simp only [Option.bind_some]
  rw [q y e2]
  show some ((List.zipWith (fun x y => Itm.many [x, y]) (x.map f) (y.map g), none), h) = _
  rw [zip_mk]
end
end Mi
end
/-! ## ShE2 -/
section
set_option maxHeartbeats 4000000
/-! ShE2: defs of the program read as plain functions (written by gl.py). -/
namespace ShE
open PySem Mi Sh
def law_states_D : Df := { np := 1, ns := 5, md := .sub 0, body := [(.asg (.name 1) (.fz (.lst []))),
    (.loop false (.tup [(.name 2), (.name 3)]) (.enum (.var 0)) [(.asg (.name 1) (.fz (.add (.var 1) (.fz (.comp (.tup [(.var 2), (.var 4)]) (.name 4) (.range1 (.op .add (.met .count (.var 3) [(.int 0)]) (.int 2))) none [4])))))]),
    (.ret (.var 1))] }
noncomputable def law_states_S (x : (List (List Int))) : {V : Option (List (Int × Int)) // ∀ {Γ : Mi.Env} {gl : Glo} , W Γ gl law_states_D.body [some (.dat ((eT (eT eI)) x)), none, none, none, none] [] (PhiY (eL (eP eI eI))) V} := ⟨_, fun {Γ gl }  =>
  (W_asg (f := (eL (eP eI eI))) (P_fz (PN_lst (f := (eP eI eI)) (by decide) PH_nil)) fun v1 =>
  (W_forG (k := (eL (eP eI eI))) (a0 := v1) (fun (a2 : (List (Int × Int))) (j3 : Option Val × Option Val) => [some (.dat ((eT (eT eI)) x)), some (.dat ((eL (eP eI eI)) a2)), j3.1, j3.2, none]) (fun (a2 : (List (Int × Int))) => []) (_, _) retY (I0_enum sqT (P_var (f := (eT (eT eI))) rfl)) rfl rfl  (fun x4 a2 j3 => ⟨_, rfl,
  (W_asg (f := (eL (eP eI eI))) (P_fz (PN_add (PA_of (P_var (f := (eL (eP eI eI))) rfl)) (PA_of (P_fz (PN_comp (PI_of (I0_range1 (P_add (P_count sqT (PA_of (P_var (f := (eT eI)) rfl)) P_int) P_int))) (fun _ => rfl) (fun x5 => PC_none) (fun x5 => (P_tup2 (P_var (f := eI) rfl) (P_var (f := eI) rfl)))))))) fun v6 =>
  (Z_nil (a := v6) ⟨(_, _), rfl, rfl⟩))⟩) fun a7 j8 =>
  (Y_ret (PA_of (P_var (f := (eL (eP eI eI))) rfl)))))⟩
noncomputable def law_states (x : (List (List Int))) : Option (List (Int × Int)) := (law_states_S x).1
def law_place_D : Df := { np := 2, ns := 5, md := .sub 0, body := [(.asg (.name 2) (.sub (.var 0) (.sub (.var 1) (.int 0)))),
    (.asg (.name 3) (.fz (.add (.fz (.add (.fz (.lst [(.int 0)])) (.fz (.comp (.op .add (.var 4) (.int 1)) (.name 4) (.range1 (.bi .len [(.var 2)])) (some (.cmp .eq (.sub (.var 2) (.var 4)) (.int 0))) [4])))) (.fz (.lst [(.op .add (.bi .len [(.var 2)]) (.int 1))]))))),
    (.ret (.bi .max [(.int 0), (.op .sub (.sub (.var 3) (.sub (.var 1) (.int 1))) (.int 1))]))] }
noncomputable def law_place_S (x : (List (List Int)) × (Int × Int)) : {V : Option Int // ∀ {Γ : Mi.Env} {gl : Glo} , W Γ gl law_place_D.body [some (.dat ((eT (eT eI)) x.1)), some (.dat ((eP eI eI) x.2)), none, none, none] [] (PhiY eI) V} := ⟨_, fun {Γ gl }  =>
  (W_asg (f := (eT eI)) (P_sub sqT (PA_of (P_var (f := (eT (eT eI))) rfl)) (P_part (i := 0) (g := eI) (c := fun x => x.1) (fun _ _ => rfl) (P_var (f := (eP eI eI)) rfl))) fun v1 =>
  (W_asg (f := (eL eI)) (P_fz (PN_add (PA_of (P_fz (PN_add (PA_of (P_fz (PN_lst (by decide) (PH_cons P_int PH_nil)))) (PA_of (P_fz (PN_comp (PI_of (I0_range1 (P_len sqT (PA_of (P_var (f := (eT eI)) rfl))))) (fun _ => rfl) (fun x2 => (PC_some (P_eq (by decide) (PA_of (P_sub sqT (PA_of (P_var (f := (eT eI)) rfl)) (P_var (f := eI) rfl))) (PA_of P_int)))) (fun x2 => (P_add (P_var (f := eI) rfl) P_int)))))))) (PA_of (P_fz (PN_lst (by decide) (PH_cons (P_add (P_len sqT (PA_of (P_var (f := (eT eI)) rfl))) P_int) PH_nil)))))) fun v3 =>
  (Y_ret (PA_of (P_max2 P_int (P_minus (P_sub sqL (PA_of (P_var (f := (eL eI)) rfl)) (P_part (i := 1) (g := eI) (c := fun x => x.2) (fun _ _ => rfl) (P_var (f := (eP eI eI)) rfl))) P_int))))))⟩
noncomputable def law_place (x : (List (List Int)) × (Int × Int)) : Option Int := (law_place_S x).1
def law_future_D (f_law_place f_law_messages : Nat) : Df := { np := 2, ns := 9, md := .sub 0, body := [(.asg (.name 2) (.nw (.rep (.fz (.lst [(.int 99)])) (.bi .len [(.var 0)])))),
    (.sset (.var 2) (.sub (.var 1) (.int 0)) (.call f_law_place [(.var 0), (.var 1)])),
    (.asg (.name 3) .non),
    (.whl false (.cmp .ne (.var 3) (.var 2)) [(.asg (.name 3) (.fz (.list (.var 2)))),
    (.loop false (.tup [(.name 4), (.name 5), (.name 6), (.name 7), (.name 8)]) (.e (.call f_law_messages [(.var 0)])) [(.ifs (.cmp .ge (.var 6) (.sub (.var 2) (.var 5))) [(.sset (.var 2) (.var 7) (.bi .min [(.sub (.var 2) (.var 7)), (.var 8)]))] [])])]),
    (.ret (.var 2))] }
noncomputable def law_future_S (x : (List (List Int)) × (Int × Int)) : {V : Option (List Int) // ∀ {Γ : Mi.Env} {gl : Glo} {f_law_place f_law_messages : Nat} (h_law_place : SpR Γ f_law_place (fun (x : (List (List Int)) × (Int × Int)) => [(eT (eT eI)) x.1, (eP eI eI) x.2]) eI law_place) (h_law_messages : SpD Γ f_law_messages (fun (x : (List (List Int))) => [(eT (eT eI)) x]) (eL (e5 eI eI eI eI eI)) law_messages), W Γ gl (law_future_D f_law_place f_law_messages).body [some (.dat ((eT (eT eI)) x.1)), some (.dat ((eP eI eI) x.2)), none, none, none, none, none, none, none] [] (PhiY (eL eI)) V} := ⟨_, fun {Γ gl f_law_place f_law_messages} h_law_place h_law_messages =>
  (W_new (PN_rep (PA_of (P_fz (PN_lst (by decide) (PH_cons P_int PH_nil)))) (P_len sqT (PA_of (P_var (f := (eT (eT eI))) rfl)))) fun l1 =>
  (W_sset (f := eI) rfl rfl (P_call h_law_place.toD (PEs_cons (P_var (f := (eT (eT eI))) rfl) (PEs_one (P_var (f := (eP eI eI)) rfl)))) (P_part (i := 0) (g := eI) (c := fun x => x.1) (fun _ _ => rfl) (P_var (f := (eP eI eI)) rfl)) fun l2 =>
  (W_asg (f := (eO (eL eI))) (P_non (f := (eL eI))) fun v3 =>
  (W_whileG (k := (eL eI)) (a0 := (l2, v3)) (fun (a4 : (List Int) × (Option (List Int))) (j5 : Option Val × Option Val × Option Val × Option Val × Option Val) => [some (.dat ((eT (eT eI)) x.1)), some (.dat ((eP eI eI) x.2)), some (.ref 0), some (.dat ((eO (eL eI)) a4.2)), j5.1, j5.2.1, j5.2.2.1, j5.2.2.2.1, j5.2.2.2.2]) (fun (a4 : (List Int) × (Option (List Int))) => [.lst (a4.1.map fun x => .dat (eI x))]) (_, _, _, _, _) retY rfl rfl  (fun a4 j5 => (P_ne (by decide) (PA_of (P_var (f := (eO (eL eI))) rfl)) (PA_some (PA_own (f := eI) rfl rfl)))) (fun a4 j5 =>
  (W_asg (f := (eO (eL eI))) (P_some (P_fz (PN_list sqL (PA_own (f := eI) rfl rfl)))) fun v7 =>
  (W_forG (k := (eL eI)) (a0 := a4.1) (fun (a8 : (List Int)) (j9 : Option Val × Option Val × Option Val × Option Val × Option Val) => [some (.dat ((eT (eT eI)) x.1)), some (.dat ((eP eI eI) x.2)), some (.ref 0), some (.dat ((eO (eL eI)) v7)), j9.1, j9.2.1, j9.2.2.1, j9.2.2.2.1, j9.2.2.2.2]) (fun (a8 : (List Int)) => [.lst (a8.map fun x => .dat (eI x))]) (_, _, _, _, _) retZ (I0_e sqL (P_call h_law_messages (PEs_one (P_var (f := (eT (eT eI))) rfl)))) rfl rfl  (fun x10 a8 j9 => ⟨_, rfl,
  (W_if (P_ge (P_var (f := eI) rfl) (P_sub sqL (PA_own (f := eI) rfl rfl) (P_var (f := eI) rfl)))
  (W_sset (f := eI) rfl rfl (P_min2 (P_sub sqL (PA_own (f := eI) rfl rfl) (P_var (f := eI) rfl)) (P_var (f := eI) rfl)) (P_var (f := eI) rfl) fun l11 =>
  (Z_nil (a := l11) ⟨(_, _, _, _, _), rfl, rfl⟩))
  (Z_nil (a := a8) ⟨(_, _, _, _, _), rfl, rfl⟩))⟩) fun a12 j13 =>
  (Z_nil (a := (a12, v7)) ⟨(_, _, _, _, _), rfl, rfl⟩)))) fun a14 j15 =>
  (Y_ret (PA_own (f := eI) rfl rfl))))))⟩
noncomputable def law_future (x : (List (List Int)) × (Int × Int)) : Option (List Int) := (law_future_S x).1
end ShE
end
/-! ## MiH -/
section
set_option maxHeartbeats 2000000
/-! MiH: the laws' histories: what the generator gives. -/
namespace Mi
open PySem
def GenH (many most : Int) (R : List (List Int)) : Prop := ∃ (O : List (Int × Int)) (u j cnt : Nat) (kind : Int) (names : List Int), names.Perm nums24 ∧ 1 ≤ cnt ∧ (cnt : Int) ≤ many ∧ (j : Int) ≤ most ∧ Gen (nmOf kind names) cnt j R O u
def histM (x : Int × Int) : WM (List (List Int)) := fun n Q => n + 5000 < 1000000000 ∧ 1 ≤ x.1 ∧ x.1 ≤ 1000 ∧ 0 ≤ x.2 ∧ x.2 ≤ 800 ∧ ∀ R n', GenH x.1 x.2 R → n' ≤ n + 3000 → Q R n'
theorem hist_spX {T : List Df} {gl : Glo} {f fD fM fP m : Nat} (eD : T[fD]? = some drawD) (eM : T[fM]? = some (mixedD fD)) (eP : T[fP]? = some (pickD fD)) (e : T[f]? = some (histD fD fM fP)) :
    SpX dkA (callN T gl (m + 3)) f (fun (x : Int × Int) => [eI x.1, eI x.2]) (eT (eT eI)) histM := by
  intro x n Q w dq rest d
  obtain ⟨big, cells, c⟩ := dq
  obtain ⟨h1, h2, h3, h4, h5, h6⟩ := w
  obtain ⟨R, O, u, j, cnt, kind, names, big', c', a1, a2, a3, a4, a5, a6, a7, a8⟩ := hist_ok (gl := gl) (c := c) (rest := rest) (draw_sp (gl := gl) eD (m + 1)) (mix_sp (gl := gl) eD eM m) (pick_sp (gl := gl) eD eP m) d.ne d.len (Nat.lt_of_le_of_lt (Nat.add_le_add_right d.cnt 5000) h1) h2 h3 h4 h5
  refine ⟨R, n + 3000, (big', cells, c'), ?_, ⟨d.ne, a6, Nat.le_trans a7 (Nat.add_le_add_right d.cnt 3000)⟩, h6 R _ ⟨O, u, j, cnt, kind, names, a1, a2, a3, a4, a5⟩ (Nat.le_refl _)⟩
  show ((T[f]?).bind fun d => runDf (callN T gl (m + 2)) gl d _ _) = _
  rw [e]
  exact a8
theorem nm_range {kind : Int} {names : List Int} (pm : names.Perm nums24) {u : Nat} (hu : u < 24) : 1 ≤ nmOf kind names u ∧ nmOf kind names u ≤ 24 := by
  unfold nmOf
  split
  · omega
  · have hl : names.length = 24 := pm.length_eq.trans (by decide)
    rw [List.getD_eq_getElem?_getD, List.getElem?_eq_getElem (by omega)]
    have hm : names[u] ∈ nums24 := pm.subset (List.getElem_mem (by omega))
    unfold nums24 at hm
    obtain ⟨k, hk, e⟩ := List.mem_map.mp hm
    have := List.mem_range.mp hk
    show 1 ≤ names[u] ∧ names[u] ≤ 24
    omega
theorem push_mem {R : List (List Int)} {p : Nat} {x : Int} {r : List Int} (hr : r ∈ push R p x) : r ∈ R ∨ (r = R.getD p [] ++ [x] ∧ p < R.length) := by
  unfold push at hr
  by_cases hp : p < R.length
  · rcases List.mem_or_eq_of_mem_set hr with k | k
    · exact .inl k
    · exact .inr ⟨k, hp⟩
  · rw [List.set_eq_of_length_le (by omega)] at hr
    exact .inl hr
theorem getD_mem {R : List (List Int)} {p : Nat} (hp : p < R.length) : R.getD p [] ∈ R := by
  rw [List.getD_eq_getElem?_getD, List.getElem?_eq_getElem hp]
  exact List.getElem_mem hp
theorem Gen.small {nm : Nat → Int} {cnt j u : Nat} {R : List (List Int)} {O : List (Int × Int)} (hn : ∀ u, u < 24 → 1 ≤ nm u ∧ nm u ≤ 24) (g : Gen nm cnt j R O u) : (∀ r ∈ R, ∀ x ∈ r, -24 ≤ x ∧ x ≤ 24) ∧ ∀ q ∈ O, 1 ≤ q.1 ∧ q.1 ≤ 24 := by
  have pu : ∀ {R : List (List Int)} {p : Nat} {x : Int}, -24 ≤ x ∧ x ≤ 24 → (∀ r ∈ R, ∀ x ∈ r, -24 ≤ x ∧ x ≤ 24) → ∀ r ∈ push R p x, ∀ x ∈ r, -24 ≤ x ∧ x ≤ 24 := fun {R p x} hx h r hr y hy => by
    rcases push_mem hr with k | ⟨rfl, hp⟩
    · exact h r k y hy
    · rcases List.mem_append.mp hy with z | z
      · exact h _ (getD_mem hp) y z
      · rw [List.mem_singleton.mp z]; exact hx
  induction g with
  | zero => exact ⟨fun r hr x hx => by rw [List.eq_of_mem_replicate hr] at hx; exact absurd hx List.not_mem_nil, fun q hq => absurd hq List.not_mem_nil⟩
  | save _ _ ih => exact ⟨pu (by omega) ih.1, ih.2⟩
  | @send _ _ _ u _ _ _ hu ih =>
    have := hn u hu
    exact ⟨pu (by omega) ih.1, fun q hq => by
      rcases List.mem_append.mp hq with z | z
      · exact ih.2 q z
      · rw [List.mem_singleton.mp z]; exact this⟩
  | skip _ ih => exact ih
  | @recv _ _ _ _ _ _ m q _ _ hk _ ih =>
    have h1 : 1 ≤ m ∧ m ≤ 24 := ih.2 _ (List.mem_of_getElem? hk)
    exact ⟨pu (by omega) ih.1, fun q hq => ih.2 q (List.mem_of_mem_eraseIdx hq)⟩
theorem GenH.small {many most : Int} {R : List (List Int)} (g : GenH many most R) (h1 : many ≤ 40) (h2 : most ≤ 200) : SmH R ∧ 1 ≤ R.length ∧ (R.length : Int) ≤ many := by
  obtain ⟨O, u, j, cnt, kind, names, a1, a2, a3, a4, a5⟩ := g
  have l := a5.len
  have s := a5.small fun u hu => nm_range a1 hu
  refine ⟨⟨by rw [l.1]; omega, fun r hr => by have := l.2.2.2 r hr; omega, fun r hr x hx => ?_⟩, by rw [l.1]; exact a2, by rw [l.1]; exact a3⟩
  have := s.1 r hr x hx
  exact ⟨by omega, by omega⟩
end Mi
end
/-! ## Sh1 -/
section
set_option maxHeartbeats 4000000
/-! Sh1: defs of the program read as plain functions (written by gl.py). -/
namespace Sh
open PySem Mi
def state_numbers_D : Df := { np := 1, ns := 2, md := .sub 0, body := [(.ret (.bi .tuple [(.fz (.comp (.op .add (.met .count (.var 1) [(.int 0)]) (.int 1)) (.name 1) (.e (.var 0)) none [1]))]))] }
def state_numbers_S (x : (List (List Int))) : {V : Option (List Int) // ∀ {Γ : Mi.Env} {gl : Glo} , W Γ gl state_numbers_D.body [some (.dat ((eT (eT eI)) x)), none] [] (PhiY (eT eI)) V} := ⟨_, fun {Γ gl }  =>
  (Y_ret (PA_of (P_tuple sqL (PA_of (P_fz (PN_comp (PI_of (I0_e sqT (P_var (f := (eT (eT eI))) rfl))) (fun _ => rfl) (fun x1 => PC_none) (fun x1 => (P_add (P_count sqT (PA_of (P_var (f := (eT eI)) rfl)) P_int) P_int))))))))⟩
def state_numbers (x : (List (List Int))) : Option (List Int) := (state_numbers_S x).1
def place_of_D : Df := { np := 2, ns := 8, md := .sub 0, body := [(.asg (.tup [(.name 4), (.name 5)]) (.var 1)),
    (.asg (.name 2) (.sub (.var 0) (.var 4))),
    (.ifs (.cmp .eq (.var 5) (.int 0)) [(.ret (.int 0))] []),
    (.asg (.name 3) (.fz (.comp (.var 6) (.tup [(.name 6), (.name 7)]) (.enum (.var 2)) (some (.cmp .eq (.var 7) (.int 0))) [6, 7]))),
    (.ret (.ite (.cmp .gt (.var 5) (.bi .len [(.var 3)])) (.bi .len [(.var 2)]) (.sub (.var 3) (.op .sub (.var 5) (.int 1)))))] }
def place_of_S (x : (List (List Int)) × (Int × Int)) : {V : Option Int // ∀ {Γ : Mi.Env} {gl : Glo} , W Γ gl place_of_D.body [some (.dat ((eT (eT eI)) x.1)), some (.dat ((eP eI eI) x.2)), none, none, none, none, none, none] [] (PhiY eI) V} := ⟨_, fun {Γ gl }  =>
  (W_tgt (f := (eP eI eI)) (P_var (f := (eP eI eI)) rfl) (fun _ => rfl) fun v1 =>
  (W_asg (f := (eT eI)) (P_sub sqT (PA_of (P_var (f := (eT (eT eI))) rfl)) (P_var (f := eI) rfl)) fun v2 =>
  (W_if (P_eq (by decide) (PA_of (P_var (f := eI) rfl)) (PA_of P_int))
  (Y_ret (PA_of P_int))
  (W_asg (f := (eL eI)) (P_fz (PN_comp (PI_of (I0_enum sqT (P_var (f := (eT eI)) rfl))) (fun _ => rfl) (fun x3 => (PC_some (P_eq (by decide) (PA_of (P_var (f := eI) rfl)) (PA_of P_int)))) (fun x3 => (P_var (f := eI) rfl)))) fun v4 =>
  (Y_ret (PA_of (P_ite (P_gt (P_var (f := eI) rfl) (P_len sqL (PA_of (P_var (f := (eL eI)) rfl)))) (P_len sqT (PA_of (P_var (f := (eT eI)) rfl))) (P_sub sqL (PA_of (P_var (f := (eL eI)) rfl)) (P_minus (P_var (f := eI) rfl) P_int)))))))))⟩
def place_of (x : (List (List Int)) × (Int × Int)) : Option Int := (place_of_S x).1
def law_same_D : Df := { np := 2, ns := 2, md := .sub 0, body := [(.ret (.cmp .eq (.bi .repr [(.var 0)]) (.bi .repr [(.var 1)])))] }
def law_same_S (x : PyData × PyData) : {V : Option Bool // ∀ {Γ : Mi.Env} {gl : Glo} , W Γ gl law_same_D.body [some (.dat (eA x.1)), some (.dat (eA x.2))] [] (PhiY eB) V} := ⟨_, fun {Γ gl }  =>
  (Y_ret (PA_of (P_eqS (P_repr (PA_of (P_var (f := eA) rfl))) (P_repr (PA_of (P_var (f := eA) rfl))))))⟩
def law_same (x : PyData × PyData) : Option Bool := (law_same_S x).1
end Sh
end
/-! ## ShM1 -/
section
set_option maxHeartbeats 2000000
/-! ShM1: facts on states and places. -/
namespace Sh
open PySem Mi
/-- where the saves of a row stand, from i on -/
def savesF (i : Nat) (r : List Int) : List Int := ((enumS i r).filter fun x => decide (x.2 = 0)).map fun x => x.1
def saves (r : List Int) : List Int := savesF 0 r
theorem savesF_len (r : List Int) : ∀ i, (savesF i r).length = r.count 0 := by
  induction r with
  | nil => intro i; rfl
  | cons x r ih =>
    intro i
    have := ih (i + 1)
    unfold savesF at this ⊢
    rw [enumS, List.filter_cons]
    by_cases h : x = 0
    · subst h
      simp only [decide_true, ↓reduceIte, List.map_cons, List.length_cons, this, List.count_cons_self]
    · have h' : ¬ ((x == 0) = true) := by simpa using h
      simp only [h, decide_false, Bool.false_eq_true, ↓reduceIte, this]
      rw [List.count_cons_of_ne h]
theorem saves_len (r : List Int) : (saves r).length = r.count 0 := savesF_len r 0
theorem savesF_mem {r : List Int} {i : Nat} {k : Int} (h : k ∈ savesF i r) : ∃ j : Nat, k = ((i + j : Nat) : Int) ∧ r[j]? = some 0 := by
  unfold savesF at h
  obtain ⟨p, hp, rfl⟩ := List.mem_map.mp h
  obtain ⟨h1, h2⟩ := List.mem_filter.mp hp
  obtain ⟨j, e1, e2⟩ := mem_enumS.mp h1
  exact ⟨j, e2, by rw [e1, of_decide_eq_true h2]⟩
theorem savesF_sorted (r : List Int) : ∀ i, (savesF i r).Pairwise (· < ·) := by
  induction r with
  | nil => intro i; exact List.Pairwise.nil
  | cons x r ih =>
    intro i
    have e : savesF i (x :: r) = if x = 0 then (i : Int) :: savesF (i + 1) r else savesF (i + 1) r := by
      unfold savesF
      rw [enumS, List.filter_cons]
      by_cases h : x = 0
      · simp [h]
      · simp [h]
    rw [e]
    split
    · refine List.Pairwise.cons (fun k hk => ?_) (ih _)
      obtain ⟨j, rfl, _⟩ := savesF_mem hk
      omega
    · exact ih _
theorem saves_lt {r : List Int} {k : Int} (h : k ∈ saves r) : 0 ≤ k ∧ k < r.length := by
  obtain ⟨j, rfl, e⟩ := savesF_mem h
  have := (List.getElem?_eq_some_iff.mp e).1
  omega
/-- the places of all states of a row -/
def spots (r : List Int) : List Int := [0] ++ saves r ++ [(r.length : Int)]
theorem spots_len (r : List Int) : (spots r).length = r.count 0 + 2 := by
  unfold spots
  simp only [List.length_append, List.length_singleton, saves_len]
  omega
theorem spots_sorted (r : List Int) : (spots r).Pairwise (· ≤ ·) := by
  unfold spots
  rw [List.pairwise_append]
  refine ⟨?_, List.pairwise_singleton _ _, fun a ha b hb => ?_⟩
  · rw [List.singleton_append]
    refine List.Pairwise.cons (fun k hk => (saves_lt hk).1) ((savesF_sorted r 0).imp fun h => Int.le_of_lt h)
  · rw [List.mem_singleton.mp hb]
    rcases List.mem_append.mp ha with z | z
    · rw [List.mem_singleton.mp z]; omega
    · exact Int.le_of_lt (saves_lt z).2
theorem spots_mem {r : List Int} {x : Int} (h : x ∈ spots r) : 0 ≤ x ∧ x ≤ r.length := by
  unfold spots at h
  rcases List.mem_append.mp h with z | z
  · rcases List.mem_append.mp z with z | z
    · rw [List.mem_singleton.mp z]; omega
    · have := saves_lt z; omega
  · rw [List.mem_singleton.mp z]; omega
theorem sorted_merge {l : List Int} (h : l.Pairwise (· ≤ ·)) : l.mergeSort (fun a b => decide (a ≤ b)) = l := List.mergeSort_of_pairwise (h.imp fun h => decide_eq_true h)
theorem state_numbers_eq (R : List (List Int)) : state_numbers R = some (R.map fun r => ((r.count 0 : Nat) : Int) + 1) := by
  unfold state_numbers state_numbers_S
  simp only [Option.bind_some, Option.map_some, compS_pure]
theorem place_of_eq {R : List (List Int)} {p : Int} {r : List Int} {i : Nat} (hr : atI R p = some r) (hi : i ≤ r.count 0 + 1) : place_of (R, (p, (i : Int))) = (spots r)[i]? := by
  unfold place_of place_of_S
  simp only [Option.bind_some, Option.map_some, hr, decide_eq_true_eq]
  rw [compS_filter]
  show (if (i : Int) = 0 then some 0 else if ((saves r).length : Int) < i then some (r.length : Int) else atI (saves r) ((i : Int) - 1)) = _
  rw [saves_len]
  unfold spots
  by_cases h0 : i = 0
  · subst h0
    rw [if_pos (by rfl)]
    rfl
  · rw [if_neg (by omega)]
    obtain ⟨j, rfl⟩ : ∃ j, i = j + 1 := ⟨i - 1, by omega⟩
    have h2 : ([0] ++ saves r).length = r.count 0 + 1 := by rw [List.length_append, List.length_singleton, saves_len]; omega
    by_cases h1 : j + 1 = r.count 0 + 1
    · rw [if_pos (by omega), List.getElem?_append_right (by omega), h2, h1, Nat.sub_self]; rfl
    · rw [if_neg (by omega), show ((j + 1 : Nat) : Int) - 1 = (j : Int) by omega, atI_nat, List.getElem?_append_left (by omega)]
      rfl
end Sh
end
/-! ## Sh2 -/
section
set_option maxHeartbeats 4000000
/-! Sh2: defs of the program read as plain functions (written by gl.py). -/
namespace Sh
open PySem Mi
def all_places_D : Df := { np := 1, ns := 5, md := .sub 0, body := [(.ret (.fz (.comp2 (.tup [(.var 1), (.var 3), (.var 4)]) (.tup [(.name 1), (.name 2)]) (.enum (.var 0)) none (.tup [(.name 3), (.name 4)]) (.enum (.var 2)) none [1, 2, 3, 4] [3, 4])))] }
def all_places_S (x : (List (List Int))) : {V : Option (List (Int × Int × Int)) // ∀ {Γ : Mi.Env} {gl : Glo} , W Γ gl all_places_D.body [some (.dat ((eT (eT eI)) x)), none, none, none, none] [] (PhiY (eL (e3 eI eI eI))) V} := ⟨_, fun {Γ gl }  =>
  (Y_ret (PA_of (P_fz (PN_comp2 (PI_of (I0_enum sqT (P_var (f := (eT (eT eI))) rfl))) (fun _ => rfl) (fun x1 => PC_none) (fun x1 => (PI_of (I0_enum sqT (P_var (f := (eT eI)) rfl)))) (fun _ _ => rfl) (fun x1 y2 => PC_none) (fun x1 y2 => (P_tup3 (P_var (f := eI) rfl) (P_var (f := eI) rfl) (P_var (f := eI) rfl)))))))⟩
def all_places (x : (List (List Int))) : Option (List (Int × Int × Int)) := (all_places_S x).1
def message_table_D (f_all_places : Nat) : Df := { np := 1, ns := 5, md := .sub 0, body := [(.asg (.name 1) (.fz (.dcomp (.var 2) (.tup [(.var 3), (.var 4)]) (.tup [(.name 3), (.name 4), (.name 2)]) (.e (.call f_all_places [(.var 0)])) (some (.cmp .ne (.var 2) (.int 0))) [3, 4, 2]))),
    (.ret (.fz (.dcomp (.var 2) (.tup [(.dsub (.var 1) (.var 2)), (.dget (.var 1) (.neg (.var 2)))]) (.name 2) (.e (.fz (.sortedD (.var 1)))) (some (.cmp .gt (.var 2) (.int 0))) [2])))] }
def message_table_S (x : (List (List Int))) : {V : Option (List (Int × ((Int × Int) × (Option (Int × Int))))) // ∀ {Γ : Mi.Env} {gl : Glo} {f_all_places : Nat} (h_all_places : SpD Γ f_all_places (fun (x : (List (List Int))) => [(eT (eT eI)) x]) (eL (e3 eI eI eI)) all_places), W Γ gl (message_table_D f_all_places).body [some (.dat ((eT (eT eI)) x)), none, none, none, none] [] (PhiY (eM (eP (eP eI eI) (eO (eP eI eI))))) V} := ⟨_, fun {Γ gl f_all_places} h_all_places =>
  (W_asg (f := (eM (eP eI eI))) (P_dcomp (PI_of (I0_e sqL (P_call h_all_places (PEs_one (P_var (f := (eT (eT eI))) rfl))))) (fun _ => rfl) (fun x1 => (PC_some (P_ne (by decide) (PA_of (P_var (f := eI) rfl)) (PA_of P_int)))) (fun x1 => (P_var (f := eI) rfl)) (fun x1 => (P_tup2 (P_var (f := eI) rfl) (P_var (f := eI) rfl)))) fun v2 =>
  (Y_ret (PA_of (P_dcomp (PI_of (I0_e sqL (P_fz (PN_sortedD (PD_of (P_var (f := (eM (eP eI eI))) rfl)))))) (fun _ => rfl) (fun x3 => (PC_some (P_gt (P_var (f := eI) rfl) P_int))) (fun x3 => (P_var (f := eI) rfl)) (fun x3 => (P_tup2 (P_dsub (PD_of (P_var (f := (eM (eP eI eI))) rfl)) (P_var (f := eI) rfl)) (P_dget (PD_of (P_var (f := (eM (eP eI eI))) rfl)) (P_neg (P_var (f := eI) rfl)))))))))⟩
def message_table (x : (List (List Int))) : Option (List (Int × ((Int × Int) × (Option (Int × Int))))) := (message_table_S x).1
def places_of_D (f_place_of : Nat) : Df := { np := 2, ns := 4, md := .sub 0, body := [(.ret (.fz (.comp (.call f_place_of [(.var 0), (.tup [(.var 2), (.var 3)])]) (.tup [(.name 2), (.name 3)]) (.enum (.var 1)) none [2, 3])))] }
def places_of_S (x : (List (List Int)) × (List Int)) : {V : Option (List Int) // ∀ {Γ : Mi.Env} {gl : Glo} {f_place_of : Nat} (h_place_of : SpR Γ f_place_of (fun (x : (List (List Int)) × (Int × Int)) => [(eT (eT eI)) x.1, (eP eI eI) x.2]) eI place_of), W Γ gl (places_of_D f_place_of).body [some (.dat ((eT (eT eI)) x.1)), some (.dat ((eT eI) x.2)), none, none] [] (PhiY (eL eI)) V} := ⟨_, fun {Γ gl f_place_of} h_place_of =>
  (Y_ret (PA_of (P_fz (PN_comp (PI_of (I0_enum sqT (P_var (f := (eT eI)) rfl))) (fun _ => rfl) (fun x1 => PC_none) (fun x1 => (P_call h_place_of.toD (PEs_cons (P_var (f := (eT (eT eI))) rfl) (PEs_one (P_tup2 (P_var (f := eI) rfl) (P_var (f := eI) rfl))))))))))⟩
def places_of (x : (List (List Int)) × (List Int)) : Option (List Int) := (places_of_S x).1
def is_before_D : Df := { np := 2, ns := 4, md := .sub 0, body := [(.asg (.tup [(.name 2), (.name 3)]) (.var 1)),
    (.ret (.cmp .lt (.var 3) (.sub (.var 0) (.var 2))))] }
def is_before_S (x : (List Int) × (Int × Int)) : {V : Option Bool // ∀ {Γ : Mi.Env} {gl : Glo} , W Γ gl is_before_D.body [some (.dat ((eL eI) x.1)), some (.dat ((eP eI eI) x.2)), none, none] [] (PhiY eB) V} := ⟨_, fun {Γ gl }  =>
  (W_tgt (f := (eP eI eI)) (P_var (f := (eP eI eI)) rfl) (fun _ => rfl) fun v1 =>
  (Y_ret (PA_of (P_lt (P_var (f := eI) rfl) (P_sub sqL (PA_of (P_var (f := (eL eI)) rfl)) (P_var (f := eI) rfl))))))⟩
def is_before (x : (List Int) × (Int × Int)) : Option Bool := (is_before_S x).1
def orphans_D (f_places_of f_message_table f_is_before : Nat) : Df := { np := 2, ns := 7, md := .sub 0, body := [(.asg (.name 2) (.call f_places_of [(.var 0), (.var 1)])),
    (.asg (.name 3) (.nw (.lst []))),
    (.loop false (.tup [(.name 4), (.tup [(.name 5), (.name 6)])]) (.items (.call f_message_table [(.var 0)])) [(.ifs (.and (.notN (.var 6)) (.and (.call f_is_before [(.var 2), (.var 6)]) (.not (.call f_is_before [(.var 2), (.var 5)])))) [(.expr (.met .append (.var 3) [(.var 4)]))] [])]),
    (.ret (.bi .tuple [(.fz (.sorted (.var 3)))]))] }
def orphans_S (x : (List (List Int)) × (List Int)) : {V : Option (List Int) // ∀ {Γ : Mi.Env} {gl : Glo} {f_places_of f_message_table f_is_before : Nat} (h_places_of : SpD Γ f_places_of (fun (x : (List (List Int)) × (List Int)) => [(eT (eT eI)) x.1, (eT eI) x.2]) (eL eI) places_of) (h_message_table : SpD Γ f_message_table (fun (x : (List (List Int))) => [(eT (eT eI)) x]) (eM (eP (eP eI eI) (eO (eP eI eI)))) message_table) (h_is_before : SpR Γ f_is_before (fun (x : (List Int) × (Int × Int)) => [(eL eI) x.1, (eP eI eI) x.2]) eB is_before), W Γ gl (orphans_D f_places_of f_message_table f_is_before).body [some (.dat ((eT (eT eI)) x.1)), some (.dat ((eT eI) x.2)), none, none, none, none, none] [] (PhiY (eT eI)) V} := ⟨_, fun {Γ gl f_places_of f_message_table f_is_before} h_places_of h_message_table h_is_before =>
  (W_asg (f := (eL eI)) (P_call h_places_of (PEs_cons (P_var (f := (eT (eT eI))) rfl) (PEs_one (P_var (f := (eT eI)) rfl)))) fun v1 =>
  (W_new (PN_lst (f := eI) (by decide) PH_nil) fun l2 =>
  (W_forG (k := (eT eI)) (a0 := l2) (fun (a3 : (List Int)) (j4 : Option Val × Option Val × Option Val) => [some (.dat ((eT (eT eI)) x.1)), some (.dat ((eT eI) x.2)), some (.dat ((eL eI) v1)), some (.ref 0), j4.1, j4.2.1, j4.2.2]) (fun (a3 : (List Int)) => [.lst (a3.map fun x => .dat (eI x))]) (_, _, _) retY (I0_items (P_call h_message_table (PEs_one (P_var (f := (eT (eT eI))) rfl)))) rfl rfl  (fun x5 a3 j4 => ⟨_, rfl,
  (W_if (P_and (P_notN (P_var (f := (eO (eP eI eI))) rfl)) (P_and (P_call h_is_before.toD (PEs_cons (P_var (f := (eL eI)) rfl) (PEs_one (P_get (P_var (f := (eO (eP eI eI))) rfl))))) (P_not (P_call h_is_before.toD (PEs_cons (P_var (f := (eL eI)) rfl) (PEs_one (P_var (f := (eP eI eI)) rfl)))))))
  (W_append (f := eI) rfl rfl (P_var (f := eI) rfl) fun l6 =>
  (Z_nil (a := l6) ⟨(_, _, _), rfl, rfl⟩))
  (Z_nil (a := a3) ⟨(_, _, _), rfl, rfl⟩))⟩) fun a7 j8 =>
  (Y_ret (PA_of (P_tuple sqL (PA_of (P_fz (PN_sorted (PA_own (f := eI) rfl rfl))))))))))⟩
def orphans (x : (List (List Int)) × (List Int)) : Option (List Int) := (orphans_S x).1
def is_consistent_D (f_orphans : Nat) : Df := { np := 2, ns := 2, md := .sub 0, body := [(.ret (.cmp .eq (.call f_orphans [(.var 0), (.var 1)]) (.tup [])))] }
def is_consistent_S (x : (List (List Int)) × (List Int)) : {V : Option Bool // ∀ {Γ : Mi.Env} {gl : Glo} {f_orphans : Nat} (h_orphans : SpR Γ f_orphans (fun (x : (List (List Int)) × (List Int)) => [(eT (eT eI)) x.1, (eT eI) x.2]) (eT eI) orphans), W Γ gl (is_consistent_D f_orphans).body [some (.dat ((eT (eT eI)) x.1)), some (.dat ((eT eI) x.2))] [] (PhiY eB) V} := ⟨_, fun {Γ gl f_orphans} h_orphans =>
  (Y_ret (PA_of (P_eq (by decide) (PA_of (P_call h_orphans.toD (PEs_cons (P_var (f := (eT (eT eI))) rfl) (PEs_one (P_var (f := (eT eI)) rfl))))) (PA_of (P_tup0 (f := eI))))))⟩
def is_consistent (x : (List (List Int)) × (List Int)) : Option Bool := (is_consistent_S x).1
end Sh
end
/-! ## Sh3 -/
section
set_option maxHeartbeats 4000000
/-! Sh3: defs of the program read as plain functions (written by gl.py). -/
namespace Sh
open PySem Mi Sh
def is_causal_D (f_message_table : Nat) : Df := { np := 2, ns := 5, md := .sub 0, body := [(.asg (.name 2) (.call f_message_table [(.var 0)])),
    (.ret (.bi .all [(.fz (.comp (.cmp .lt (.sub (.sub (.dsub (.var 2) (.var 3)) (.int 1)) (.int 1)) (.sub (.sub (.dsub (.var 2) (.var 4)) (.int 0)) (.int 1))) (.tup [(.name 3), (.name 4)]) (.zip (.var 1) (.slc (.var 1) (some (.int 1)) none)) none [3, 4]))]))] }
def is_causal_S (x : (List (List Int)) × (List Int)) : {V : Option Bool // ∀ {Γ : Mi.Env} {gl : Glo} {f_message_table : Nat} (h_message_table : SpD Γ f_message_table (fun (x : (List (List Int))) => [(eT (eT eI)) x]) (eM (eP (eP eI eI) (eO (eP eI eI)))) message_table), W Γ gl (is_causal_D f_message_table).body [some (.dat ((eT (eT eI)) x.1)), some (.dat ((eT eI) x.2)), none, none, none] [] (PhiY eB) V} := ⟨_, fun {Γ gl f_message_table} h_message_table =>
  (W_asg (f := (eM (eP (eP eI eI) (eO (eP eI eI))))) (P_call h_message_table (PEs_one (P_var (f := (eT (eT eI))) rfl))) fun v1 =>
  (Y_ret (PA_of (P_allL (PA_of (P_fz (PN_comp (PI_of (I0_zipT (P_var (f := (eT eI)) rfl) (P_slc (P_var (f := (eT eI)) rfl) (PO_some P_int) PO_none))) (fun _ => rfl) (fun x2 => PC_none) (fun x2 => (P_lt (P_part (i := 1) (g := eI) (c := fun x => x.2) (fun _ _ => rfl) (P_get (P_part (i := 1) (g := (eO (eP eI eI))) (c := fun x => x.2) (fun _ _ => rfl) (P_dsub (PD_of (P_var (f := (eM (eP (eP eI eI) (eO (eP eI eI))))) rfl)) (P_var (f := eI) rfl))))) (P_part (i := 1) (g := eI) (c := fun x => x.2) (fun _ _ => rfl) (P_part (i := 0) (g := (eP eI eI)) (c := fun x => x.1) (fun _ _ => rfl) (P_dsub (PD_of (P_var (f := (eM (eP (eP eI eI) (eO (eP eI eI))))) rfl)) (P_var (f := eI) rfl)))))))))))))⟩
def is_causal (x : (List (List Int)) × (List Int)) : Option Bool := (is_causal_S x).1
end Sh
end
/-! ## Sh4 -/
section
set_option maxHeartbeats 4000000
/-! Sh4: defs of the program read as plain functions (written by gl.py). -/
namespace Sh
open PySem Mi Sh
def interval_at_D : Df := { np := 2, ns := 2, md := .sub 0, body := [(.ret (.met .count (.slc (.var 0) none (some (.var 1))) [(.int 0)]))] }
noncomputable def interval_at_S (x : (List Int) × Int) : {V : Option Int // ∀ {Γ : Mi.Env} {gl : Glo} , W Γ gl interval_at_D.body [some (.dat ((eT eI) x.1)), some (.dat (eI x.2))] [] (PhiY eI) V} := ⟨_, fun {Γ gl }  =>
  (Y_ret (PA_of (P_count sqT (PA_of (P_slc (P_var (f := (eT eI)) rfl) PO_none (PO_some (P_var (f := eI) rfl)))) P_int)))⟩
noncomputable def interval_at (x : (List Int) × Int) : Option Int := (interval_at_S x).1
def received_messages_D (f_message_table : Nat) : Df := { np := 1, ns := 5, md := .sub 0, body := [(.asg (.name 1) (.nw (.lst []))),
    (.loop false (.tup [(.name 2), (.tup [(.name 3), (.name 4)])]) (.items (.call f_message_table [(.var 0)])) [(.ifs (.notN (.var 4)) [(.expr (.met .append (.var 1) [(.tupS [false, true, true] [(.var 2), (.var 3), (.var 4)])]))] [])]),
    (.ret (.var 1))] }
noncomputable def received_messages_S (x : (List (List Int))) : {V : Option (List (Int × Int × Int × Int × Int)) // ∀ {Γ : Mi.Env} {gl : Glo} {f_message_table : Nat} (h_message_table : SpD Γ f_message_table (fun (x : (List (List Int))) => [(eT (eT eI)) x]) (eM (eP (eP eI eI) (eO (eP eI eI)))) message_table), W Γ gl (received_messages_D f_message_table).body [some (.dat ((eT (eT eI)) x)), none, none, none, none] [] (PhiY (eL (e5 eI eI eI eI eI))) V} := ⟨_, fun {Γ gl f_message_table} h_message_table =>
  (W_new (PN_lst (f := (e5 eI eI eI eI eI)) (by decide) PH_nil) fun l1 =>
  (W_forG (k := (eL (e5 eI eI eI eI eI))) (a0 := l1) (fun (a2 : (List (Int × Int × Int × Int × Int))) (j3 : Option Val × Option Val × Option Val) => [some (.dat ((eT (eT eI)) x)), some (.ref 0), j3.1, j3.2.1, j3.2.2]) (fun (a2 : (List (Int × Int × Int × Int × Int))) => [.lst (a2.map fun x => .dat ((e5 eI eI eI eI eI) x))]) (_, _, _) retY (I0_items (P_call h_message_table (PEs_one (P_var (f := (eT (eT eI))) rfl)))) rfl rfl  (fun x4 a2 j3 => ⟨_, rfl,
  (W_if (P_notN (P_var (f := (eO (eP eI eI))) rfl))
  (W_append (f := (e5 eI eI eI eI eI)) rfl rfl (P_tup5S (P_var (f := eI) rfl) (P_var (f := (eP eI eI)) rfl) (P_get (P_var (f := (eO (eP eI eI))) rfl))) fun l5 =>
  (Z_nil (a := l5) ⟨(_, _, _), rfl, rfl⟩))
  (Z_nil (a := a2) ⟨(_, _, _), rfl, rfl⟩))⟩) fun a6 j7 =>
  (Y_ret (PA_own (f := (e5 eI eI eI eI eI)) rfl rfl))))⟩
noncomputable def received_messages (x : (List (List Int))) : Option (List (Int × Int × Int × Int × Int)) := (received_messages_S x).1
def causal_past_D (f_place_of f_received_messages : Nat) : Df := { np := 2, ns := 12, md := .sub 0, body := [(.asg (.tup [(.name 5), (.name 6)]) (.var 1)),
    (.asg (.name 2) (.nw (.rep (.fz (.lst [(.int 0)])) (.bi .len [(.var 0)])))),
    (.sset (.var 2) (.var 5) (.call f_place_of [(.var 0), (.var 1)])),
    (.asg (.name 3) (.call f_received_messages [(.var 0)])),
    (.asg (.name 4) (.bl true)),
    (.whl false (.var 4) [(.asg (.name 4) (.bl false)),
    (.loop false (.tup [(.name 7), (.name 8), (.name 9), (.name 10), (.name 11)]) (.e (.var 3)) [(.ifs (.and (.cmp .lt (.var 11) (.sub (.var 2) (.var 10))) (.cmp .le (.sub (.var 2) (.var 8)) (.var 9))) [(.sset (.var 2) (.var 8) (.op .add (.var 9) (.int 1))),
    (.asg (.name 4) (.bl true))] [])])]),
    (.ret (.var 2))] }
noncomputable def causal_past_S (x : (List (List Int)) × (Int × Int)) : {V : Option (List Int) // ∀ {Γ : Mi.Env} {gl : Glo} {f_place_of f_received_messages : Nat} (h_place_of : SpR Γ f_place_of (fun (x : (List (List Int)) × (Int × Int)) => [(eT (eT eI)) x.1, (eP eI eI) x.2]) eI place_of) (h_received_messages : SpD Γ f_received_messages (fun (x : (List (List Int))) => [(eT (eT eI)) x]) (eL (e5 eI eI eI eI eI)) received_messages), W Γ gl (causal_past_D f_place_of f_received_messages).body [some (.dat ((eT (eT eI)) x.1)), some (.dat ((eP eI eI) x.2)), none, none, none, none, none, none, none, none, none, none] [] (PhiY (eL eI)) V} := ⟨_, fun {Γ gl f_place_of f_received_messages} h_place_of h_received_messages =>
  (W_tgt (f := (eP eI eI)) (P_var (f := (eP eI eI)) rfl) (fun _ => rfl) fun v1 =>
  (W_new (PN_rep (PA_of (P_fz (PN_lst (by decide) (PH_cons P_int PH_nil)))) (P_len sqT (PA_of (P_var (f := (eT (eT eI))) rfl)))) fun l2 =>
  (W_sset (f := eI) rfl rfl (P_call h_place_of.toD (PEs_cons (P_var (f := (eT (eT eI))) rfl) (PEs_one (P_var (f := (eP eI eI)) rfl)))) (P_var (f := eI) rfl) fun l3 =>
  (W_asg (f := (eL (e5 eI eI eI eI eI))) (P_call h_received_messages (PEs_one (P_var (f := (eT (eT eI))) rfl))) fun v4 =>
  (W_asg (f := eB) P_bl fun v5 =>
  (W_whileG (k := (eL eI)) (a0 := (l3, v5)) (fun (a6 : (List Int) × Bool) (j7 : Option Val × Option Val × Option Val × Option Val × Option Val) => [some (.dat ((eT (eT eI)) x.1)), some (.dat ((eP eI eI) x.2)), some (.ref 0), some (.dat ((eL (e5 eI eI eI eI eI)) v4)), some (.dat (eB a6.2)), some (.dat (eI v1.1)), some (.dat (eI v1.2)), j7.1, j7.2.1, j7.2.2.1, j7.2.2.2.1, j7.2.2.2.2]) (fun (a6 : (List Int) × Bool) => [.lst (a6.1.map fun x => .dat (eI x))]) (_, _, _, _, _) retY rfl rfl  (fun a6 j7 => (P_var (f := eB) rfl)) (fun a6 j7 =>
  (W_asg (f := eB) P_bl fun v9 =>
  (W_forG (k := (eL eI)) (a0 := (a6.1, v9)) (fun (a10 : (List Int) × Bool) (j11 : Option Val × Option Val × Option Val × Option Val × Option Val) => [some (.dat ((eT (eT eI)) x.1)), some (.dat ((eP eI eI) x.2)), some (.ref 0), some (.dat ((eL (e5 eI eI eI eI eI)) v4)), some (.dat (eB a10.2)), some (.dat (eI v1.1)), some (.dat (eI v1.2)), j11.1, j11.2.1, j11.2.2.1, j11.2.2.2.1, j11.2.2.2.2]) (fun (a10 : (List Int) × Bool) => [.lst (a10.1.map fun x => .dat (eI x))]) (_, _, _, _, _) retZ (I0_e sqL (P_var (f := (eL (e5 eI eI eI eI eI))) rfl)) rfl rfl  (fun x12 a10 j11 => ⟨_, rfl,
  (W_if (P_and (P_lt (P_var (f := eI) rfl) (P_sub sqL (PA_own (f := eI) rfl rfl) (P_var (f := eI) rfl))) (P_le (P_sub sqL (PA_own (f := eI) rfl rfl) (P_var (f := eI) rfl)) (P_var (f := eI) rfl)))
  (W_sset (f := eI) rfl rfl (P_add (P_var (f := eI) rfl) P_int) (P_var (f := eI) rfl) fun l13 =>
  (W_asg (f := eB) P_bl fun v14 =>
  (Z_nil (a := (l13, v14)) ⟨(_, _, _, _, _), rfl, rfl⟩)))
  (Z_nil (a := (a10.1, a10.2)) ⟨(_, _, _, _, _), rfl, rfl⟩))⟩) fun a15 j16 =>
  (Z_nil (a := (a15.1, a15.2)) ⟨(_, _, _, _, _), rfl, rfl⟩)))) fun a17 j18 =>
  (Y_ret (PA_own (f := eI) rfl rfl))))))))⟩
noncomputable def causal_past (x : (List (List Int)) × (Int × Int)) : Option (List Int) := (causal_past_S x).1
def vector_of_D (f_causal_past f_interval_at : Nat) : Df := { np := 2, ns := 8, md := .sub 0, body := [(.asg (.tup [(.name 4), (.name 5)]) (.var 1)),
    (.asg (.name 2) (.call f_causal_past [(.var 0), (.var 1)])),
    (.asg (.name 3) (.nw (.comp (.ite (.cmp .gt (.var 7) (.int 0)) (.op .add (.call f_interval_at [(.var 6), (.op .sub (.var 7) (.int 1))]) (.int 1)) (.int 0)) (.tup [(.name 6), (.name 7)]) (.zip (.var 0) (.var 2)) none [6, 7]))),
    (.sset (.var 3) (.var 4) (.var 5)),
    (.ret (.bi .tuple [(.var 3)]))] }
noncomputable def vector_of_S (x : (List (List Int)) × (Int × Int)) : {V : Option (List Int) // ∀ {Γ : Mi.Env} {gl : Glo} {f_causal_past f_interval_at : Nat} (h_causal_past : SpD Γ f_causal_past (fun (x : (List (List Int)) × (Int × Int)) => [(eT (eT eI)) x.1, (eP eI eI) x.2]) (eL eI) causal_past) (h_interval_at : SpR Γ f_interval_at (fun (x : (List Int) × Int) => [(eT eI) x.1, eI x.2]) eI interval_at), W Γ gl (vector_of_D f_causal_past f_interval_at).body [some (.dat ((eT (eT eI)) x.1)), some (.dat ((eP eI eI) x.2)), none, none, none, none, none, none] [] (PhiY (eT eI)) V} := ⟨_, fun {Γ gl f_causal_past f_interval_at} h_causal_past h_interval_at =>
  (W_tgt (f := (eP eI eI)) (P_var (f := (eP eI eI)) rfl) (fun _ => rfl) fun v1 =>
  (W_asg (f := (eL eI)) (P_call h_causal_past (PEs_cons (P_var (f := (eT (eT eI))) rfl) (PEs_one (P_var (f := (eP eI eI)) rfl)))) fun v2 =>
  (W_new (PN_comp (PI_of (I0_zipM (P_var (f := (eT (eT eI))) rfl) (P_var (f := (eL eI)) rfl))) (fun _ => rfl) (fun x3 => PC_none) (fun x3 => (P_ite (P_gt (P_var (f := eI) rfl) P_int) (P_add (P_call h_interval_at.toD (PEs_cons (P_var (f := (eT eI)) rfl) (PEs_one (P_minus (P_var (f := eI) rfl) P_int)))) P_int) P_int))) fun l4 =>
  (W_sset (f := eI) rfl rfl (P_var (f := eI) rfl) (P_var (f := eI) rfl) fun l5 =>
  (Y_ret (PA_of (P_tuple sqL (PA_own (f := eI) rfl rfl))))))))⟩
noncomputable def vector_of (x : (List (List Int)) × (Int × Int)) : Option (List Int) := (vector_of_S x).1
def comes_before_D (f_vector_of : Nat) : Df := { np := 3, ns := 5, md := .sub 0, body := [(.asg (.tup [(.name 3), (.name 4)]) (.var 1)),
    (.ret (.cmp .lt (.var 4) (.sub (.call f_vector_of [(.var 0), (.var 2)]) (.var 3))))] }
noncomputable def comes_before_S (x : (List (List Int)) × (Int × Int) × (Int × Int)) : {V : Option Bool // ∀ {Γ : Mi.Env} {gl : Glo} {f_vector_of : Nat} (h_vector_of : SpR Γ f_vector_of (fun (x : (List (List Int)) × (Int × Int)) => [(eT (eT eI)) x.1, (eP eI eI) x.2]) (eT eI) vector_of), W Γ gl (comes_before_D f_vector_of).body [some (.dat ((eT (eT eI)) x.1)), some (.dat ((eP eI eI) x.2.1)), some (.dat ((eP eI eI) x.2.2)), none, none] [] (PhiY eB) V} := ⟨_, fun {Γ gl f_vector_of} h_vector_of =>
  (W_tgt (f := (eP eI eI)) (P_var (f := (eP eI eI)) rfl) (fun _ => rfl) fun v1 =>
  (Y_ret (PA_of (P_lt (P_var (f := eI) rfl) (P_sub sqT (PA_of (P_call h_vector_of.toD (PEs_cons (P_var (f := (eT (eT eI))) rfl) (PEs_one (P_var (f := (eP eI eI)) rfl))))) (P_var (f := eI) rfl))))))⟩
noncomputable def comes_before (x : (List (List Int)) × (Int × Int) × (Int × Int)) : Option Bool := (comes_before_S x).1
end Sh
end
/-! ## Uk53 -/
section
set_option maxHeartbeats 4000000
/-! Uk53: the law's defs read as plain functions (written by gl.py). -/
namespace K53
open PySem Mi Sh ShE
def law_one_D (f_law_next : Nat) : Df := { np := 2, ns := 2, md := .sub 2, body := [(.ret (.sub (.var 1) (.call f_law_next [(.var 0), (.bi .len [(.var 1)])])))] }
noncomputable def law_one_S (x : (List (Int × Int))) : {V : WM (Int × Int) // ∀ {Γ : Mi.Env} {gl : Glo} {f_law_next : Nat} (h_law_next : SpX dkE Γ f_law_next (fun (x : Int) => [eI x]) eI drawM), XW dkE Γ gl (law_one_D f_law_next).body [some (.ref 1), some (.dat ((eL (eP eI eI)) x))] [] (PsiY dkE (eP eI eI)) V} := ⟨_, fun {Γ gl f_law_next} h_law_next =>
  (XY_ret (X_sub sqL (X_of fun _ => (P_var (f := (eL (eP eI eI))) rfl)) (X_call h_law_next rfl (XEs_one (X_of fun _ => (P_len sqL (PA_of (P_var (f := (eL (eP eI eI))) rfl))))))))⟩
noncomputable def law_one (x : (List (Int × Int))) : WM (Int × Int) := (law_one_S x).1
def law_before_D (f_law_future f_law_place : Nat) : Df := { np := 3, ns := 3, md := .sub 0, body := [(.ifs (.cmp .eq (.sub (.var 1) (.int 0)) (.sub (.var 2) (.int 0))) [(.ret (.cmp .lt (.sub (.var 1) (.int 1)) (.sub (.var 2) (.int 1))))] []),
    (.ret (.cmp .lt (.sub (.call f_law_future [(.var 0), (.var 1)]) (.sub (.var 2) (.int 0))) (.call f_law_place [(.var 0), (.var 2)])))] }
noncomputable def law_before_S (x : (List (List Int)) × (Int × Int) × (Int × Int)) : {V : Option Bool // ∀ {Γ : Mi.Env} {gl : Glo} {f_law_future f_law_place : Nat} (h_law_future : SpD Γ f_law_future (fun (x : (List (List Int)) × (Int × Int)) => [(eT (eT eI)) x.1, (eP eI eI) x.2]) (eL eI) law_future) (h_law_place : SpR Γ f_law_place (fun (x : (List (List Int)) × (Int × Int)) => [(eT (eT eI)) x.1, (eP eI eI) x.2]) eI law_place), W Γ gl (law_before_D f_law_future f_law_place).body [some (.dat ((eT (eT eI)) x.1)), some (.dat ((eP eI eI) x.2.1)), some (.dat ((eP eI eI) x.2.2))] [] (PhiY eB) V} := ⟨_, fun {Γ gl f_law_future f_law_place} h_law_future h_law_place =>
  (W_if (P_eq (by decide) (PA_of (P_part (i := 0) (g := eI) (c := fun x => x.1) (fun _ _ => rfl) (P_var (f := (eP eI eI)) rfl))) (PA_of (P_part (i := 0) (g := eI) (c := fun x => x.1) (fun _ _ => rfl) (P_var (f := (eP eI eI)) rfl))))
  (Y_ret (PA_of (P_lt (P_part (i := 1) (g := eI) (c := fun x => x.2) (fun _ _ => rfl) (P_var (f := (eP eI eI)) rfl)) (P_part (i := 1) (g := eI) (c := fun x => x.2) (fun _ _ => rfl) (P_var (f := (eP eI eI)) rfl)))))
  (Y_ret (PA_of (P_lt (P_sub sqL (PA_of (P_call h_law_future (PEs_cons (P_var (f := (eT (eT eI))) rfl) (PEs_one (P_var (f := (eP eI eI)) rfl))))) (P_part (i := 0) (g := eI) (c := fun x => x.1) (fun _ _ => rfl) (P_var (f := (eP eI eI)) rfl))) (P_call h_law_place.toD (PEs_cons (P_var (f := (eT (eT eI))) rfl) (PEs_one (P_var (f := (eP eI eI)) rfl))))))))⟩
noncomputable def law_before (x : (List (List Int)) × (Int × Int) × (Int × Int)) : Option Bool := (law_before_S x).1
def law_vector_D (f_law_before : Nat) : Df := { np := 2, ns := 5, md := .sub 0, body := [(.asg (.name 2) (.nw (.lst []))),
    (.loop false (.name 3) (.range1 (.bi .len [(.var 0)])) [(.asg (.name 4) (.int 0)),
    (.whl false (.call f_law_before [(.var 0), (.tup [(.var 3), (.var 4)]), (.var 1)]) [(.asg (.name 4) (.op .add (.var 4) (.int 1)))]),
    (.expr (.met .append (.var 2) [(.var 4)]))]),
    (.ret (.bi .tuple [(.var 2)]))] }
noncomputable def law_vector_S (x : (List (List Int)) × (Int × Int)) : {V : Option (List Int) // ∀ {Γ : Mi.Env} {gl : Glo} {f_law_before : Nat} (h_law_before : SpR Γ f_law_before (fun (x : (List (List Int)) × (Int × Int) × (Int × Int)) => [(eT (eT eI)) x.1, (eP eI eI) x.2.1, (eP eI eI) x.2.2]) eB law_before), W Γ gl (law_vector_D f_law_before).body [some (.dat ((eT (eT eI)) x.1)), some (.dat ((eP eI eI) x.2)), none, none, none] [] (PhiY (eT eI)) V} := ⟨_, fun {Γ gl f_law_before} h_law_before =>
  (W_new (PN_lst (f := eI) (by decide) PH_nil) fun l1 =>
  (W_forG (k := (eT eI)) (a0 := l1) (fun (a2 : (List Int)) (j3 : Option Val × Option Val) => [some (.dat ((eT (eT eI)) x.1)), some (.dat ((eP eI eI) x.2)), some (.ref 0), j3.1, j3.2]) (fun (a2 : (List Int)) => [.lst (a2.map fun x => .dat (eI x))]) (_, _) retY (I0_range1 (P_len sqT (PA_of (P_var (f := (eT (eT eI))) rfl)))) rfl rfl  (fun x4 a2 j3 => ⟨_, rfl,
  (W_asg (f := eI) P_int fun v5 =>
  (W_whileG (k := (eT eI)) (a0 := v5) (fun (a6 : Int) (j7 : Unit) => [some (.dat ((eT (eT eI)) x.1)), some (.dat ((eP eI eI) x.2)), some (.ref 0), some (.dat (eI x4)), some (.dat (eI a6))]) (fun (a6 : Int) => [.lst (a2.map fun x => .dat (eI x))]) () retZ rfl rfl  (fun a6 j7 => (P_call h_law_before.toD (PEs_cons (P_var (f := (eT (eT eI))) rfl) (PEs_cons (P_tup2 (P_var (f := eI) rfl) (P_var (f := eI) rfl)) (PEs_one (P_var (f := (eP eI eI)) rfl)))))) (fun a6 j7 =>
  (W_asg (f := eI) (P_add (P_var (f := eI) rfl) P_int) fun v9 =>
  (Z_nil (a := v9) ⟨(), rfl, rfl⟩))) fun a10 j11 =>
  (W_append (f := eI) rfl rfl (P_var (f := eI) rfl) fun l12 =>
  (Z_nil (a := l12) ⟨(_, _), rfl, rfl⟩))))⟩) fun a13 j14 =>
  (Y_ret (PA_of (P_tuple sqL (PA_own (f := eI) rfl rfl))))))⟩
noncomputable def law_vector (x : (List (List Int)) × (Int × Int)) : Option (List Int) := (law_vector_S x).1
def law_main_D (f_law_history f_law_states f_law_one f_law_vector f_vector_of : Nat) : Df := { np := 1, ns := 9, md := .keep, body := [(.asg (.name 1) (.call 7 [(.var 0)])),
    (.loop false (.name 2) (.range1 (.int 3)) [(.asg (.name 3) (.call f_law_history [(.var 1), (.int 6), (.int 60)])),
    (.pars [5, 6] [(.bi .repr [(.var 3)]), (.call f_law_states [(.var 3)])]),
    (.loop false (.name 4) (.e (.fz (.add (.fz (.lst [(.sub (.var 6) (.int 0)), (.sub (.var 6) (.neg (.int 1)))])) (.fz (.comp (.call f_law_one [(.var 1), (.var 6)]) (.name 8) (.range1 (.int 6)) none [8]))))) [(.asg (.name 7) (.call f_law_vector [(.var 3), (.var 4)])),
    (.ifs (.cmp .ne (.bi .repr [(.fz (.lst [(.call f_vector_of [(.var 3), (.var 4)]), (.call f_vector_of [(.var 3), (.var 4)])]))]) (.bi .repr [(.fz (.lst [(.var 7), (.var 7)]))])) [(.ret (.bl false))] []),
    (.ifs (.cmp .ne (.sub (.var 7) (.sub (.var 4) (.int 0))) (.sub (.var 4) (.int 1))) [(.ret (.bl false))] [])]),
    (.ifs (.cmp .ne (.bi .repr [(.var 3)]) (.var 5)) [(.ret (.bl false))] [])]),
    (.ret (.bl true))] }
noncomputable def law_main_S : {V : WM Bool // ∀ (ns : List Int) {Γ : Mi.Env} {gl : Glo} {f_law_history f_law_states f_law_one f_law_vector f_vector_of : Nat} (h_law_history : SpX dkE Γ f_law_history (fun (x : Int × Int) => [eI x.1, eI x.2]) (eT (eT eI)) law_history) (h_law_states : SpD Γ f_law_states (fun (x : (List (List Int))) => [(eT (eT eI)) x]) (eL (eP eI eI)) law_states) (h_law_one : SpX dkE Γ f_law_one (fun (x : (List (Int × Int))) => [(eL (eP eI eI)) x]) (eP eI eI) law_one) (h_law_vector : SpR Γ f_law_vector (fun (x : (List (List Int)) × (Int × Int)) => [(eT (eT eI)) x.1, (eP eI eI) x.2]) (eT eI) law_vector) (h_vector_of : SpR Γ f_vector_of (fun (x : (List (List Int)) × (Int × Int)) => [(eT (eT eI)) x.1, (eP eI eI) x.2]) (eT eI) vector_of), XW dkE Γ gl (law_main_D f_law_history f_law_states f_law_one f_law_vector f_vector_of).body.tail [some (.scr ns), some (.ref 1), none, none, none, none, none, none, none] [] (PsiY dkE eB) V} := ⟨_, fun ns {Γ gl f_law_history f_law_states f_law_one f_law_vector f_vector_of} h_law_history h_law_states h_law_one h_law_vector h_vector_of =>
  (XW_forG (k := eB) (a0 := ()) (fun (a1 : Unit) (j2 : Option Val × Option Val × Option Val × Option Val × Option Val × Option Val) => [some (.scr ns), some (.ref 1), j2.1, j2.2.1, j2.2.2.1, j2.2.2.2.1, j2.2.2.2.2.1, j2.2.2.2.2.2, none]) (fun (a1 : Unit) => []) (_, _, _, _, _, _) xretY (XI_of fun _ => (I0_range1 P_int)) rfl rfl  (fun x3 a1 j2 => ⟨_, rfl,
  (XW_asg (f := (eT (eT eI))) (X_call h_law_history rfl (XEs_cons (X_of fun _ => P_int) (XEs_one (X_of fun _ => P_int)))) fun v4 =>
  (XW_pars (XK_dat (f := eS) (X_of fun _ => (P_repr (PA_of (P_var (f := (eT (eT eI))) rfl)))) fun v5 => (XK_dat (f := (eL (eP eI eI))) (X_of fun _ => (P_call h_law_states (PEs_one (P_var (f := (eT (eT eI))) rfl)))) fun v6 => (XK_nil ⟨_, rfl,
  (XW_forG (k := eB) (a0 := ()) (fun (a9 : Unit) (j10 : Option Val × Option Val) => [some (.scr ns), some (.ref 1), some (.dat (eI x3)), some (.dat ((eT (eT eI)) v4)), j10.1, some (.dat (eS v5)), some (.dat ((eL (eP eI eI)) v6)), j10.2, none]) (fun (a9 : Unit) => []) (_, _) xretZ (XI_e sqL (X_fz (XN_add (X_of fun _ => (P_fz (PN_lst (Nat.le_of_ble_eq_true rfl) (PH_cons (P_sub sqL (PA_of (P_var (f := (eL (eP eI eI))) rfl)) P_int) (PH_cons (P_sub sqL (PA_of (P_var (f := (eL (eP eI eI))) rfl)) (P_neg P_int)) PH_nil))))) (X_fz (XN_comp (XI_of fun _ => (I0_range1 P_int)) (fun _ => rfl) (fun x8 => XC_none) (fun x8 => (X_call h_law_one rfl (XEs_one (X_of fun _ => (P_var (f := (eL (eP eI eI))) rfl)))))))))) rfl rfl  (fun x11 a9 j10 => ⟨_, rfl,
  (XW_asg (f := (eT eI)) (X_of fun _ => (P_call h_law_vector.toD (PEs_cons (P_var (f := (eT (eT eI))) rfl) (PEs_one (P_var (f := (eP eI eI)) rfl))))) fun v12 =>
  (XW_if (X_of fun _ => (P_neS (P_repr (PA_of (P_fz (PN_lst (Nat.le_of_ble_eq_true rfl) (PH_cons (P_call h_vector_of.toD (PEs_cons (P_var (f := (eT (eT eI))) rfl) (PEs_one (P_var (f := (eP eI eI)) rfl)))) (PH_cons (P_call h_vector_of.toD (PEs_cons (P_var (f := (eT (eT eI))) rfl) (PEs_one (P_var (f := (eP eI eI)) rfl)))) PH_nil)))))) (P_repr (PA_of (P_fz (PN_lst (Nat.le_of_ble_eq_true rfl) (PH_cons (P_var (f := (eT eI)) rfl) (PH_cons (P_var (f := (eT eI)) rfl) PH_nil))))))))
  (XZ_ret (X_of fun _ => P_bl))
  (XW_if (X_of fun _ => (P_ne (by decide) (PA_of (P_sub sqT (PA_of (P_var (f := (eT eI)) rfl)) (P_part (i := 0) (g := eI) (c := fun x => x.1) (fun _ _ => rfl) (P_var (f := (eP eI eI)) rfl)))) (PA_of (P_part (i := 1) (g := eI) (c := fun x => x.2) (fun _ _ => rfl) (P_var (f := (eP eI eI)) rfl)))))
  (XZ_ret (X_of fun _ => P_bl))
  (XZ_nil (a := ()) ⟨(_, _), rfl, rfl⟩))))⟩) fun a13 j14 =>
  (XW_if (X_of fun _ => (P_neS (P_repr (PA_of (P_var (f := (eT (eT eI))) rfl))) (P_var (f := eS) rfl)))
  (XZ_ret (X_of fun _ => P_bl))
  (XZ_nil (a := ()) ⟨(_, _, _, _, _, _), rfl, rfl⟩)))⟩)))))⟩) fun a15 j16 =>
  (XY_ret (X_of fun _ => P_bl)))⟩
noncomputable def law_main : WM Bool := law_main_S.1
end K53
end
/-! ## MiG -/
section
set_option maxHeartbeats 2000000
/-! MiG: histories: what every generator gives. -/
namespace Mi
open PySem
/-- turns, rows, messages under way (number, sender) -/
inductive Hs (cnt : Nat) : Nat → List (List Int) → List (Int × Int) → Prop
  | zero : Hs cnt 0 (List.replicate cnt []) []
  | save {j R O p} : Hs cnt j R O → p < cnt → Hs cnt (j + 1) (push R p 0) O
  | send {j R O p m} : Hs cnt j R O → p < cnt → 1 ≤ m → m ≤ 1000 → (∀ r ∈ R, m ∉ r) → Hs cnt (j + 1) (push R p m) (O ++ [(m, (p : Int))])
  | skip {j R O} : Hs cnt j R O → Hs cnt (j + 1) R O
  | recv {j R O p k m q} : Hs cnt j R O → p < cnt → O[k]? = some (m, q) → q ≠ (p : Int) → Hs cnt (j + 1) (push R p (0 - m)) (O.eraseIdx k)
/-- an event stands at a place -/
def Evt (R : List (List Int)) (p i : Nat) (e : Int) : Prop := ∃ r, R[p]? = some r ∧ r[i]? = some e
theorem Evt_rep {cnt p i : Nat} {e : Int} : ¬ Evt (List.replicate cnt []) p i e := fun ⟨r, h1, h2⟩ => by
  rw [List.eq_of_mem_replicate (List.mem_of_getElem? h1)] at h2
  cases h2
theorem push_len (R : List (List Int)) (p : Nat) (x : Int) : (push R p x).length = R.length := List.length_set
theorem Evt_push {R : List (List Int)} {p q i : Nat} {x e : Int} (hp : p < R.length) : Evt (push R p x) q i e ↔ Evt R q i e ∨ (q = p ∧ i = (R.getD p []).length ∧ e = x) := by
  unfold Evt push
  have hg : R[p]? = some (R.getD p []) := by rw [List.getD_eq_getElem?_getD, List.getElem?_eq_getElem hp]; rfl
  by_cases hq : q = p
  · subst hq
    rw [List.getElem?_set_self hp, hg]
    constructor
    · rintro ⟨r, h1, h2⟩
      cases h1
      by_cases hi : i < (R.getD q []).length
      · rw [List.getElem?_append_left hi] at h2
        exact .inl ⟨_, rfl, h2⟩
      · rw [List.getElem?_append_right (by omega)] at h2
        have h3 := (List.getElem?_eq_some_iff.mp h2).1
        rw [List.length_singleton] at h3
        have hi2 : i = (R.getD q []).length := by omega
        subst hi2
        rw [Nat.sub_self] at h2
        cases h2
        exact .inr ⟨rfl, rfl, rfl⟩
    · rintro (⟨r, h1, h2⟩ | ⟨_, rfl, rfl⟩)
      · cases h1
        refine ⟨_, rfl, ?_⟩
        rw [List.getElem?_append_left (List.getElem?_eq_some_iff.mp h2).1]
        exact h2
      · refine ⟨_, rfl, ?_⟩
        rw [List.getElem?_append_right (Nat.le_refl _), Nat.sub_self]; rfl
  · rw [List.getElem?_set_ne (Ne.symm hq)]
    constructor
    · exact fun h => .inl h
    · rintro (h | ⟨h, _⟩)
      · exact h
      · exact absurd h hq
theorem Evt.mem {R : List (List Int)} {p i : Nat} {e : Int} (h : Evt R p i e) : ∃ r ∈ R, e ∈ r := by
  obtain ⟨r, h1, h2⟩ := h
  exact ⟨r, List.mem_of_getElem? h1, List.mem_of_getElem? h2⟩
theorem Evt.fn {R : List (List Int)} {p i : Nat} {e e' : Int} (h : Evt R p i e) (h' : Evt R p i e') : e = e' := by
  obtain ⟨r, h1, h2⟩ := h
  obtain ⟨r', h3, h4⟩ := h'
  rw [h1] at h3; cases h3
  rw [h2] at h4; cases h4; rfl
structure HI (cnt : Nat) (R : List (List Int)) (O : List (Int × Int)) : Prop where
  len : R.length = cnt
  uniq : ∀ {p i q j : Nat} {e : Int}, e ≠ 0 → Evt R p i e → Evt R q j e → p = q ∧ i = j
  rcv : ∀ {p i : Nat} {m : Int}, 0 < m → Evt R p i (0 - m) → ∃ q k, Evt R q k m ∧ q ≠ p
  opn : ∀ {m q : Int}, (m, q) ∈ O → 1 ≤ m ∧ 0 ≤ q ∧ q < cnt ∧ (∃ k, Evt R q.toNat k m) ∧ ∀ p i, ¬ Evt R p i (0 - m)
  ond : (O.map Prod.fst).Nodup
  bnd : ∀ {p i : Nat} {e : Int}, Evt R p i e → -1000 ≤ e ∧ e ≤ 1000
theorem HI.of {cnt j : Nat} {R : List (List Int)} {O : List (Int × Int)} (g : Hs cnt j R O) : HI cnt R O := by
  induction g with
  | zero => exact ⟨List.length_replicate, fun _ h => absurd h Evt_rep, fun _ h => absurd h Evt_rep, fun h => absurd h List.not_mem_nil, List.nodup_nil, fun h => absurd h Evt_rep⟩
  | @save j R O p g hp ih =>
    have hp' : p < R.length := by rw [ih.len]; exact hp
    have old : ∀ {q i : Nat} {e : Int}, e ≠ 0 → Evt (push R p 0) q i e → Evt R q i e := fun he h => by
      rcases (Evt_push hp').mp h with h | ⟨_, _, h⟩
      · exact h
      · exact absurd h he
    have new : ∀ {q i : Nat} {e : Int}, Evt R q i e → Evt (push R p 0) q i e := fun h => (Evt_push hp').mpr (.inl h)
    refine ⟨by rw [push_len]; exact ih.len, fun he h1 h2 => ih.uniq he (old he h1) (old he h2), fun hm h => ?_, fun h => ?_, ih.ond, fun h => ?_⟩
    · obtain ⟨q, k, h1, h2⟩ := ih.rcv hm (old (by omega) h)
      exact ⟨q, k, new h1, h2⟩
    · obtain ⟨h1, h2, h3, ⟨k, h4⟩, h5⟩ := ih.opn h
      exact ⟨h1, h2, h3, ⟨k, new h4⟩, fun p i h => h5 p i (old (by omega) h)⟩
    · rcases (Evt_push hp').mp h with h | ⟨_, _, h⟩
      · exact ih.bnd h
      · subst h; exact ⟨by decide, by decide⟩
  | skip _ ih => exact ih
  | @send j R O p m g hp h1 h2 hm ih =>
    have hp' : p < R.length := by rw [ih.len]; exact hp
    have noM : ∀ {q i : Nat}, ¬ Evt R q i m := fun h => by
      obtain ⟨r, a, b⟩ := h.mem
      exact hm r a b
    have noN : ∀ {q i : Nat}, ¬ Evt R q i (0 - m) := fun h => by
      obtain ⟨_, _, a, _⟩ := ih.rcv (by omega) h
      exact noM a
    have new : ∀ {q i : Nat} {e : Int}, Evt R q i e → Evt (push R p m) q i e := fun h => (Evt_push hp').mpr (.inl h)
    have old : ∀ {q i : Nat} {e : Int}, e ≠ m → Evt (push R p m) q i e → Evt R q i e := fun he h => by
      rcases (Evt_push hp').mp h with h | ⟨_, _, h⟩
      · exact h
      · exact absurd h he
    have atM : Evt (push R p m) p (R.getD p []).length m := (Evt_push hp').mpr (.inr ⟨rfl, rfl, rfl⟩)
    have isM : ∀ {q i : Nat}, Evt (push R p m) q i m → q = p ∧ i = (R.getD p []).length := fun h => by
      rcases (Evt_push hp').mp h with h | ⟨a, b, _⟩
      · exact absurd h noM
      · exact ⟨a, b⟩
    refine ⟨by rw [push_len]; exact ih.len, fun {p1 i1 q1 j1 e} he a b => ?_, fun {p1 i1 m1} hm1 h => ?_, fun {m1 q1} h => ?_, ?_, fun h => ?_⟩
    · by_cases hem : e = m
      · subst hem
        have x := isM a
        have y := isM b
        exact ⟨x.1.trans y.1.symm, x.2.trans y.2.symm⟩
      · exact ih.uniq he (old hem a) (old hem b)
    · obtain ⟨q, k, a, b⟩ := ih.rcv hm1 (old (by omega) h)
      exact ⟨q, k, new a, b⟩
    · rcases List.mem_append.mp h with h | h
      · obtain ⟨a1, a2, a3, ⟨k, a4⟩, a5⟩ := ih.opn h
        exact ⟨a1, a2, a3, ⟨k, new a4⟩, fun p i h => a5 p i (old (by omega) h)⟩
      · cases List.mem_singleton.mp h
        exact ⟨h1, by omega, by omega, ⟨_, by rw [Int.toNat_natCast]; exact atM⟩, fun p i h => noN (old (by omega) h)⟩
    · rw [List.map_append, List.nodup_append]
      refine ⟨ih.ond, List.nodup_cons.mpr ⟨List.not_mem_nil, List.nodup_nil⟩, fun a ha b hb => ?_⟩
      rw [List.mem_singleton.mp hb]
      rintro rfl
      obtain ⟨⟨m1, q1⟩, x, y⟩ := List.mem_map.mp ha
      obtain ⟨_, _, _, ⟨k, a4⟩, _⟩ := ih.opn x
      exact noM (by rw [← show m1 = a from y]; exact a4)
    · rcases (Evt_push hp').mp h with h | ⟨_, _, h⟩
      · exact ih.bnd h
      · subst h; exact ⟨by omega, h2⟩
  | @recv j R O p k m q g hp hk hq ih =>
    have hp' : p < R.length := by rw [ih.len]; exact hp
    obtain ⟨b1, b2, b3, ⟨k0, b4⟩, b5⟩ := ih.opn (List.mem_of_getElem? hk)
    have new : ∀ {q i : Nat} {e : Int}, Evt R q i e → Evt (push R p (0 - m)) q i e := fun h => (Evt_push hp').mpr (.inl h)
    have old : ∀ {q i : Nat} {e : Int}, e ≠ 0 - m → Evt (push R p (0 - m)) q i e → Evt R q i e := fun he h => by
      rcases (Evt_push hp').mp h with h | ⟨_, _, h⟩
      · exact h
      · exact absurd h he
    have isM : ∀ {q i : Nat}, Evt (push R p (0 - m)) q i (0 - m) → q = p ∧ i = (R.getD p []).length := fun h => by
      rcases (Evt_push hp').mp h with h | ⟨a, b, _⟩
      · exact absurd h (b5 _ _)
      · exact ⟨a, b⟩
    have pm : (O[k]'(List.getElem?_eq_some_iff.mp hk).1 :: O.eraseIdx k).Perm O := erase_perm _
    rw [(List.getElem?_eq_some_iff.mp hk).2] at pm
    have nd : (((m, q) :: O.eraseIdx k).map Prod.fst).Nodup := (pm.map Prod.fst).nodup_iff.mpr ih.ond
    rw [List.map_cons, List.nodup_cons] at nd
    refine ⟨by rw [push_len]; exact ih.len, fun {p1 i1 q1 j1 e} he a b => ?_, fun {p1 i1 m1} hm1 h => ?_, fun {m1 q1} h => ?_, nd.2, fun h => ?_⟩
    · by_cases hem : e = 0 - m
      · subst hem
        have x := isM a
        have y := isM b
        exact ⟨x.1.trans y.1.symm, x.2.trans y.2.symm⟩
      · exact ih.uniq he (old hem a) (old hem b)
    · by_cases hem : m1 = m
      · subst hem
        have x := isM h
        refine ⟨q.toNat, k0, new b4, ?_⟩
        rw [x.1]
        omega
      · obtain ⟨q2, k2, a, b⟩ := ih.rcv hm1 (old (by omega) h)
        exact ⟨q2, k2, new a, b⟩
    · have h' : (m1, q1) ∈ O := List.mem_of_mem_eraseIdx h
      have hne : m1 ≠ m := fun e => nd.1 (List.mem_map.mpr ⟨(m1, q1), h, e⟩)
      obtain ⟨a1, a2, a3, ⟨k1, a4⟩, a5⟩ := ih.opn h'
      exact ⟨a1, a2, a3, ⟨k1, new a4⟩, fun p i h => a5 p i (old (by omega) h)⟩
    · rcases (Evt_push hp').mp h with h | ⟨_, _, h⟩
      · exact ih.bnd h
      · subst h
        have := ih.bnd b4
        exact ⟨by omega, by omega⟩
end Mi
end
/-! ## ShGE -/
section
set_option maxHeartbeats 2000000
/-! ShGE: what generator E gives. -/
namespace ShE
open PySem Mi
theorem Hs.len {cnt j : Nat} {R : List (List Int)} {O : List (Int × Int)} (g : Hs cnt j R O) : O.length ≤ j ∧ ∀ r ∈ R, r.length ≤ j := by
  have pu : ∀ {R : List (List Int)} {p : Nat} {x : Int} {j : Nat}, (∀ r ∈ R, r.length ≤ j) → ∀ r ∈ push R p x, r.length ≤ j + 1 := fun {R p x j} h r hr => by
    rcases push_mem hr with k | ⟨rfl, hp⟩
    · exact Nat.le_succ_of_le (h r k)
    · rw [List.length_append, List.length_singleton]
      exact Nat.succ_le_succ (h _ (getD_mem hp))
  induction g with
  | zero => exact ⟨Nat.le_refl _, fun r hr => by rw [List.eq_of_mem_replicate hr]; exact Nat.le_refl _⟩
  | save _ _ ih => exact ⟨Nat.le_succ_of_le ih.1, pu ih.2⟩
  | send _ _ _ _ _ ih => exact ⟨by rw [List.length_append, List.length_singleton]; exact Nat.succ_le_succ ih.1, pu ih.2⟩
  | skip _ ih => exact ⟨Nat.le_succ_of_le ih.1, fun r hr => Nat.le_succ_of_le (ih.2 r hr)⟩
  | recv _ _ _ _ ih => exact ⟨Nat.le_trans (List.length_eraseIdx_le _ _) (Nat.le_succ_of_le ih.1), pu ih.2⟩
/-- labels that are left -/
structure LB (ls : List Int) (R : List (List Int)) : Prop where
  nd : ls.Nodup
  ok : ∀ l ∈ ls, 1 ≤ l ∧ l ≤ 1000
  no : ∀ l ∈ ls, ∀ r ∈ R, l ∉ r
theorem LB.push {ls : List Int} {R : List (List Int)} {p : Nat} {e : Int} (h : LB ls R) (he : e ∉ ls) : LB ls (push R p e) := ⟨h.nd, h.ok, fun l hl r hr hlr => by
  rcases push_mem hr with k | ⟨rfl, hp⟩
  · exact h.no l hl r k hlr
  · rcases List.mem_append.mp hlr with z | z
    · exact h.no l hl _ (getD_mem hp) z
    · rw [List.mem_singleton.mp z] at hl
      exact he hl⟩
theorem put_ok {R : List (List Int)} {p : Nat} {e : Int} (hp : p < R.length) (hl : ∀ r ∈ R, r.length ≤ 10000) : ((atI R (p : Int)).bind fun x => catS x [e]) = some (R.getD p [] ++ [e]) ∧ setS R (p : Int) (R.getD p [] ++ [e]) = some (Mi.push R p e) := by
  have h0 := hl _ (getD_mem hp)
  constructor
  · rw [atI_lt hp]
    show catS R[p] [e] = _
    have : R[p] = R.getD p [] := by rw [List.getD_eq_getElem?_getD, List.getElem?_eq_getElem hp]; rfl
    rw [this, catS_le (by rw [List.length_singleton]; omega)]
  · unfold setS ixN
    rw [if_pos (by omega), if_pos (by omega)]
    show some (R.set ((p : Int)).toNat _) = _
    rw [Int.toNat_natCast]; rfl
theorem removeS_ok {α : Type} [DecidableEq α] {xs : List α} {x : α} (h : x ∈ xs) : ∃ k, xs[k]? = some x ∧ removeS xs x = some (xs.eraseIdx k) := by
  unfold removeS
  cases e : xs.findIdx? fun y => decide (y = x) with
  | none =>
    rw [List.findIdx?_eq_none_iff] at e
    have := e x h
    simp at this
  | some k =>
    obtain ⟨hk, h2, _⟩ := List.findIdx?_eq_some_iff_getElem.mp e
    exact ⟨k, by rw [List.getElem?_eq_getElem hk, of_decide_eq_true h2], rfl⟩
theorem hist_ok {many most : Int} {n : Nat} {Q : List (List Int) → Nat → Prop} (hn : n + 5000 < 1000000000) (h1 : 1 ≤ many) (h2 : many ≤ 1000) (h3 : 0 ≤ most) (h4 : most ≤ 500)
    (q : ∀ R O cnt j n', Hs cnt j R O → 1 ≤ cnt → (cnt : Int) ≤ many → (j : Int) ≤ most → n' ≤ n + 3000 → Q R n') : law_history (many, most) n Q := by
  unfold law_history law_history_S
  simp only [Option.bind_some, Option.map_some, liftM_some, bindM_ret, bindM_assoc]
  refine ⟨by omega, h1, by omega, fun c c0 c1 => ?_⟩
  refine ⟨by omega, by decide, by decide, fun way w0 w1 => ?_⟩
  obtain ⟨cnt, ec⟩ : ∃ cnt : Nat, 1 + c = (cnt : Int) := ⟨(1 + c).toNat, by omega⟩
  rw [ec]
  have er : repS [([] : List Int)] (cnt : Int) = some (List.replicate cnt []) := by
    have hs : [([] : List Int)].length * ((cnt : Int)).toNat ≤ sizeLine := by
      rw [List.length_singleton, Nat.one_mul]
      exact Nat.le_trans (show ((cnt : Int)).toNat ≤ 1001 by omega) (by decide)
    unfold repS
    rw [if_pos ⟨by omega, by omega, hs⟩, Int.toNat_natCast]
    congr 1
    clear ec hs
    induction cnt with
    | zero => rfl
    | succ k ih => rw [List.replicate_succ, List.flatten_cons, ih]; rfl
  have e25 : rng2 1 25 = some ((List.range 24).map fun (k : Nat) => 1 + (k : Int)) := rfl
  rw [er, e25]
  simp only [liftM_some, bindM_ret]
  show shufS _ _ _
  unfold shufS
  rw [if_pos (by decide)]
  refine popsM_ok 24 _ _ _ rfl (by decide) (by omega) fun ls pl => ?_
  have lb : LB ls (List.replicate cnt []) := ⟨pl.nodup_iff.mpr (by decide), fun l hl => by
    obtain ⟨k, hk, rfl⟩ := List.mem_map.mp (pl.subset hl)
    have := List.mem_range.mp hk
    omega, fun l hl r hr hlr => by rw [List.eq_of_mem_replicate hr] at hlr; exact List.not_mem_nil hlr⟩
  refine ⟨by omega, by omega, by omega, fun k k0 k1 => ?_⟩
  obtain ⟨kn, rfl⟩ : ∃ kn : Nat, k = (kn : Int) := ⟨k.toNat, by omega⟩
  rw [rng1_nat (by omega)]
  simp only [liftM_some, bindM_ret]
  refine forM_ix (fun j a => Hs cnt j a.1 a.2.2 ∧ LB a.2.1 a.1 ∧ a.2.1.length ≤ 24) 4 (n + 4000) (nUp kn) 0 _ _ _ (fun t x ht a n1 ia hn1 Q1 q1 => ?_) ⟨.zero, lb, by rw [pl.length_eq]; exact Nat.le_refl _⟩ (by rw [nUp_len]; omega) fun a n1 ia hn1 => ?_
  · obtain ⟨R, ls, O⟩ := a
    obtain ⟨g, lb, l24⟩ : Hs cnt (0 + t) R O ∧ LB ls R ∧ ls.length ≤ 24 := ia
    rw [Nat.zero_add] at g q1
    have hI := HI.of g
    have hL := Hs.len g
    have ht' : t < kn := by
      have := (List.getElem?_eq_some_iff.mp ht).1
      rw [nUp_len] at this
      exact this
    have row : ∀ r ∈ R, r.length ≤ 10000 := fun r hr => Nat.le_trans (hL.2 r hr) (by omega)
    refine ⟨by omega, by omega, by omega, fun pi p0 p1 => ?_⟩
    obtain ⟨p, rfl⟩ : ∃ p : Nat, pi = (p : Int) := ⟨pi.toNat, by omega⟩
    have hp : p < cnt := by omega
    have hp' : p < R.length := by rw [hI.len]; exact hp
    rw [compS_filter (g := fun x => x), List.map_id']
    simp only [liftM_some, bindM_ret]
    obtain ⟨b, hb, hb0⟩ : ∃ b : Int, atI [4, 3, 8, 2] way = some b ∧ 1 ≤ b ∧ b ≤ 8 := by
      rcases (show way = 0 ∨ way = 1 ∨ way = 2 ∨ way = 3 by omega) with rfl | rfl | rfl | rfl
      · exact ⟨4, rfl, by decide, by decide⟩
      · exact ⟨3, rfl, by decide, by decide⟩
      · exact ⟨8, rfl, by decide, by decide⟩
      · exact ⟨2, rfl, by decide, by decide⟩
    rw [hb]
    simp only [liftM_some, bindM_ret]
    refine ⟨by omega, by omega, by omega, fun tn t0 t1 => ?_⟩
    -- the two ways that follow
    have put : ∀ (e : Int) {ls' : List Int} {O' : List (Int × Int)} {n2 : Nat}, Hs cnt (t + 1) (Mi.push R p e) O' → LB ls' (Mi.push R p e) → ls'.length ≤ 24 → n2 ≤ n1 + 4 →
        bindM (Mi.liftM ((atI R (p : Int)).bind fun x => catS x [e])) (fun x => bindM (Mi.liftM (setS R (p : Int) x)) fun l => retM (Fw.go (l, ls', O'))) n2 Q1 := fun e {ls' O' n2} a1 a2 a3 a4 => by
      rw [(put_ok hp' row).1]
      simp only [liftM_some, bindM_ret]
      rw [(put_ok hp' row).2]
      simp only [liftM_some, bindM_ret]
      exact q1 _ _ ⟨a1, a2, a3⟩ a4
    have other : ∀ n2, n2 ≤ n1 + 4 → (bindM (Mi.liftM (if decide (0 < tn) = true then some !decide (ls = []) else some false)) fun x => if x = true then
        bindM (Mi.liftM (popS ls)) fun q => bindM (Mi.liftM (pushS O (q.fst, (p : Int)))) fun l20 => bindM (Mi.liftM ((atI R (p : Int)).bind fun x => catS x [q.fst])) fun x => bindM (Mi.liftM (setS R (p : Int) x)) fun l21 => retM (Fw.go (l21, q.snd, l20))
        else bindM (Mi.liftM ((atI R (p : Int)).bind fun x => catS x [0])) fun x => bindM (Mi.liftM (setS R (p : Int) x)) fun l22 => retM (Fw.go (l22, ls, O))) n2 Q1 := fun n2 hn2 => by
      have sv := put 0 (n2 := n2) (.save g hp) (lb.push fun h => by have := lb.ok 0 h; omega) l24 hn2
      by_cases ht : 0 < tn
      · rw [decide_eq_true ht, if_pos rfl]
        simp only [liftM_some, bindM_ret]
        by_cases hl : ls = []
        · rw [decide_eq_true hl]
          exact sv
        · rw [decide_eq_false hl]
          have ed := List.dropLast_concat_getLast hl
          have hls : 0 < ls.length := List.length_pos_iff.mpr hl
          have ep : popS ls = some (ls.getLast hl, ls.dropLast) := by
            unfold popS
            rw [← List.getLast?_eq_getElem?, List.getLast?_eq_some_getLast hl]; rfl
          have hm : ls.getLast hl ∈ ls := List.getLast_mem hl
          show bindM (Mi.liftM (popS ls)) _ n2 Q1
          rw [ep]
          simp only [liftM_some, bindM_ret]
          rw [pushS_lt (by omega)]
          simp only [liftM_some, bindM_ret]
          have nd := lb.nd
          rw [← ed, List.nodup_append] at nd
          have sub : ∀ l ∈ ls.dropLast, l ∈ ls := fun l hl => List.dropLast_subset _ hl
          refine put _ (.send g hp (lb.ok _ hm).1 (lb.ok _ hm).2 (lb.no _ hm)) (LB.push ⟨nd.1, fun l hl => lb.ok l (sub l hl), fun l hl => lb.no l (sub l hl)⟩ fun h => nd.2.2 _ h _ (List.mem_singleton.mpr rfl) rfl) (by rw [List.length_dropLast]; omega) hn2
      · rw [decide_eq_false ht, if_neg (by decide)]
        simp only [liftM_some, bindM_ret]
        exact sv
    have recv : ∀ n2, n2 + 1 ≤ n1 + 4 → n2 < 999999999 → O.filter (fun x => !decide (x.snd = (p : Int))) ≠ [] → (bindM (drawM ((O.filter fun x => !decide (x.snd = (p : Int))).length : Int)) fun x => bindM (Mi.liftM (atI (O.filter fun x => !decide (x.snd = (p : Int))) x)) fun v14 => bindM (Mi.liftM (removeS O v14)) fun l15 =>
        bindM (Mi.liftM ((atI R (p : Int)).bind fun x => catS x [0 - v14.fst])) fun x => bindM (Mi.liftM (setS R (p : Int) x)) fun l17 => retM (Fw.go (l17, ls, l15))) n2 Q1 := fun n2 hn2 hb2 hne => by
      have hpos := List.length_pos_iff.mpr hne
      have hle := List.length_filter_le (fun x : Int × Int => !decide (x.snd = (p : Int))) O
      refine ⟨by omega, by omega, by omega, fun i i0 i1 => ?_⟩
      obtain ⟨i, rfl⟩ : ∃ k : Nat, i = (k : Int) := ⟨i.toNat, by omega⟩
      have hi : i < (O.filter fun x => !decide (x.snd = (p : Int))).length := by omega
      rw [atI_lt hi]
      simp only [liftM_some, bindM_ret]
      have hmem := List.mem_filter.mp (List.getElem_mem hi)
      generalize (O.filter fun x => !decide (x.snd = (p : Int)))[i] = v at hmem
      obtain ⟨m, s⟩ := v
      obtain ⟨k, ek, er⟩ := removeS_ok hmem.1
      rw [er]
      simp only [liftM_some, bindM_ret]
      have hs : s ≠ (p : Int) := by simpa using hmem.2
      have hm := hI.opn hmem.1
      exact put _ (.recv g hp ek hs) (lb.push fun h => by have := lb.ok _ h; omega) l24 (by omega)
    show bindM _ _ _ _
    by_cases ht : 0 < tn
    · rw [decide_eq_true ht, if_pos rfl]
      by_cases hne : O.filter (fun x => !decide (x.snd = (p : Int))) = []
      · rw [decide_eq_true hne]
        have := other (n1 + 2) (by omega)
        rw [decide_eq_true ht] at this
        exact this
      · rw [decide_eq_false hne]
        by_cases hl : ls = []
        · rw [decide_eq_true hl]
          exact recv (n1 + 2) (by omega) (by omega) hne
        · rw [decide_eq_false hl]
          refine ⟨by omega, by decide, by decide, fun z z0 z1 => ?_⟩
          rcases (show z = 0 ∨ z = 1 by omega) with rfl | rfl
          · exact recv (n1 + 3) (by omega) (by omega) hne
          · have := other (n1 + 3) (by omega)
            rw [decide_eq_true ht, decide_eq_false hl] at this
            exact this
    · rw [decide_eq_false ht]
      have := other (n1 + 2) (by omega)
      rw [decide_eq_false ht] at this
      exact this
  · rw [nUp_len, Nat.zero_add] at ia
    rw [nUp_len] at hn1
    exact q a.1 a.2.2 cnt kn n1 ia.1 (by omega) (by omega) (by omega) (by omega)
end ShE
end
/-! ## ShM2 -/
section
set_option maxHeartbeats 2000000
/-! ShM2: facts on dicts, places and messages. -/
namespace Mi
open PySem
variable {α β γ : Type}
theorem lookS_nil (k : Int) : lookS ([] : List (Int × α)) k = none := rfl
theorem lookS_cons (p : Int × α) (kvs : List (Int × α)) (k : Int) : lookS (p :: kvs) k = if p.1 = k then some p.2 else lookS kvs k := by
  unfold lookS
  rw [List.find?_cons]
  by_cases h : p.1 = k
  · simp [h]
  · simp [h]
theorem lookS_none {kvs : List (Int × α)} {k : Int} : lookS kvs k = none ↔ k ∉ kvs.map (·.1) := by
  induction kvs with
  | nil => simp [lookS_nil]
  | cons p kvs ih =>
    rw [lookS_cons, List.map_cons, List.mem_cons]
    by_cases h : p.1 = k
    · simp [h]
    · rw [if_neg h, ih]
      constructor
      · exact fun h1 h2 => h2.elim (fun e => h e.symm) h1
      · exact fun h1 h2 => h1 (.inr h2)
theorem lookS_mem {kvs : List (Int × α)} {k : Int} {v : α} (h : lookS kvs k = some v) : (k, v) ∈ kvs := by
  induction kvs with
  | nil => cases h
  | cons p kvs ih =>
    rw [lookS_cons] at h
    by_cases e : p.1 = k
    · rw [if_pos e] at h
      cases h; subst e
      exact List.mem_cons_self
    · rw [if_neg e] at h
      exact List.mem_cons_of_mem _ (ih h)
theorem lookS_of {kvs : List (Int × α)} {k : Int} {v : α} (nd : (kvs.map (·.1)).Nodup) (h : (k, v) ∈ kvs) : lookS kvs k = some v := by
  induction kvs with
  | nil => cases h
  | cons p kvs ih =>
    rw [List.map_cons, List.nodup_cons] at nd
    rw [lookS_cons]
    rcases List.mem_cons.mp h with e | h
    · subst e; rw [if_pos rfl]
    · rw [if_neg fun e => nd.1 (by rw [e]; exact List.mem_map.mpr ⟨(k, v), h, rfl⟩)]
      exact ih nd.2 h
theorem putS_new {kvs : List (Int × α)} {k : Int} {v : α} (h : k ∉ kvs.map (·.1)) : putS kvs k v = kvs ++ [(k, v)] := by
  unfold putS
  rw [if_neg]
  intro e
  obtain ⟨p, h1, h2⟩ := List.any_eq_true.mp e
  exact h (List.mem_map.mpr ⟨p, h1, of_decide_eq_true h2⟩)
theorem putS_keys {kvs : List (Int × α)} {k : Int} {v : α} : (putS kvs k v).map (·.1) = if k ∈ kvs.map (·.1) then kvs.map (·.1) else kvs.map (·.1) ++ [k] := by
  by_cases h : k ∈ kvs.map (·.1)
  · rw [if_pos h]
    unfold putS
    rw [if_pos (by
      obtain ⟨p, h1, h2⟩ := List.mem_map.mp h
      exact List.any_eq_true.mpr ⟨p, h1, decide_eq_true h2⟩), List.map_map]
    apply List.map_congr_left
    intro p _
    show (if p.1 = k then (p.1, v) else p).1 = p.1
    split <;> rfl
  · rw [if_neg h, putS_new h, List.map_append]; rfl
theorem lookS_append {kvs : List (Int × α)} {k k' : Int} {v : α} (h : k ∉ kvs.map (·.1)) : lookS (kvs ++ [(k, v)]) k' = if k = k' then some v else lookS kvs k' := by
  induction kvs with
  | nil => rw [List.nil_append, lookS_cons]
  | cons p kvs ih =>
    rw [List.map_cons, List.mem_cons] at h
    rw [List.cons_append, lookS_cons, lookS_cons, ih fun e => h (.inr e)]
    by_cases e : p.1 = k'
    · rw [if_pos e, if_neg fun e2 => h (.inl (by rw [e2, e])), if_pos e]
    · rw [if_neg e, if_neg e]
theorem lookS_put {kvs : List (Int × α)} {k k' : Int} {v : α} : lookS (putS kvs k v) k' = if k = k' then some v else lookS kvs k' := by
  by_cases h : k ∈ kvs.map (·.1)
  · have e1 : putS kvs k v = kvs.map fun p => if p.1 = k then (p.1, v) else p := by
      unfold putS
      rw [if_pos (by
        obtain ⟨p, h1, h2⟩ := List.mem_map.mp h
        exact List.any_eq_true.mpr ⟨p, h1, decide_eq_true h2⟩)]
    rw [e1]
    clear e1
    by_cases ek : k = k'
    · subst ek
      rw [if_pos rfl]
      induction kvs with
      | nil => cases h
      | cons p kvs ih =>
        rw [List.map_cons, lookS_cons]
        by_cases e : p.1 = k
        · rw [if_pos e]; simp [e]
        · rw [if_neg e, if_neg e]
          exact ih ((List.mem_cons.mp h).resolve_left fun e2 => e e2.symm)
    · rw [if_neg ek]
      clear h
      induction kvs with
      | nil => rfl
      | cons p kvs ih =>
        rw [List.map_cons, lookS_cons, lookS_cons, ih]
        by_cases e : p.1 = k
        · rw [if_pos e, if_neg (by show p.1 ≠ k'; rw [e]; exact ek), if_neg (by rw [e]; exact ek)]
        · rw [if_neg e]
  · rw [putS_new h, lookS_append h]
theorem putS_nodup {kvs : List (Int × α)} {k : Int} {v : α} (nd : (kvs.map (·.1)).Nodup) : ((putS kvs k v).map (·.1)).Nodup := by
  rw [putS_keys]
  split
  · exact nd
  · rename_i h
    rw [List.nodup_append]
    exact ⟨nd, List.nodup_cons.mpr ⟨List.not_mem_nil, List.nodup_nil⟩, fun a ha b hb e => h (by rw [← List.mem_singleton.mp hb, ← e]; exact ha)⟩
def putAll (kf : α → Int) (f : α → β) (xs : List α) (acc : List (Int × β)) : List (Int × β) := xs.foldl (fun a x => putS a (kf x) (f x)) acc
theorem dcompS_all {C : α → Option Bool} {Kf : α → Option Int} {F : α → Option β} {c : α → Bool} {kf : α → Int} {f : α → β} : ∀ {xs : List α} {acc : List (Int × β)}, (∀ x ∈ xs, C x = some (c x)) → (∀ x ∈ xs, c x = true → Kf x = some (kf x) ∧ F x = some (f x)) → dcompS C Kf F xs acc = some (putAll kf f (xs.filter c) acc)
  | [], acc, _, _ => rfl
  | x :: xs, acc, h1, h2 => by
    unfold dcompS
    rw [h1 x List.mem_cons_self]
    show (if c x then _ else _) = _
    cases hc : c x with
    | false =>
      rw [List.filter_cons_of_neg (by rw [hc]; decide)]
      exact dcompS_all (fun y hy => h1 y (List.mem_cons_of_mem _ hy)) fun y hy => h2 y (List.mem_cons_of_mem _ hy)
    | true =>
      obtain ⟨e1, e2⟩ := h2 x List.mem_cons_self hc
      rw [List.filter_cons_of_pos hc, e1, e2]
      exact dcompS_all (fun y hy => h1 y (List.mem_cons_of_mem _ hy)) fun y hy => h2 y (List.mem_cons_of_mem _ hy)
/-- other keys, each once: the pairs in their order -/
theorem putAll_new {kf : α → Int} {f : α → β} : ∀ {xs : List α} {acc : List (Int × β)}, (acc.map (·.1) ++ xs.map kf).Nodup → putAll kf f xs acc = acc ++ xs.map fun x => (kf x, f x)
  | [], acc, _ => (List.append_nil _).symm
  | x :: xs, acc, nd => by
    have hx : kf x ∉ acc.map (·.1) := fun h => (List.nodup_append.mp nd).2.2 _ h _ (List.mem_map.mpr ⟨x, List.mem_cons_self, rfl⟩) rfl
    show putAll kf f xs (putS acc (kf x) (f x)) = _
    rw [putS_new hx, putAll_new (by rw [List.map_append, List.append_assoc]; exact nd), List.append_assoc]; rfl
end Mi
namespace Sh
open PySem Mi
/-- all places, with their events -/
def placesL (R : List (List Int)) : List (Int × Int × Int) := (enumS 0 R).flatMap fun x => (enumS 0 x.2).map fun y => (x.1, y.1, y.2)
theorem comp2S_flat {α β γ : Type} {C : α → Option Bool} {YS : α → Option (List β)} {C1 : α → β → Option Bool} {F : α → β → Option γ} {ys : α → List β} {f : α → β → γ} : ∀ {xs : List α}, (∀ x ∈ xs, C x = some true) → (∀ x ∈ xs, YS x = some (ys x)) → (∀ x ∈ xs, ∀ y ∈ ys x, C1 x y = some true ∧ F x y = some (f x y)) → comp2S C YS C1 F xs = some (xs.flatMap fun x => (ys x).map (f x))
  | [], _, _, _ => rfl
  | x :: xs, h1, h2, h3 => by
    unfold comp2S
    rw [h1 x List.mem_cons_self]
    show (YS x).bind _ = _
    rw [h2 x List.mem_cons_self]
    show (compS (C1 x) (F x) (ys x)).bind _ = _
    rw [compS_some (c := fun _ => true) (g := f x) (fun y hy => (h3 x List.mem_cons_self y hy).1) fun y hy _ => (h3 x List.mem_cons_self y hy).2, List.filter_eq_self.mpr (fun _ _ => rfl), comp2S_flat (fun y hy => h1 y (List.mem_cons_of_mem _ hy)) (fun y hy => h2 y (List.mem_cons_of_mem _ hy)) fun y hy => h3 y (List.mem_cons_of_mem _ hy)]
    rfl
theorem mem_placesL {R : List (List Int)} {x : Int × Int × Int} : x ∈ placesL R ↔ ∃ p i : Nat, x.1 = p ∧ x.2.1 = i ∧ Evt R p i x.2.2 := by
  unfold placesL
  rw [List.mem_flatMap]
  constructor
  · rintro ⟨⟨p, r⟩, h1, h2⟩
    obtain ⟨⟨i, e⟩, h3, rfl⟩ := List.mem_map.mp h2
    obtain ⟨k, e1, e2⟩ := mem_enumS.mp h1
    obtain ⟨l, e3, e4⟩ := mem_enumS.mp h3
    rw [Nat.zero_add] at e2 e4
    exact ⟨k, l, e2, e4, r, e1, e3⟩
  · rintro ⟨p, i, e1, e2, r, e3, e4⟩
    refine ⟨((p : Int), r), mem_enumS.mpr ⟨p, e3, by rw [Nat.zero_add]⟩, List.mem_map.mpr ⟨((i : Int), x.2.2), mem_enumS.mpr ⟨i, e4, by rw [Nat.zero_add]⟩, ?_⟩⟩
    rw [← e1, ← e2]
theorem placesL_len {R : List (List Int)} {a b : Nat} (h1 : R.length ≤ a) (h2 : ∀ r ∈ R, r.length ≤ b) : (placesL R).length ≤ a * b := by
  unfold placesL
  rw [List.length_flatMap]
  have : ∀ (xs : List (Int × List Int)), (∀ x ∈ xs, x.2.length ≤ b) → (xs.map fun x => ((enumS 0 x.2).map fun y => (x.1, y.1, y.2)).length).sum ≤ xs.length * b := by
    intro xs
    induction xs with
    | nil => intro _; exact Nat.zero_le _
    | cons x xs ih =>
      intro h
      rw [List.map_cons, List.sum_cons, List.length_cons, Nat.succ_mul, List.length_map, enumS_len]
      have := h x List.mem_cons_self
      have := ih fun y hy => h y (List.mem_cons_of_mem _ hy)
      omega
  have h3 := this (enumS 0 R) fun x hx => by
    obtain ⟨k, e, _⟩ := mem_enumS.mp hx
    exact h2 _ (List.mem_of_getElem? e)
  rw [enumS_len] at h3
  exact Nat.le_trans h3 (Nat.mul_le_mul_right b h1)
theorem all_places_eq {R : List (List Int)} (h : (placesL R).length ≤ 16777216) : all_places R = some (placesL R) := by
  unfold all_places all_places_S
  simp only [Option.bind_some, Option.map_some]
  have e : comp2S (fun (x : Int × List Int) => some true) (fun x => some (enumS 0 x.2)) (fun x (y : Int × Int) => some true) (fun x y => some (x.1, y.1, y.2)) (enumS 0 R) = some (placesL R) := comp2S_flat (ys := fun (x : Int × List Int) => enumS 0 x.2) (f := fun (x : Int × List Int) (y : Int × Int) => (x.1, y.1, y.2)) (fun _ _ => rfl) (fun _ _ => rfl) fun _ _ _ _ => ⟨rfl, rfl⟩
  rw [e]
  exact if_pos h
theorem enumS_pw {α : Type} : ∀ (xs : List α) (i : Nat), (enumS i xs).Pairwise (fun a b => a.1 < b.1)
  | [], _ => List.Pairwise.nil
  | x :: xs, i => by
    refine List.Pairwise.cons (fun b hb => ?_) (enumS_pw xs (i + 1))
    obtain ⟨k, _, e⟩ := mem_enumS.mp hb
    show (i : Int) < b.1
    omega
theorem placesL_nodup (R : List (List Int)) : (placesL R).Nodup := by
  unfold placesL List.Nodup
  rw [List.pairwise_flatMap]
  refine ⟨fun x _ => ?_, (enumS_pw R 0).imp fun {a b} h x hx y hy e => ?_⟩
  · rw [List.pairwise_map]
    exact (enumS_pw x.2 0).imp fun {a b} h e => by
      have : a.1 = b.1 := congrArg (fun z : Int × Int × Int => z.2.1) e
      omega
  · obtain ⟨_, _, rfl⟩ := List.mem_map.mp hx
    obtain ⟨_, _, rfl⟩ := List.mem_map.mp hy
    have : a.1 = b.1 := congrArg (fun z : Int × Int × Int => z.1) e
    omega
/-- no event but a save stands at two places -/
def Uq (R : List (List Int)) : Prop := ∀ {p i q j : Nat} {e : Int}, e ≠ 0 → Evt R p i e → Evt R q j e → p = q ∧ i = j
def spotsL (R : List (List Int)) : List (Int × Int × Int) := (placesL R).filter fun x => !decide (x.2.2 = 0)
theorem spots_nodup {R : List (List Int)} (u : Uq R) : ((spotsL R).map fun x => x.2.2).Nodup := by
  unfold List.Nodup
  rw [List.pairwise_map]
  refine List.Pairwise.imp_of_mem (fun {a b} ha hb hn e => hn ?_) ((placesL_nodup R).filter _)
  obtain ⟨h1, h2⟩ := List.mem_filter.mp ha
  obtain ⟨h3, h4⟩ := List.mem_filter.mp hb
  obtain ⟨p, i, e1, e2, a1⟩ := mem_placesL.mp h1
  obtain ⟨q, j, e3, e4, a2⟩ := mem_placesL.mp h3
  have hz : a.2.2 ≠ 0 := by simpa using h2
  obtain ⟨r1, r2⟩ := u hz a1 (by rw [e]; exact a2)
  subst r1; subst r2
  obtain ⟨a, b, c⟩ := a
  rename_i b'
  obtain ⟨a', b2, c'⟩ := b'
  simp only at e e1 e2 e3 e4
  rw [e, e1, e2, e3, e4]
/-- where an event stands -/
def plc (R : List (List Int)) (e : Int) : Option (Int × Int) := lookS ((spotsL R).map fun x => (x.2.2, (x.1, x.2.1))) e
theorem plc_some {R : List (List Int)} (u : Uq R) {e a b : Int} : plc R e = some (a, b) ↔ e ≠ 0 ∧ ∃ p i : Nat, a = p ∧ b = i ∧ Evt R p i e := by
  unfold plc
  have nd : (((spotsL R).map fun x => (x.2.2, (x.1, x.2.1))).map (·.1)).Nodup := by rw [List.map_map]; exact spots_nodup u
  constructor
  · intro h
    obtain ⟨x, h1, h2⟩ := List.mem_map.mp (lookS_mem h)
    obtain ⟨h3, h4⟩ := List.mem_filter.mp h1
    obtain ⟨p, i, e1, e2, a1⟩ := mem_placesL.mp h3
    cases h2
    exact ⟨by simpa using h4, p, i, e1, e2, a1⟩
  · rintro ⟨h0, p, i, rfl, rfl, h⟩
    refine lookS_of nd (List.mem_map.mpr ⟨((p : Int), (i : Int), e), List.mem_filter.mpr ⟨mem_placesL.mpr ⟨p, i, rfl, rfl, h⟩, by simpa using h0⟩, rfl⟩)
/-- the messages, ascending -/
def msgs (R : List (List Int)) : List Int := (((spotsL R).map fun x => x.2.2).mergeSort fun a b => decide (a ≤ b)).filter fun e => decide (0 < e)
theorem mem_msgs {R : List (List Int)} {m : Int} : m ∈ msgs R ↔ 0 < m ∧ ∃ p i, Evt R p i m := by
  unfold msgs
  rw [List.mem_filter, List.mem_mergeSort, List.mem_map]
  constructor
  · rintro ⟨⟨x, h1, rfl⟩, h2⟩
    obtain ⟨h3, _⟩ := List.mem_filter.mp h1
    obtain ⟨p, i, _, _, a⟩ := mem_placesL.mp h3
    exact ⟨of_decide_eq_true h2, p, i, a⟩
  · rintro ⟨h, p, i, a⟩
    exact ⟨⟨((p : Int), (i : Int), m), List.mem_filter.mpr ⟨mem_placesL.mpr ⟨p, i, rfl, rfl, a⟩, by simp; omega⟩, rfl⟩, decide_eq_true h⟩
theorem msgs_nodup {R : List (List Int)} (u : Uq R) : (msgs R).Nodup := ((List.mergeSort_perm _ _).nodup_iff.mpr (spots_nodup u)).filter _
def tabL (R : List (List Int)) : List (Int × ((Int × Int) × Option (Int × Int))) := (msgs R).map fun m => (m, ((plc R m).getD (0, 0), plc R (-m)))
theorem message_table_eq {R : List (List Int)} (u : Uq R) (hl : (placesL R).length < 64) : message_table R = some (tabL R) := by
  unfold message_table message_table_S
  simp only [Option.bind_some, Option.map_some]
  rw [all_places_eq (by omega)]
  simp only [Option.bind_some, Option.map_some]
  have e1 : dcompS (fun x1 : Int × Int × Int => some !decide (x1.2.2 = 0)) (fun x1 => some x1.2.2) (fun x1 => some (x1.1, x1.2.1)) (placesL R) [] = some ((spotsL R).map fun x => (x.2.2, (x.1, x.2.1))) := by
    rw [dcompS_all (c := fun x : Int × Int × Int => !decide (x.2.2 = 0)) (kf := fun x : Int × Int × Int => x.2.2) (f := fun x : Int × Int × Int => (x.1, x.2.1)) (fun _ _ => rfl) fun _ _ _ => ⟨rfl, rfl⟩]
    exact congrArg some (putAll_new (acc := []) (by rw [List.map_nil, List.nil_append]; exact spots_nodup u))
  rw [e1]
  simp only [Option.bind_some, List.map_map]
  have e2 : srtS ((spotsL R).map fun x => x.2.2) = some (((spotsL R).map fun x => x.2.2).mergeSort fun a b => decide (a ≤ b)) := by
    unfold srtS
    rw [if_pos]
    rw [List.length_map]
    exact Nat.lt_of_le_of_lt (List.length_filter_le _ _) hl
  rw [show ((fun x : Int × Int × Int => x.1) ∘ fun x : Int × Int × Int => (x.2.2, (x.1, x.2.1))) = fun x => x.2.2 from rfl]
  rw [e2]
  simp only [Option.bind_some, Option.map_some]
  rw [dcompS_all (c := fun x => decide (0 < x)) (kf := fun x => x) (f := fun m => ((plc R m).getD (0, 0), plc R (-m))) (fun _ _ => rfl) fun m hm hc => ⟨rfl, ?_⟩]
  · show some (putAll _ _ (msgs R) []) = _
    exact congrArg some (putAll_new (acc := []) (by rw [List.map_nil, List.nil_append, List.map_id']; exact msgs_nodup u))
  · have h1 : m ∈ msgs R := List.mem_filter.mpr ⟨hm, hc⟩
    obtain ⟨h0, p, i, a⟩ := mem_msgs.mp h1
    have h2 : plc R m = some ((p : Int), (i : Int)) := (plc_some u).mpr ⟨by omega, p, i, rfl, rfl, a⟩
    show (plc R m).bind (fun x => some (x, plc R (-m))) = some ((plc R m).getD (0, 0), plc R (-m))
    rw [h2]; rfl
theorem tab_look {R : List (List Int)} (u : Uq R) {m : Int} {s : Int × Int} (h0 : 0 < m) (h : plc R m = some s) : lookS (tabL R) m = some (s, plc R (-m)) := by
  obtain ⟨_, p, i, _, _, a⟩ := (plc_some u (a := s.1) (b := s.2)).mp h
  refine lookS_of (by unfold tabL; rw [List.map_map]; exact (List.map_id' _).symm ▸ msgs_nodup u) (List.mem_map.mpr ⟨m, mem_msgs.mpr ⟨h0, p, i, a⟩, ?_⟩)
  rw [h]; rfl
end Sh
end
/-! ## ShM3 -/
section
set_option maxHeartbeats 2000000
/-! ShM3: the law's messages (group E). -/
namespace ShE
open PySem Mi Sh
variable {α β : Type}
theorem putS_len {kvs : List (Int × β)} {k : Int} {v : β} : (putS kvs k v).length ≤ kvs.length + 1 := by
  have h : ((putS kvs k v).map (·.1)).length ≤ kvs.length + 1 := by
    rw [putS_keys]
    split
    · rw [List.length_map]; omega
    · rw [List.length_append, List.length_map]; exact Nat.le_refl _
  rwa [List.length_map] at h
theorem putAll_len {kf : α → Int} {f : α → β} : ∀ {xs : List α} {acc : List (Int × β)}, (putAll kf f xs acc).length ≤ acc.length + xs.length
  | [], acc => Nat.le_refl _
  | x :: xs, acc => by
    show (putAll kf f xs (putS acc (kf x) (f x))).length ≤ _
    have h1 := putAll_len (kf := kf) (f := f) (xs := xs) (acc := putS acc (kf x) (f x))
    have h2 := putS_len (kvs := acc) (k := kf x) (v := f x)
    rw [List.length_cons]; omega
theorem putAll_keys {kf : α → Int} {f : α → β} {k : Int} : ∀ {xs : List α} {acc : List (Int × β)}, k ∈ (putAll kf f xs acc).map (·.1) → k ∈ acc.map (·.1) ∨ ∃ x ∈ xs, kf x = k
  | [], acc, h => .inl h
  | x :: xs, acc, h => by
    rcases putAll_keys (xs := xs) (acc := putS acc (kf x) (f x)) h with h | ⟨y, h1, h2⟩
    · rw [putS_keys] at h
      split at h
      · exact .inl h
      · rcases List.mem_append.mp h with h | h
        · exact .inl h
        · exact .inr ⟨x, List.mem_cons_self, (List.mem_singleton.mp h).symm⟩
    · exact .inr ⟨y, List.mem_cons_of_mem _ h1, h2⟩
theorem putAll_look {kf : α → Int} {f : α → β} {k : Int} {v : β} : ∀ {xs : List α} {acc : List (Int × β)}, (∀ x ∈ xs, kf x = k → f x = v) → (lookS acc k = some v ∨ ∃ x ∈ xs, kf x = k) → lookS (putAll kf f xs acc) k = some v
  | [], acc, _, h => h.elim (fun h => h) fun ⟨_, h, _⟩ => absurd h List.not_mem_nil
  | x :: xs, acc, h1, h2 => by
    refine putAll_look (xs := xs) (acc := putS acc (kf x) (f x)) (fun y hy => h1 y (List.mem_cons_of_mem _ hy)) ?_
    rw [lookS_put]
    by_cases e : kf x = k
    · rw [if_pos e, h1 x List.mem_cons_self e]; exact .inl rfl
    · rw [if_neg e]
      rcases h2 with h2 | ⟨y, h3, h4⟩
      · exact .inl h2
      · rcases List.mem_cons.mp h3 with rfl | h3
        · exact absurd h4 e
        · exact .inr ⟨y, h3, h4⟩
theorem put_for {τ : Type} {kf : α → Int} {f : α → β} : ∀ {xs : List α} {acc : List (Int × β)}, acc.length + xs.length ≤ 16777216 → forS (τ := τ) (fun x a => (putO a (kf x) (f x)).bind fun l => some (Fw.go l)) xs acc = some (.go (putAll kf f xs acc))
  | [], acc, _ => rfl
  | x :: xs, acc, h => by
    rw [List.length_cons] at h
    have e : putO acc (kf x) (f x) = some (putS acc (kf x) (f x)) := if_pos (show acc.length < 16777216 by omega)
    unfold forS
    rw [e]
    have h2 := putS_len (kvs := acc) (k := kf x) (v := f x)
    exact put_for (by omega)
theorem put_for2 {τ : Type} : ∀ {xs : List (Int × List Int)} {acc : List (Int × (Int × Int))}, acc.length + (xs.flatMap fun x => (enumS 0 x.2).map fun y => (x.1, y.1, y.2)).length ≤ 16777216 →
    forS (fun x4 a2 => (forS (τ := τ) (fun x7 a5 => (putO a5 x7.snd (x4.fst, x7.fst)).bind fun l8 => some (Fw.go l8)) (enumS 0 x4.snd) a2).bind (thenS Fw.ret fun l8 => some (Fw.go l8))) xs acc = some (.go (putAll (fun x => x.2.2) (fun x => (x.1, x.2.1)) (xs.flatMap fun x => (enumS 0 x.2).map fun y => (x.1, y.1, y.2)) acc))
  | [], acc, _ => rfl
  | x :: xs, acc, h => by
    rw [List.flatMap_cons, List.length_append, List.length_map] at h
    unfold forS
    rw [put_for (kf := fun y : Int × Int => y.2) (f := fun y => (x.1, y.1)) (by omega)]
    have h2 := putAll_len (kf := fun y : Int × Int => y.2) (f := fun y : Int × Int => (x.1, y.1)) (xs := enumS 0 x.2) (acc := acc)
    show forS _ xs (putAll (fun y : Int × Int => y.2) (fun y => (x.1, y.1)) (enumS 0 x.2) acc) = _
    rw [put_for2 (by omega), List.flatMap_cons]
    unfold putAll
    rw [List.foldl_append, List.foldl_map]
theorem law_messages_full {R : List (List Int)} (u : Uq R) (rc : ∀ {p i : Nat} {m : Int}, 0 < m → Evt R p i (0 - m) → ∃ q k, Evt R q k m) (hl : (placesL R).length < 64) :
    ∃ T, law_messages R = some T ∧ T.length ≤ 64 ∧ (∀ x ∈ T, 0 < x.1 ∧ plc R x.1 = some (x.2.1, x.2.2.1) ∧ plc R (0 - x.1) = some (x.2.2.2.1, x.2.2.2.2)) ∧ ∀ {p i : Nat} {m : Int}, 0 < m → Evt R p i (0 - m) → ∃ x ∈ T, x.1 = m := by
  unfold law_messages law_messages_S
  simp only [Option.bind_some, Option.map_some]
  have e1 := put_for2 (τ := List (Int × Int × Int × Int × Int)) (xs := enumS 0 R) (acc := []) (by show 0 + (placesL R).length ≤ _; omega)
  rw [e1]
  show ∃ T, (forS _ _ _).bind _ = some T ∧ _
  generalize hD : putAll (fun x : Int × Int × Int => x.2.2) (fun x => (x.1, x.2.1)) ((enumS 0 R).flatMap fun x => (enumS 0 x.2).map fun y => (x.1, y.1, y.2)) [] = Dd
  have look : ∀ {e : Int} {p i : Nat}, e ≠ 0 → Evt R p i e → lookS Dd e = some ((p : Int), (i : Int)) := fun {e p i} h0 h => by
    rw [← hD]
    refine putAll_look (fun x hx hk => ?_) (.inr ⟨((p : Int), (i : Int), e), mem_placesL.mpr ⟨p, i, rfl, rfl, h⟩, rfl⟩)
    obtain ⟨q, j, e1, e2, a⟩ := mem_placesL.mp hx
    have := u h0 h (by rw [← show x.2.2 = e from hk]; exact a)
    rw [e1, e2, this.1, this.2]
  have keys : ∀ k ∈ Dd.map (·.1), ∃ p i, Evt R p i k := fun k hk => by
    rw [← hD] at hk
    rcases putAll_keys hk with h | ⟨x, h1, h2⟩
    · exact absurd h List.not_mem_nil
    · obtain ⟨p, i, _, _, a⟩ := mem_placesL.mp h1
      exact ⟨p, i, by rw [← show x.2.2 = k from h2]; exact a⟩
  have lenD : Dd.length ≤ 64 := by
    rw [← hD]
    have h := putAll_len (kf := fun x : Int × Int × Int => x.2.2) (f := fun x : Int × Int × Int => (x.1, x.2.1)) (xs := placesL R) (acc := [])
    exact Nat.le_trans h (by rw [List.length_nil]; omega)
  let B : Int → List (Int × Int × Int × Int × Int) → Option (Fw (List (Int × Int × Int × Int × Int)) (List (Int × Int × Int × Int × Int))) := fun x15 a13 =>
      if decide (x15 < 0) = true then (((lookS Dd (0 - x15)).bind fun y => some (0 - x15, y.fst, y.snd)).bind fun x => (lookS Dd x15).bind fun y => some (x.fst, x.snd.fst, x.snd.snd, y.fst, y.snd)).bind fun x => (pushS a13 x).bind fun l16 => some (Fw.go l16)
      else some (Fw.go a13)
  let I : Nat → List (Int × Int × Int × Int × Int) → Prop := (fun k a => a.length ≤ k ∧ (∀ x ∈ a, 0 < x.1 ∧ plc R x.1 = some (x.2.1, x.2.2.1) ∧ (plc R (0 - x.1) = some (x.2.2.2.1, x.2.2.2.2))) ∧ ∀ t < k, ∀ x, ((Dd.map fun x => x.1).mergeSort fun a b => decide (a ≤ b))[t]? = some x → x < 0 → ∃ y ∈ a, y.1 = 0 - x)
  have step : ∀ k x, ((Dd.map fun x => x.1).mergeSort fun a b => decide (a ≤ b))[k]? = some x → ∀ a, I (0 + k) a → ∃ a', B x a = some (.go a') ∧ I (0 + k + 1) a' := fun k x hx a ia => by
    show ∃ a', (if decide (x < 0) = true then _ else some (Fw.go a)) = some (Fw.go a') ∧ _
    have hk : k < 64 := by
      have := (List.getElem?_eq_some_iff.mp hx).1
      rw [List.length_mergeSort, List.length_map] at this
      omega
    by_cases hneg : x < 0
    · rw [decide_eq_true hneg, if_pos rfl]
      obtain ⟨p, i, a1⟩ := keys x (List.mem_mergeSort.mp (List.mem_of_getElem? hx))
      obtain ⟨q, j, a2⟩ := rc (m := 0 - x) (by omega) (by rw [show 0 - (0 - x) = x by omega]; exact a1)
      rw [look (by omega) a2, look (by omega) a1]
      simp only [Option.bind_some]
      rw [pushS_lt (by omega)]
      refine ⟨_, rfl, by rw [List.length_append, List.length_singleton]; omega, fun y hy => ?_, fun t ht z hz zn => ?_⟩
      rcases List.mem_append.mp hy with hy | hy
      · exact ia.2.1 y hy
      · rw [List.mem_singleton.mp hy]
        exact ⟨by show 0 < 0 - x; omega, (plc_some u).mpr ⟨by omega, q, j, rfl, rfl, a2⟩, (plc_some u).mpr ⟨by show 0 - (0 - x) ≠ 0; omega, p, i, rfl, rfl, by show Evt R p i (0 - (0 - x)); rw [show 0 - (0 - x) = x by omega]; exact a1⟩⟩
      · by_cases e : t = k
        · subst e
          rw [hx] at hz
          cases hz
          exact ⟨_, List.mem_append.mpr (.inr (List.mem_singleton.mpr rfl)), rfl⟩
        · obtain ⟨y, hy, e2⟩ := ia.2.2 t (by omega) z hz zn
          exact ⟨y, List.mem_append.mpr (.inl hy), e2⟩
    · rw [decide_eq_false hneg, if_neg (by decide)]
      refine ⟨a, rfl, by have := ia.1; omega, ia.2.1, fun t ht z hz zn => ?_⟩
      by_cases e : t = k
      · subst e
        rw [hx] at hz
        cases hz
        exact absurd zn hneg
      · exact ia.2.2 t (by omega) z hz zn
  obtain ⟨T, eT, i1, i2, i3⟩ := forS_inv (B := B) I ((Dd.map fun x => x.1).mergeSort fun a b => decide (a ≤ b)) 0 [] step ⟨Nat.le_refl _, fun x hx => absurd hx List.not_mem_nil, fun t ht => absurd ht (Nat.not_lt_zero _)⟩
  refine ⟨T, ?_, ?_, i2, fun {p i m} h0 h => ?_⟩
  · show (forS B _ []).bind _ = _
    rw [eT]; rfl
  · rw [List.length_mergeSort, List.length_map] at i1
    omega
  · have h1 := lookS_mem (look (by omega) h)
    have h2 : (0 - m) ∈ ((Dd.map fun x => x.1).mergeSort fun a b => decide (a ≤ b)) := List.mem_mergeSort.mpr (List.mem_map.mpr ⟨_, h1, rfl⟩)
    obtain ⟨t, ht⟩ := List.getElem?_of_mem h2
    obtain ⟨y, hy, e⟩ := i3 t (by have := (List.getElem?_eq_some_iff.mp ht).1; omega) _ ht (by omega)
    exact ⟨y, hy, by rw [e]; omega⟩
theorem law_messages_ok {R : List (List Int)} (u : Uq R) (rc : ∀ {p i : Nat} {m : Int}, 0 < m → Evt R p i (0 - m) → ∃ q k, Evt R q k m) (hl : (placesL R).length < 64) :
    ∃ T, law_messages R = some T ∧ T.length ≤ 64 ∧ ∀ x ∈ T, 0 < x.1 ∧ plc R x.1 = some (x.2.1, x.2.2.1) ∧ plc R (0 - x.1) = some (x.2.2.2.1, x.2.2.2.2) := by
  obtain ⟨T, h1, h2, h3, _⟩ := law_messages_full u rc hl
  exact ⟨T, h1, h2, h3⟩
end ShE
end
/-! ## ShC -/
section
set_option maxHeartbeats 1000000
/-! ShC: what can have had an effect on what: two closures, and that they say the same. -/
namespace Mi
open PySem
theorem whileS_ok {A τ : Type} {C : A → Option Bool} {B : A → Option (Fw A τ)} (I : A → Prop) (c : A → Bool) (f : A → A) (μ : A → Nat) (hC : ∀ a, I a → C a = some (c a)) (hB : ∀ a, I a → c a = true → B a = some (.go (f a)) ∧ I (f a) ∧ μ (f a) < μ a) :
    ∀ (k : Nat) (a : A), I a → μ a < k → ∃ a', whileS C B k a = some (.go a') ∧ I a' ∧ c a' = false
  | 0, a, _, h => absurd h (Nat.not_lt_zero _)
  | k + 1, a, i, h => by
    unfold whileS
    rw [hC a i]
    show ∃ a', (if c a = true then _ else _) = _ ∧ _
    cases hc : c a with
    | false => exact ⟨a, rfl, i, hc⟩
    | true =>
      obtain ⟨e, i', m⟩ := hB a i hc
      obtain ⟨a', e', r⟩ := whileS_ok I c f μ hC hB k (f a) i' (by omega)
      refine ⟨a', ?_, r⟩
      rw [if_pos rfl, e]
      exact e'
/-- entry of an array -/
def gt (A : List Int) (p : Int) : Int := A.getD p.toNat 0
abbrev Msg := Int × Int × Int × Int × Int
structure WfM (n : Nat) (b : Int) (x : Msg) : Prop where
  s0 : 0 ≤ x.2.1
  s1 : x.2.1 < n
  i0 : 0 ≤ x.2.2.1
  i1 : x.2.2.1 < b
  r0 : 0 ≤ x.2.2.2.1
  r1 : x.2.2.2.1 < n
  j0 : 0 ≤ x.2.2.2.2
  j1 : x.2.2.2.2 < b
theorem gt_set {A : List Int} {p q v : Int} (h0 : 0 ≤ p) (h1 : p < A.length) (h2 : 0 ≤ q) : gt (A.set p.toNat v) q = if q = p then v else gt A q := by
  unfold gt
  rw [List.getD_eq_getElem?_getD, List.getD_eq_getElem?_getD]
  by_cases h : q = p
  · subst h
    rw [if_pos rfl, List.getElem?_set_self (by omega)]; rfl
  · rw [if_neg h, List.getElem?_set_ne (by omega)]
theorem gt_at {A : List Int} {p : Int} (h0 : 0 ≤ p) (h1 : p < A.length) : atI A p = some (gt A p) := by
  rw [atI_pos h0, List.getElem?_eq_getElem (by omega)]
  unfold gt
  rw [List.getD_eq_getElem?_getD, List.getElem?_eq_getElem (by omega)]; rfl
/-- pointwise -/
def Le (A B : List Int) : Prop := ∀ p : Int, 0 ≤ p → p < A.length → gt A p ≤ gt B p
theorem Le.rfl {A : List Int} : Le A A := fun _ _ _ => Int.le_refl _
theorem sum_set {A : List Int} {k : Nat} {v : Int} (h : k < A.length) : (A.set k v).sum = A.sum - A[k] + v := by
  induction A generalizing k with
  | nil => exact absurd h (Nat.not_lt_zero _)
  | cons a A ih =>
    cases k with
    | zero => show v + A.sum = a + A.sum - a + v; omega
    | succ k =>
      have hk : k < A.length := by simpa using h
      have := ih hk
      show a + (A.set k v).sum = a + A.sum - A[k] + v
      omega
theorem gt_get {A : List Int} {p : Int} (h0 : 0 ≤ p) (h1 : p < A.length) : A[p.toNat]'(by omega) = gt A p := by
  unfold gt
  rw [List.getD_eq_getElem?_getD, List.getElem?_eq_getElem (by omega)]; rfl
theorem sum_le {A : List Int} {b : Int} (h : ∀ x ∈ A, x ≤ b) : A.sum ≤ b * A.length := by
  induction A with
  | nil => simp
  | cons a A ih =>
    have h1 := h a List.mem_cons_self
    have h2 := ih fun x hx => h x (List.mem_cons_of_mem _ hx)
    rw [List.sum_cons, List.length_cons, Int.natCast_add, Int.mul_add]
    show a + A.sum ≤ b * A.length + b * 1
    omega
theorem sum_ge {A : List Int} (h : ∀ x ∈ A, 0 ≤ x) : 0 ≤ A.sum := by
  induction A with
  | nil => simp
  | cons a A ih =>
    have h1 := h a List.mem_cons_self
    have h2 := ih fun x hx => h x (List.mem_cons_of_mem _ hx)
    rw [List.sum_cons]
    omega
/-! ### backwards -/
def ClB (T : List Msg) (A : List Int) : Prop := ∀ x ∈ T, x.2.2.2.2 < gt A x.2.2.2.1 → x.2.2.1 < gt A x.2.1
def stB (a : List Int × Bool) (x : Msg) : List Int × Bool := if x.2.2.2.2 < gt a.1 x.2.2.2.1 ∧ gt a.1 x.2.1 ≤ x.2.2.1 then (a.1.set x.2.1.toNat (x.2.2.1 + 1), true) else a
/-- what a pass keeps, from A on -/
structure PasB (T : List Msg) (n : Nat) (b : Int) (A : List Int) (c : List Int × Bool) : Prop where
  len : c.1.length = n
  bnd : ∀ x ∈ c.1, 0 ≤ x ∧ x ≤ b
  ge : Le A c.1
  min : ∀ B : List Int, B.length = n → ClB T B → Le A B → Le c.1 B
  org : ∀ p : Int, 0 ≤ p → p < n → gt c.1 p = gt A p ∨ ∃ x ∈ T, x.2.1 = p ∧ gt c.1 p = x.2.2.1 + 1
theorem mem_set' {A : List Int} {k : Nat} {v x : Int} (h : x ∈ A.set k v) : x ∈ A ∨ x = v := List.mem_or_eq_of_mem_set h
theorem PasB.step {T : List Msg} {n : Nat} {b : Int} {A : List Int} {c : List Int × Bool} (hA : A.length = n) {x : Msg} (hx : x ∈ T) (w : WfM n b x) (h : PasB T n b A c) : PasB T n b A (stB c x) := by
  unfold stB
  split
  · rename_i g
    have sl : x.2.1 < c.1.length := by rw [h.len]; exact w.s1
    refine ⟨by rw [List.length_set]; exact h.len, fun y hy => ?_, fun p p0 p1 => ?_, fun B lB cB leB p p0 p1 => ?_, fun p p0 p1 => ?_⟩
    · rcases mem_set' hy with hy | rfl
      · exact h.bnd y hy
      · have := w.i0; have := w.i1; omega
    · rw [gt_set w.s0 sl p0]
      have := h.ge p p0 p1
      split
      · rename_i e; subst e; omega
      · exact this
    · have lp : p < c.1.length := by simpa using p1
      rw [gt_set w.s0 sl p0]
      split
      · rename_i e
        subst e
        have h1 := h.min B lB cB leB x.2.2.2.1 w.r0 (by rw [h.len]; exact w.r1)
        have := cB x hx (by omega)
        omega
      · exact h.min B lB cB leB p p0 lp
    · show gt (c.1.set x.2.1.toNat (x.2.2.1 + 1)) p = _ ∨ ∃ y ∈ T, _ ∧ gt (c.1.set x.2.1.toNat (x.2.2.1 + 1)) p = _
      rw [gt_set w.s0 sl p0]
      by_cases e : p = x.2.1
      · rw [if_pos e]; exact .inr ⟨x, hx, e.symm, rfl⟩
      · rw [if_neg e]; exact h.org p p0 p1
  · exact h
theorem PasB.fold {T : List Msg} {n : Nat} {b : Int} {A : List Int} (hA : A.length = n) (w : ∀ x ∈ T, WfM n b x) : ∀ (xs : List Msg) (c : List Int × Bool), (∀ x ∈ xs, x ∈ T) → PasB T n b A c → PasB T n b A (xs.foldl stB c)
  | [], c, _, h => h
  | x :: xs, c, m, h => PasB.fold hA w xs _ (fun y hy => m y (List.mem_cons_of_mem _ hy)) (h.step hA (m x List.mem_cons_self) (w x (m x List.mem_cons_self)))
/-- no change: closed; a change: greater -/
theorem stB_sum {n : Nat} {b : Int} (c : List Int × Bool) (x : Msg) (hl : c.1.length = n) (w : WfM n b x) : (c.1.sum < (stB c x).1.sum ∧ (stB c x).2 = true) ∨ (stB c x = c ∧ (x.2.2.2.2 < gt c.1 x.2.2.2.1 → x.2.2.1 < gt c.1 x.2.1)) := by
  unfold stB
  split
  · rename_i g
    refine .inl ⟨?_, rfl⟩
    have sl : x.2.1 < c.1.length := by rw [hl]; exact w.s1
    show c.1.sum < (c.1.set x.2.1.toNat (x.2.2.1 + 1)).sum
    have s0 := w.s0
    rw [sum_set (by omega), gt_get w.s0 sl]
    omega
  · rename_i g
    exact .inr ⟨rfl, fun h => by omega⟩
theorem foldB_sum {n : Nat} {b : Int} : ∀ (xs : List Msg) (c : List Int × Bool), c.1.length = n → (∀ x ∈ xs, WfM n b x) → ((xs.foldl stB c).1.length = n ∧ c.1.sum ≤ (xs.foldl stB c).1.sum) ∧ (c.2 = false → ((xs.foldl stB c).2 = true ∧ c.1.sum < (xs.foldl stB c).1.sum) ∨ ((xs.foldl stB c).2 = false ∧ (xs.foldl stB c).1 = c.1 ∧ ∀ x ∈ xs, x.2.2.2.2 < gt c.1 x.2.2.2.1 → x.2.2.1 < gt c.1 x.2.1)) ∧ (c.2 = true → (xs.foldl stB c).2 = true)
  | [], c, h, _ => ⟨⟨h, Int.le_refl _⟩, fun e => .inr ⟨e, rfl, fun x hx => absurd hx List.not_mem_nil⟩, fun e => e⟩
  | x :: xs, c, h, w => by
    have hl : (stB c x).1.length = n := by unfold stB; split; · rw [List.length_set]; exact h
                                           · exact h
    obtain ⟨⟨i0, i1⟩, i2, i3⟩ := foldB_sum xs (stB c x) hl fun y hy => w y (List.mem_cons_of_mem _ hy)
    rw [List.foldl_cons]
    rcases stB_sum c x h (w x List.mem_cons_self) with ⟨s1, s2⟩ | ⟨s1, s2⟩
    · exact ⟨⟨i0, by omega⟩, fun e => .inl ⟨i3 s2, by omega⟩, fun _ => i3 s2⟩
    · rw [s1] at i0 i1 i2 i3 ⊢
      refine ⟨⟨i0, i1⟩, fun e => ?_, i3⟩
      rcases i2 e with h1 | ⟨h1, h2, h3⟩
      · exact .inl h1
      · refine .inr ⟨h1, h2, fun y hy => ?_⟩
        rcases List.mem_cons.mp hy with rfl | hy
        · exact s2
        · exact h3 y hy
/-- the least array above A that is closed -/
structure LstB (T : List Msg) (n : Nat) (b : Int) (A P : List Int) : Prop where
  len : P.length = n
  bnd : ∀ x ∈ P, 0 ≤ x ∧ x ≤ b
  ge : Le A P
  cl : ClB T P
  min : ∀ B : List Int, B.length = n → ClB T B → Le A B → Le P B
  org : ∀ p : Int, 0 ≤ p → p < n → gt P p = gt A p ∨ ∃ x ∈ T, x.2.1 = p ∧ gt P p = x.2.2.1 + 1
/-- the loop -/
theorem loopB {τ : Type} {T : List Msg} {n : Nat} {b : Int} {A : List Int} (hA : A.length = n) (hb : ∀ x ∈ A, 0 ≤ x ∧ x ≤ b) (w : ∀ x ∈ T, WfM n b x) {C : List Int × Bool → Option Bool} {B : List Int × Bool → Option (Fw (List Int × Bool) τ)}
    (hC : ∀ c, C c = some c.2) (hB : ∀ c : List Int × Bool, c.1.length = n → (∀ x ∈ c.1, 0 ≤ x ∧ x ≤ b) → B c = some (.go (T.foldl stB (c.1, false)))) (k : Nat) (hk : b * n + 1 < k) (hk2 : 1 < k) :
    ∃ P, whileS C B k (A, true) = some (.go (P, false)) ∧ LstB T n b A P := by
  have nn : ∀ c : List Int × Bool, PasB T n b A c → 0 ≤ c.1.sum ∧ c.1.sum ≤ b * n := fun c h => by
    have := sum_le (b := b) fun x hx => (h.bnd x hx).2
    rw [h.len] at this
    exact ⟨sum_ge fun x hx => (h.bnd x hx).1, this⟩
  obtain ⟨c, e, ⟨i, icl⟩, hc⟩ := whileS_ok (fun c : List Int × Bool => PasB T n b A c ∧ (c.2 = false → ClB T c.1)) (·.2) (fun c => T.foldl stB (c.1, false)) (fun c => (b * n - c.1.sum).toNat + (if c.2 then 1 else 0)) (fun c _ => hC c) (fun c ⟨i, _⟩ hc => by
    have i' : PasB T n b A (T.foldl stB (c.1, false)) := PasB.fold hA w T _ (fun x hx => hx) ⟨i.len, i.bnd, i.ge, i.min, i.org⟩
    obtain ⟨⟨l0, s0⟩, s1, _⟩ := foldB_sum T (c.1, false) i.len w
    refine ⟨hB c i.len i.bnd, ⟨i', fun hf => ?_⟩, ?_⟩
    · rcases s1 rfl with ⟨h1, _⟩ | ⟨h1, h2, h3⟩
      · rw [hf] at h1; cases h1
      · intro x hx
        rw [h2]
        exact h3 x hx
    · have n1 := nn _ i
      have n2 := nn _ i'
      rw [hc]
      rcases s1 rfl with ⟨h1, h2⟩ | ⟨h1, h2, h3⟩
      · rw [h1]
        show (b * n - (T.foldl stB (c.1, false)).1.sum).toNat + 1 < (b * n - c.1.sum).toNat + 1
        have h2' : c.1.sum < (T.foldl stB (c.1, false)).1.sum := h2
        omega
      · rw [h1, h2]
        show (b * n - c.1.sum).toNat + 0 < (b * n - c.1.sum).toNat + 1
        omega) k (A, true) ⟨⟨hA, hb, Le.rfl, fun B _ _ h => h, fun p _ _ => .inl rfl⟩, fun e => by cases e⟩ (by
      show (b * n - A.sum).toNat + 1 < k
      have := sum_ge fun x hx => (hb x hx).1
      omega)
  obtain ⟨P, ch⟩ := c
  cases hc
  exact ⟨P, e, i.len, i.bnd, i.ge, icl rfl, i.min, i.org⟩
/-! ### forwards -/
def ClF (T : List Msg) (F : List Int) : Prop := ∀ x ∈ T, gt F x.2.1 ≤ x.2.2.1 → gt F x.2.2.2.1 ≤ x.2.2.2.2
def stF (F : List Int) (x : Msg) : List Int := if gt F x.2.1 ≤ x.2.2.1 then F.set x.2.2.2.1.toNat (if x.2.2.2.2 < gt F x.2.2.2.1 then x.2.2.2.2 else gt F x.2.2.2.1) else F
structure PasF (T : List Msg) (n : Nat) (A F : List Int) : Prop where
  len : F.length = n
  pos : ∀ x ∈ F, 0 ≤ x
  le : Le F A
  max : ∀ G : List Int, G.length = n → ClF T G → Le G A → Le G F
theorem gt_mem {A : List Int} {p : Int} (h0 : 0 ≤ p) (h1 : p < A.length) : gt A p ∈ A := by
  rw [← gt_get h0 h1]; exact List.getElem_mem _
theorem PasF.step {T : List Msg} {n : Nat} {b : Int} {A F : List Int} {x : Msg} (hx : x ∈ T) (w : WfM n b x) (h : PasF T n A F) : PasF T n A (stF F x) := by
  unfold stF
  split
  · rename_i g
    have rl : x.2.2.2.1 < F.length := by rw [h.len]; exact w.r1
    have v1 : (if x.2.2.2.2 < gt F x.2.2.2.1 then x.2.2.2.2 else gt F x.2.2.2.1) ≤ gt F x.2.2.2.1 := by split <;> omega
    refine ⟨by rw [List.length_set]; exact h.len, fun y hy => ?_, fun p p0 p1 => ?_, fun G lG cG leG p p0 p1 => ?_⟩
    · rcases mem_set' hy with hy | rfl
      · exact h.pos y hy
      · split
        · exact w.j0
        · exact h.pos _ (gt_mem w.r0 rl)
    · have lp : p < F.length := by simpa using p1
      rw [gt_set w.r0 rl p0]
      have := h.le p p0 lp
      split
      · rename_i e; subst e; omega
      · exact this
    · rw [gt_set w.r0 rl p0]
      have h1 := h.max G lG cG leG p p0 p1
      split
      · rename_i e
        subst e
        have h2 := h.max G lG cG leG x.2.1 w.s0 (by rw [lG]; exact w.s1)
        have := cG x hx (by omega)
        split <;> omega
      · exact h1
  · exact h
theorem PasF.fold {T : List Msg} {n : Nat} {b : Int} {A : List Int} (w : ∀ x ∈ T, WfM n b x) : ∀ (xs : List Msg) (F : List Int), (∀ x ∈ xs, x ∈ T) → PasF T n A F → PasF T n A (xs.foldl stF F)
  | [], F, _, h => h
  | x :: xs, F, m, h => PasF.fold w xs _ (fun y hy => m y (List.mem_cons_of_mem _ hy)) (h.step (m x List.mem_cons_self) (w x (m x List.mem_cons_self)))
theorem stF_sum {n : Nat} {b : Int} (F : List Int) (x : Msg) (hl : F.length = n) (w : WfM n b x) : ((stF F x).sum < F.sum) ∨ (stF F x = F ∧ (gt F x.2.1 ≤ x.2.2.1 → gt F x.2.2.2.1 ≤ x.2.2.2.2)) := by
  unfold stF
  have rl : x.2.2.2.1 < F.length := by rw [hl]; exact w.r1
  have r0 := w.r0
  split
  · by_cases g2 : x.2.2.2.2 < gt F x.2.2.2.1
    · refine .inl ?_
      rw [if_pos g2, sum_set (by omega), gt_get w.r0 rl]
      omega
    · refine .inr ⟨?_, fun _ => by omega⟩
      rw [if_neg g2, ← gt_get w.r0 rl, List.set_getElem_self]
  · rename_i g
    exact .inr ⟨rfl, fun h => absurd h g⟩
theorem stF_len (F : List Int) (x : Msg) : (stF F x).length = F.length := by
  unfold stF
  split
  · rw [List.length_set]
  · rfl
theorem foldF_len : ∀ (xs : List Msg) (F : List Int), (xs.foldl stF F).length = F.length
  | [], F => rfl
  | x :: xs, F => by rw [List.foldl_cons, foldF_len xs, stF_len]
theorem foldF_sum {n : Nat} {b : Int} : ∀ (xs : List Msg) (F : List Int), F.length = n → (∀ x ∈ xs, WfM n b x) → (xs.foldl stF F).sum < F.sum ∨ (xs.foldl stF F = F ∧ ∀ x ∈ xs, gt F x.2.1 ≤ x.2.2.1 → gt F x.2.2.2.1 ≤ x.2.2.2.2)
  | [], F, h, _ => .inr ⟨rfl, fun x hx => absurd hx List.not_mem_nil⟩
  | x :: xs, F, h, w => by
    rw [List.foldl_cons]
    have ih := foldF_sum xs (stF F x) ((stF_len F x).trans h) fun y hy => w y (List.mem_cons_of_mem _ hy)
    rcases stF_sum F x h (w x List.mem_cons_self) with s | ⟨s, s2⟩
    · rcases ih with i | ⟨i, _⟩
      · exact .inl (by omega)
      · rw [i]; exact .inl s
    · rw [s] at ih ⊢
      rcases ih with i | ⟨i, i2⟩
      · exact .inl i
      · refine .inr ⟨i, fun y hy => ?_⟩
        rcases List.mem_cons.mp hy with rfl | hy
        · exact s2
        · exact i2 y hy
structure LstF (T : List Msg) (n : Nat) (A F : List Int) : Prop where
  len : F.length = n
  pos : ∀ x ∈ F, 0 ≤ x
  le : Le F A
  cl : ClF T F
  max : ∀ G : List Int, G.length = n → ClF T G → Le G A → Le G F
theorem sum_leN {A : List Int} {b : Int} {n : Nat} (hl : A.length = n) (h : ∀ x ∈ A, x ≤ b) : A.sum ≤ b * n := by rw [← hl]; exact sum_le h
theorem loopF {τ : Type} {T : List Msg} {n : Nat} {b : Int} {A : List Int} (hA : A.length = n) (hb : ∀ x ∈ A, 0 ≤ x ∧ x ≤ b) (w : ∀ x ∈ T, WfM n b x) {C : List Int × Option (List Int) → Option Bool} {B : List Int × Option (List Int) → Option (Fw (List Int × Option (List Int)) τ)}
    (hC : ∀ c, C c = some (!decide (c.2 = some c.1))) (hB : ∀ c : List Int × Option (List Int), c.1.length = n → B c = some (.go (T.foldl stF c.1, some c.1))) (k : Nat) (hk : 2 * (b * n) + 2 < k) :
    ∃ F, whileS C B k (A, none) = some (.go (F, some F)) ∧ LstF T n A F := by
  obtain ⟨c, e, ⟨i, icl⟩, hc⟩ := whileS_ok (fun c : List Int × Option (List Int) => PasF T n A c.1 ∧ (∀ F0, c.2 = some F0 → F0.length = n ∧ c.1 = T.foldl stF F0)) (fun c => !decide (c.2 = some c.1)) (fun c => (T.foldl stF c.1, some c.1)) (fun c => 2 * c.1.sum.toNat + (if decide (c.2 = some c.1) then 0 else 1)) (fun c _ => hC c) (fun c ⟨i, _⟩ hc => by
    have i' : PasF T n A (T.foldl stF c.1) := PasF.fold w T _ (fun x hx => hx) i
    refine ⟨hB c i.len, ⟨i', fun F0 e => by cases e; exact ⟨i.len, rfl⟩⟩, ?_⟩
    have hc' : decide (c.2 = some c.1) = false := by simpa using hc
    rw [hc']
    have n1 := sum_ge i.pos
    have n2 := sum_ge i'.pos
    rcases foldF_sum T c.1 i.len w with h | ⟨h, _⟩
    · show 2 * (T.foldl stF c.1).sum.toNat + (if _ then _ else _) < 2 * c.1.sum.toNat + 1
      split <;> omega
    · show 2 * (T.foldl stF c.1).sum.toNat + (if decide (some c.1 = some (T.foldl stF c.1)) = true then _ else _) < 2 * c.1.sum.toNat + 1
      rw [h, decide_eq_true rfl]
      show 2 * c.1.sum.toNat + 0 < _
      omega) k (A, none) ⟨⟨hA, fun x hx => (hb x hx).1, Le.rfl, fun G _ _ h => h⟩, fun _ e => by cases e⟩ (by
      show 2 * A.sum.toNat + 1 < k
      have := sum_ge fun x hx => (hb x hx).1
      have := sum_leN hA fun x hx => (hb x hx).2
      omega)
  obtain ⟨F, o⟩ := c
  have ho : o = some F := by simpa using hc
  subst ho
  obtain ⟨hl, hf⟩ := icl F rfl
  refine ⟨F, e, i.len, i.pos, i.le, ?_, i.max⟩
  rcases foldF_sum T F hl w with h | ⟨h, h2⟩
  · have hf' : F = T.foldl stF F := hf
    rw [← hf'] at h
    exact absurd h (Int.lt_irrefl _)
  · exact h2
/-- both say the same -/
theorem both {T : List Msg} {n : Nat} {b : Int} {A0 P F0 F : List Int} (B : LstB T n b A0 P) (C : LstF T n F0 F) (lA : A0.length = n) (lF : F0.length = n) {p q a c : Int} (p0 : 0 ≤ p) (p1 : p < n) (q0 : 0 ≤ q) (q1 : q < n) (hA : ∀ i : Int, 0 ≤ i → i < n → gt A0 i = if i = q then c else 0) (hF : ∀ i : Int, 0 ≤ i → i < n → (i = p → gt F0 i = a) ∧ (i ≠ p → b ≤ gt F0 i)) : (gt F q < c) ↔ (a < gt P p) := by
  constructor
  · intro h
    apply Int.lt_of_not_ge
    intro g
    have le : Le P F0 := fun i i0 i1 => by
      rw [B.len] at i1
      by_cases e : i = p
      · rw [(hF i i0 i1).1 e, e]; exact g
      · exact Int.le_trans (B.bnd _ (gt_mem i0 (by rw [B.len]; exact i1))).2 ((hF i i0 i1).2 e)
    have cl : ClF T P := fun x hx h => Int.le_of_not_gt fun g => absurd (B.cl x hx g) (by omega)
    have h1 := C.max P B.len cl le q q0 (by rw [B.len]; exact q1)
    have h2 := B.ge q q0 (by rw [lA]; exact q1)
    rw [hA q q0 q1, if_pos rfl] at h2
    omega
  · intro h
    apply Int.lt_of_not_ge
    intro g
    have cl : ClB T F := fun x hx h => Int.lt_of_not_ge fun g => absurd (C.cl x hx g) (by omega)
    have le : Le A0 F := fun i i0 i1 => by
      rw [lA] at i1
      rw [hA i i0 i1]
      split
      · rename_i e; subst e; exact g
      · exact C.pos _ (gt_mem i0 (by rw [C.len]; exact i1))
    have h1 := B.min F C.len cl le p p0 (by rw [B.len]; exact p1)
    have h2 := C.le p p0 (by rw [C.len]; exact p1)
    rw [(hF p p0 p1).1 rfl] at h2
    omega
end Mi
end
/-! ## ShC2 -/
section
set_option maxHeartbeats 1000000
/-! ShC2: causal pasts and futures of histories. -/
namespace Sh
open PySem Mi Sh ShE
theorem forS_foldI {α A τ : Type} {B : α → A → Option (Fw A τ)} (J : A → Prop) (f : A → α → A) : ∀ (xs : List α) (a : A), (∀ x ∈ xs, ∀ a, J a → B x a = some (.go (f a x)) ∧ J (f a x)) → J a → forS B xs a = some (.go (xs.foldl f a))
  | [], a, _, _ => rfl
  | x :: xs, a, H, j => by
    unfold forS
    obtain ⟨e, j'⟩ := H x List.mem_cons_self a j
    rw [e]
    exact forS_foldI J f xs (f a x) (fun y hy => H y (List.mem_cons_of_mem _ hy)) j'
theorem setS_ok {xs : List Int} {i v : Int} (h0 : 0 ≤ i) (h1 : i < xs.length) : setS xs i v = some (xs.set i.toNat v) := by
  unfold setS ixN
  rw [if_pos h0, if_pos h1]; rfl
theorem repS_one {v : Int} {n : Nat} (h : n ≤ 16777216) : repS [v] (n : Int) = some (List.replicate n v) := by
  unfold repS
  rw [if_pos ⟨by omega, by omega, by rw [List.length_singleton, Int.toNat_natCast, Nat.one_mul]; exact h⟩, Int.toNat_natCast]
  congr 1
  induction n with
  | zero => rfl
  | succ n ih => rw [List.replicate_succ, List.replicate_succ, List.flatten_cons, ih (by omega)]; rfl
def MemT (R : List (List Int)) (x : Msg) : Prop := 0 < x.1 ∧ plc R x.1 = some (x.2.1, x.2.2.1) ∧ plc R (0 - x.1) = some (x.2.2.2.1, x.2.2.2.2)
structure Hok (R : List (List Int)) : Prop where
  u : Uq R
  rc : ∀ {p i : Nat} {m : Int}, 0 < m → Evt R p i (0 - m) → ∃ q k, Evt R q k m
  hl : (placesL R).length < 64
  row : ∀ r ∈ R, r.length ≤ 90
  len : R.length ≤ 90
theorem MemT.wf {R : List (List Int)} (H : Hok R) {x : Msg} (h : MemT R x) : WfM R.length 99 x := by
  obtain ⟨h0, h1, h2⟩ := h
  obtain ⟨_, p, i, a1, a2, r, b1, b2⟩ := (plc_some H.u).mp h1
  obtain ⟨_, p', i', c1, c2, r', d1, d2⟩ := (plc_some H.u).mp h2
  have e1 := (List.getElem?_eq_some_iff.mp b1).1
  have e2 := (List.getElem?_eq_some_iff.mp b2).1
  have e3 := (List.getElem?_eq_some_iff.mp d1).1
  have e4 := (List.getElem?_eq_some_iff.mp d2).1
  have e5 := H.row r (List.mem_of_getElem? b1)
  have e6 := H.row r' (List.mem_of_getElem? d1)
  exact ⟨by omega, by omega, by omega, by omega, by omega, by omega, by omega, by omega⟩
theorem law_messages_iff {R : List (List Int)} (H : Hok R) : ∃ T, law_messages R = some T ∧ T.length ≤ 64 ∧ ∀ x, x ∈ T ↔ MemT R x := by
  obtain ⟨T, h1, h2, h3, h4⟩ := law_messages_full H.u H.rc H.hl
  refine ⟨T, h1, h2, fun x => ⟨h3 x, fun h => ?_⟩⟩
  obtain ⟨h0, p1, p2⟩ := h
  obtain ⟨_, p, i, _, _, e⟩ := (plc_some H.u).mp p2
  obtain ⟨y, hy, ey⟩ := h4 h0 e
  obtain ⟨_, q1, q2⟩ := h3 y hy
  rw [ey, p1] at q1
  rw [ey, p2] at q2
  obtain ⟨x1, x2, x3, x4, x5⟩ := x
  obtain ⟨y1, y2, y3, y4, y5⟩ := y
  simp only [Option.some.injEq, Prod.mk.injEq] at q1 q2
  cases ey
  obtain ⟨rfl, rfl⟩ := q1
  obtain ⟨rfl, rfl⟩ := q2
  exact hy
theorem received_messages_iff {R : List (List Int)} (H : Hok R) : ∃ T, received_messages R = some T ∧ T.length ≤ 64 ∧ ∀ x, x ∈ T ↔ MemT R x := by
  unfold received_messages received_messages_S
  simp only [Option.bind_some, Option.map_some, message_table_eq H.u H.hl]
  have lt : (tabL R).length ≤ 63 := by
    unfold tabL msgs spotsL
    rw [List.length_map]
    refine Nat.le_trans (List.length_filter_le _ _) ?_
    rw [List.length_mergeSort, List.length_map]
    exact Nat.le_trans (List.length_filter_le _ _) (by have := H.hl; omega)
  have tm : ∀ e ∈ tabL R, 0 < e.1 ∧ plc R e.1 = some e.2.1 ∧ e.2.2 = plc R (0 - e.1) := fun e he => by
    unfold tabL at he
    obtain ⟨m, hm, rfl⟩ := List.mem_map.mp he
    obtain ⟨m0, p, i, a⟩ := mem_msgs.mp hm
    have : plc R m = some ((p : Int), (i : Int)) := (plc_some H.u).mpr ⟨by omega, p, i, rfl, rfl, a⟩
    refine ⟨m0, ?_, ?_⟩
    · show plc R m = some ((plc R m).getD (0, 0))
      rw [this]; rfl
    · show plc R (-m) = plc R (0 - m)
      rw [Int.zero_sub]
  let I : Nat → List Msg → Prop := fun k a => a.length ≤ k ∧ (∀ x ∈ a, MemT R x) ∧ ∀ t < k, ∀ e, (tabL R)[t]? = some e → e.2.2.isSome = true → ∃ y ∈ a, y.1 = e.1
  let B : (Int × (Int × Int) × Option (Int × Int)) → List Msg → Option (Fw (List Msg) (List Msg)) := fun x4 a2 =>
    if x4.2.2.isSome = true then (x4.2.2.bind fun z => some (x4.1, x4.2.1.1, x4.2.1.2, z.1, z.2)).bind fun x => (pushS a2 x).bind fun l5 => some (Fw.go l5) else some (Fw.go a2)
  have step : ∀ k x, (tabL R)[k]? = some x → ∀ a, I (0 + k) a → ∃ a', B x a = some (.go a') ∧ I (0 + k + 1) a' := fun k x hx a ia => by
    obtain ⟨m0, m1, m2⟩ := tm x (List.mem_of_getElem? hx)
    have hk := (List.getElem?_eq_some_iff.mp hx).1
    show ∃ a', (if x.2.2.isSome = true then _ else some (Fw.go a)) = some (Fw.go a') ∧ _
    cases ho : x.2.2 with
    | none =>
      refine ⟨a, rfl, by have := ia.1; omega, ia.2.1, fun t ht e he es => ?_⟩
      by_cases q : t = k
      · subst q
        rw [hx] at he
        cases he
        rw [ho] at es; cases es
      · exact ia.2.2 t (by omega) e he es
    | some z =>
      refine ⟨a ++ [(x.1, x.2.1.1, x.2.1.2, z.1, z.2)], ?_, ?_, fun y hy => ?_, fun t ht e he es => ?_⟩
      · show (pushS a _).bind _ = _
        rw [pushS_lt (by have := ia.1; omega)]; rfl
      · rw [List.length_append, List.length_singleton]; have := ia.1; omega
      · rcases List.mem_append.mp hy with hy | hy
        · exact ia.2.1 y hy
        · rw [List.mem_singleton.mp hy]
          exact ⟨m0, m1, by show plc R (0 - x.1) = some (z.1, z.2); rw [← m2, ho]⟩
      · by_cases q : t = k
        · subst q
          rw [hx] at he
          cases he
          exact ⟨_, List.mem_append.mpr (.inr (List.mem_singleton.mpr rfl)), rfl⟩
        · obtain ⟨y, hy, e2⟩ := ia.2.2 t (by omega) e he es
          exact ⟨y, List.mem_append.mpr (.inl hy), e2⟩
  obtain ⟨T, eT, i1, i2, i3⟩ := forS_inv (B := B) I (tabL R) 0 [] step ⟨Nat.le_refl _, fun x hx => absurd hx List.not_mem_nil, fun t ht => absurd ht (Nat.not_lt_zero _)⟩
  refine ⟨T, ?_, by omega, fun x => ⟨i2 x, fun h => ?_⟩⟩
  · show (forS B _ []).bind _ = _
    rw [eT]; rfl
  · obtain ⟨h0, p1, p2⟩ := h
    have ml := lookS_mem (tab_look H.u h0 p1)
    obtain ⟨t, ht⟩ := List.getElem?_of_mem ml
    obtain ⟨y, hy, ey⟩ := i3 t (by have := (List.getElem?_eq_some_iff.mp ht).1; omega) _ ht (by show (plc R (-x.1)).isSome = true; rw [← Int.zero_sub, p2]; rfl)
    obtain ⟨_, q1, q2⟩ := i2 y hy
    have ey' : y.1 = x.1 := ey
    rw [ey', p1] at q1
    rw [ey', p2] at q2
    obtain ⟨x1, x2, x3, x4, x5⟩ := x
    obtain ⟨y1, y2, y3, y4, y5⟩ := y
    simp only [Option.some.injEq, Prod.mk.injEq] at q1 q2
    cases ey'
    obtain ⟨rfl, rfl⟩ := q1
    obtain ⟨rfl, rfl⟩ := q2
    exact hy
/-! states -/
/-- a state of a history -/
def Stt (R : List (List Int)) (s : Int × Int) : Prop := ∃ (p a : Nat) (r : List Int), R[p]? = some r ∧ a ≤ r.count 0 + 1 ∧ s = ((p : Int), (a : Int))
def plS (R : List (List Int)) (s : Int × Int) : Int := (spots (R.getD s.1.toNat [])).getD s.2.toNat 0
theorem Stt.place {R : List (List Int)} {s : Int × Int} (h : Stt R s) : place_of (R, s) = some (plS R s) := by
  obtain ⟨p, a, r, h1, h2, rfl⟩ := h
  rw [place_of_eq (by rw [atI_nat]; exact h1) h2]
  unfold plS
  rw [Int.toNat_natCast, Int.toNat_natCast, List.getD_eq_getElem?_getD, List.getD_eq_getElem?_getD, h1]
  show _ = some ((spots r)[a]?.getD 0)
  rw [List.getElem?_eq_getElem (by rw [spots_len]; omega)]; rfl
theorem Stt.bnd {R : List (List Int)} {s : Int × Int} (H : Hok R) (h : Stt R s) : (0 ≤ s.1 ∧ s.1 < R.length) ∧ 0 ≤ plS R s ∧ plS R s ≤ 90 := by
  obtain ⟨p, a, r, h1, h2, rfl⟩ := h
  have e1 := (List.getElem?_eq_some_iff.mp h1).1
  obtain ⟨v, e2⟩ : ∃ v, (spots r)[a]? = some v := ⟨_, List.getElem?_eq_getElem (by rw [spots_len]; omega)⟩
  have := spots_mem (List.mem_of_getElem? e2)
  have := H.row r (List.mem_of_getElem? h1)
  unfold plS
  rw [Int.toNat_natCast, Int.toNat_natCast, List.getD_eq_getElem?_getD, List.getD_eq_getElem?_getD, h1]
  show _ ∧ 0 ≤ ((spots r)[a]?.getD 0) ∧ ((spots r)[a]?.getD 0) ≤ 90
  rw [e2]
  show _ ∧ 0 ≤ v ∧ v ≤ 90
  exact ⟨⟨by omega, by show (p : Int) < _; omega⟩, by omega, by omega⟩
theorem enum_nUp : ∀ (r : List Int), enumS 0 r = (nUp r.length).map fun k => (k, gt r k) := fun r => by
  apply List.ext_getElem?
  intro k
  rw [enumS_get, List.getElem?_map]
  by_cases h : k < r.length
  · rw [List.getElem?_eq_getElem h, nUp_get h]
    show some (((0 + k : Nat) : Int), r[k]) = some ((k : Int), gt r k)
    rw [Nat.zero_add]
    unfold gt
    rw [Int.toNat_natCast, List.getD_eq_getElem?_getD, List.getElem?_eq_getElem h]; rfl
  · rw [List.getElem?_eq_none (by omega), List.getElem?_eq_none (by rw [nUp_len]; omega)]; rfl
theorem saves_nUp (r : List Int) : saves r = (nUp r.length).filter fun k => decide (gt r k = 0) := by
  unfold saves savesF
  rw [enum_nUp, List.filter_map, List.map_map]
  show List.map (fun k => k) _ = _
  rw [List.map_id']
  rfl
theorem Stt.lplace {R : List (List Int)} (H : Hok R) {s : Int × Int} (h : Stt R s) : law_place (R, s) = some (plS R s) := by
  have hb := h.bnd H
  obtain ⟨p, a, r, h1, h2, rfl⟩ := h
  have hr := H.row r (List.mem_of_getElem? h1)
  unfold law_place law_place_S
  simp only [Option.bind_some, Option.map_some]
  rw [atI_nat, h1]
  simp only [Option.bind_some, Option.map_some]
  rw [rng1_nat (by omega)]
  simp only [Option.bind_some]
  rw [compS_some (c := fun k => decide (gt r k = 0)) (g := fun k => k + 1) (fun k hk => by
    obtain ⟨k0, k1⟩ := mem_nUp.mp hk
    rw [gt_at k0 k1]; rfl) fun _ _ _ => rfl, ← saves_nUp]
  simp only [Option.bind_some]
  have sl := saves_len r
  have cl := List.count_le_length (a := (0 : Int)) (l := r)
  rw [catS_le (by rw [List.length_map, List.length_singleton, sl]; omega)]
  simp only [Option.bind_some]
  rw [catS_le (by simp only [List.length_append, List.length_map, List.length_singleton, sl]; omega)]
  simp only [Option.bind_some]
  rw [atI_nat]
  have e : ([0] ++ (saves r).map (fun k => k + 1) ++ [(r.length : Int) + 1])[a]? = some (if a = 0 then 0 else (spots r).getD a 0 + 1) := by
    unfold spots
    cases a with
    | zero => rfl
    | succ a =>
      rw [if_neg (Nat.succ_ne_zero a), List.getD_eq_getElem?_getD]
      show ((saves r).map (fun k => k + 1) ++ [(r.length : Int) + 1])[a]? = some ((saves r ++ [(r.length : Int)])[a]?.getD 0 + 1)
      rw [show (saves r).map (fun k => k + 1) ++ [(r.length : Int) + 1] = (saves r ++ [(r.length : Int)]).map fun k => k + 1 by rw [List.map_append]; rfl, List.getElem?_map]
      rw [List.getElem?_eq_getElem (by rw [List.length_append, sl, List.length_singleton]; omega)]
      rfl
  rw [e]
  have ep : plS R ((p : Int), (a : Int)) = (spots r).getD a 0 := by
    unfold plS
    rw [Int.toNat_natCast, Int.toNat_natCast, show R.getD p [] = r by rw [List.getD_eq_getElem?_getD, h1]; rfl]
  rw [ep] at hb ⊢
  simp only [Option.bind_some]
  have hb2 := hb.2.1
  by_cases ha : a = 0
  · subst ha; rfl
  · rw [if_neg ha]
    congr 1
    split <;> omega
theorem get_rep {n : Nat} {v : Int} {q c : Int} (q0 : 0 ≤ q) (q1 : q < n) {i : Int} (i0 : 0 ≤ i) (i1 : i < n) : gt ((List.replicate n v).set q.toNat c) i = if i = q then c else v := by
  rw [gt_set q0 (by rw [List.length_replicate]; exact q1) i0]
  split
  · rfl
  · unfold gt
    rw [List.getD_eq_getElem?_getD, List.getElem?_replicate, if_pos (by omega)]; rfl
theorem mem_rep {n : Nat} {v : Int} {q : Nat} {c x : Int} (h : x ∈ (List.replicate n v).set q c) : x = v ∨ x = c := by
  rcases mem_set' h with h | h
  · exact .inl (List.eq_of_mem_replicate h)
  · exact .inr h
end Sh
end
/-! ## ShC3 -/
section
set_option maxHeartbeats 1000000
/-! ShC3: pasts and futures. -/
namespace Sh
open PySem Mi Sh ShE
/-- steps that are not taken by unfolding (repS must not be unfolded by the kernel) -/
theorem bsS {α β : Type} (a : α) (f : α → Option β) : (some a).bind f = f a := by simp only [Option.bind_some]
theorem msS {α β : Type} (a : α) (f : α → β) : Option.map f (some a) = some (f a) := by simp only [Option.map_some]
/-- the past of a state -/
structure Past (R : List (List Int)) (s : Int × Int) (T : List Msg) (P : List Int) : Prop where
  eq : causal_past (R, s) = some P
  lst : LstB T R.length 99 ((List.replicate R.length 0).set s.1.toNat (plS R s)) P
theorem causal_ok {R : List (List Int)} (H : Hok R) {s : Int × Int} (h : Stt R s) : ∃ T P, (∀ x, x ∈ T ↔ MemT R x) ∧ Past R s T P := by
  obtain ⟨⟨s0, s1⟩, p0, p1⟩ := h.bnd H
  obtain ⟨T, eT, lT, mT⟩ := received_messages_iff H
  have hn := H.len
  have w : ∀ x ∈ T, WfM R.length 99 x := fun x hx => ((mT x).mp hx).wf H
  have hA : ((List.replicate R.length (0 : Int)).set s.1.toNat (plS R s)).length = R.length := by rw [List.length_set, List.length_replicate]
  have body : ∀ c : List Int × Bool, c.1.length = R.length → (∀ x ∈ c.1, 0 ≤ x ∧ x ≤ 99) → ∀ (τ : Type) (c0 : Bool), forS (τ := τ) (fun (x12 : Msg) (a10 : List Int × Bool) => (((atI a10.1 x12.2.2.2.1).bind fun y => some (decide (x12.2.2.2.2 < y))).bind fun x => if x = true then (atI a10.1 x12.2.1).bind fun x => some (decide (x ≤ x12.2.2.1)) else some false).bind fun x => if x = true then (setS a10.1 x12.2.1 (x12.2.2.1 + 1)).bind fun l13 => some (Fw.go (l13, true)) else some (Fw.go (a10.1, a10.2))) T (c.1, c0) = some (.go (T.foldl stB (c.1, c0))) := fun c hl hb τ c0 => by
    refine forS_foldI (fun a : List Int × Bool => a.1.length = R.length) stB T (c.1, c0) (fun x hx a ha => ?_) hl
    have wx := w x hx
    rw [gt_at wx.r0 (by rw [ha]; exact wx.r1), gt_at wx.s0 (by rw [ha]; exact wx.s1), setS_ok wx.s0 (by rw [ha]; exact wx.s1)]
    unfold stB
    by_cases g1 : x.2.2.2.2 < gt a.1 x.2.2.2.1
    · by_cases g2 : gt a.1 x.2.1 ≤ x.2.2.1
      · rw [if_pos ⟨g1, g2⟩]
        exact ⟨by simp only [Option.bind_some, decide_eq_true g1, decide_eq_true g2, if_true] <;> rfl, by rw [List.length_set]; exact ha⟩
      · rw [if_neg (fun z => g2 z.2)]
        exact ⟨by simp only [Option.bind_some, decide_eq_true g1, decide_eq_false g2, if_true] <;> rfl, ha⟩
    · rw [if_neg (fun z => g1 z.1)]
      exact ⟨by simp only [Option.bind_some, decide_eq_false g1] <;> rfl, ha⟩
  obtain ⟨W, hW⟩ : ∃ W, W = wfO := ⟨_, rfl⟩
  obtain ⟨P, eP, lP⟩ := loopB (τ := List Int) (T := T) (n := R.length) (b := 99) (A := (List.replicate R.length 0).set s.1.toNat (plS R s)) hA (fun x hx => by
      rcases mem_rep hx with rfl | rfl <;> omega) w (C := fun a6 => some a6.2) (B := fun a6 => (forS (fun (x12 : Msg) (a10 : List Int × Bool) => (((atI a10.1 x12.2.2.2.1).bind fun y => some (decide (x12.2.2.2.2 < y))).bind fun x => if x = true then (atI a10.1 x12.2.1).bind fun x => some (decide (x ≤ x12.2.2.1)) else some false).bind fun x => if x = true then (setS a10.1 x12.2.1 (x12.2.2.1 + 1)).bind fun l13 => some (Fw.go (l13, true)) else some (Fw.go (a10.1, a10.2))) T (a6.1, false)).bind (thenS Fw.ret fun a15 => some (Fw.go (a15.1, a15.2)))) (fun c => rfl) (fun c hl hb => by
      rw [body c hl hb]; rfl) W (by rw [hW, wfO_eq]; unfold wfuel; omega) (by rw [hW, wfO_eq]; unfold wfuel; omega)
  refine ⟨T, P, mT, ?_, lP⟩
  unfold causal_past causal_past_S
  simp only [bsS, msS, eT, h.place]
  rw [repS_one (by omega)]
  simp only [bsS]
  rw [setS_ok s0 (by rw [List.length_replicate]; exact s1)]
  simp only [bsS]
  rw [← hW]
  have e2 : ∀ {x : Option (Fw (List Int × Bool) (List Int))}, x = some (.go (P, false)) → (x.bind (thenS (fun v => v) fun a17 => some a17.1)) = some P := fun h => by rw [h]; rfl
  exact e2 eP
structure Futu (R : List (List Int)) (s : Int × Int) (T : List Msg) (F : List Int) : Prop where
  eq : law_future (R, s) = some F
  lst : LstF T R.length ((List.replicate R.length 99).set s.1.toNat (plS R s)) F
theorem future_ok {R : List (List Int)} (H : Hok R) {s : Int × Int} (h : Stt R s) : ∃ T F, (∀ x, x ∈ T ↔ MemT R x) ∧ Futu R s T F := by
  obtain ⟨⟨s0, s1⟩, p0, p1⟩ := h.bnd H
  obtain ⟨T, eT, lT, mT⟩ := law_messages_iff H
  have hn := H.len
  have w : ∀ x ∈ T, WfM R.length 99 x := fun x hx => ((mT x).mp hx).wf H
  have hA : ((List.replicate R.length (99 : Int)).set s.1.toNat (plS R s)).length = R.length := by rw [List.length_set, List.length_replicate]
  have body : ∀ (τ : Type) (c : List Int), c.length = R.length → forS (τ := τ) (fun (x10 : Msg) (a8 : List Int) => ((atI a8 x10.2.1).bind fun y => some (decide (y ≤ x10.2.2.1))).bind fun x => if x = true then ((atI a8 x10.2.2.2.1).bind fun x => some (if x10.2.2.2.2 < x then x10.2.2.2.2 else x)).bind fun x => (setS a8 x10.2.2.2.1 x).bind fun l11 => some (Fw.go l11) else some (Fw.go a8)) T c = some (.go (T.foldl stF c)) := fun τ c hl => by
    refine forS_foldI (fun a : List Int => a.length = R.length) stF T c (fun x hx a ha => ?_) hl
    have wx := w x hx
    rw [gt_at wx.r0 (by rw [ha]; exact wx.r1), gt_at wx.s0 (by rw [ha]; exact wx.s1)]
    unfold stF
    by_cases g1 : gt a x.2.1 ≤ x.2.2.1
    · simp only [Option.bind_some, decide_eq_true g1, if_true, if_pos g1]
      rw [setS_ok wx.r0 (by rw [ha]; exact wx.r1)]
      exact ⟨rfl, by rw [List.length_set]; exact ha⟩
    · rw [if_neg g1]
      exact ⟨by simp only [Option.bind_some, decide_eq_false g1] <;> rfl, ha⟩
  obtain ⟨W, hW⟩ : ∃ W, W = wfO := ⟨_, rfl⟩
  obtain ⟨F, eF, lF⟩ := loopF (τ := List Int) (T := T) (n := R.length) (b := 99) (A := (List.replicate R.length 99).set s.1.toNat (plS R s)) hA (fun x hx => by
      rcases mem_rep hx with rfl | rfl <;> omega) w (C := fun a4 => some (!decide (a4.2 = some a4.1))) (B := fun a4 => (forS (fun (x10 : Msg) (a8 : List Int) => ((atI a8 x10.2.1).bind fun y => some (decide (y ≤ x10.2.2.1))).bind fun x => if x = true then ((atI a8 x10.2.2.2.1).bind fun x => some (if x10.2.2.2.2 < x then x10.2.2.2.2 else x)).bind fun x => (setS a8 x10.2.2.2.1 x).bind fun l11 => some (Fw.go l11) else some (Fw.go a8)) T a4.1).bind (thenS Fw.ret fun a12 => some (Fw.go (a12, some a4.1)))) (fun c => rfl) (fun c hl => by
      rw [body _ c.1 hl]; rfl) W (by rw [hW, wfO_eq]; unfold wfuel; omega)
  refine ⟨T, F, mT, ?_, lF⟩
  unfold law_future law_future_S
  simp only [bsS, msS, eT, h.lplace H]
  rw [repS_one (by omega)]
  simp only [bsS]
  rw [setS_ok s0 (by rw [List.length_replicate]; exact s1)]
  simp only [bsS]
  rw [← hW]
  have e2 : ∀ {x : Option (Fw (List Int × Option (List Int)) (List Int))}, x = some (.go (F, some F)) → (x.bind (thenS (fun v => v) fun a17 => some a17.1)) = some F := fun h => by rw [h]; rfl
  exact e2 eF
theorem lstF_congr {T T' : List Msg} {n : Nat} {A F : List Int} (e : ∀ x, x ∈ T ↔ x ∈ T') (h : LstF T n A F) : LstF T' n A F :=
  ⟨h.len, h.pos, h.le, fun x hx => h.cl x ((e x).mpr hx), fun G l c le => h.max G l (fun x hx => c x ((e x).mp hx)) le⟩
/-- pasts and futures agree -/
theorem past_future {R : List (List Int)} (H : Hok R) {s t : Int × Int} (hs : Stt R s) (ht : Stt R t) {T T' : List Msg} {P F : List Int} (m : ∀ x, x ∈ T ↔ MemT R x) (m' : ∀ x, x ∈ T' ↔ MemT R x) (p : Past R t T P) (f : Futu R s T' F) : (gt F t.1 < plS R t) ↔ (plS R s < gt P s.1) := by
  obtain ⟨⟨s0, s1⟩, _⟩ := hs.bnd H
  obtain ⟨⟨t0, t1⟩, _⟩ := ht.bnd H
  refine both p.lst (lstF_congr (fun x => (m' x).trans (m x).symm) f.lst) (by rw [List.length_set, List.length_replicate]) (by rw [List.length_set, List.length_replicate]) s0 s1 t0 t1 (fun i i0 i1 => get_rep t0 t1 i0 i1) fun i i0 i1 => ?_
  rw [get_rep s0 s1 i0 i1]
  exact ⟨fun e => if_pos e, fun e => by rw [if_neg e]; exact Int.le_refl _⟩
end Sh
end
/-! ## ShC4 -/
section
set_option maxHeartbeats 1000000
/-! ShC4: vectors; what comes before what. -/
namespace Sh
open PySem Mi Sh ShE
theorem savesF_cnt (r : List Int) : ∀ (i j k : Nat) (v : Int), (savesF i r)[j]? = some v → (v < (i + k : Nat) ↔ j + 1 ≤ (r.take k).count 0) := by
  induction r with
  | nil => intro i j k v h; cases h
  | cons e r ih =>
    intro i j k v h
    by_cases e0 : e = 0
    · subst e0
      have hs : savesF i (0 :: r) = (i : Int) :: savesF (i + 1) r := by
        unfold savesF
        show List.map _ (List.filter _ (((i : Int), (0 : Int)) :: enumS (i + 1) r)) = _
        rw [List.filter_cons_of_pos (by rfl)]; rfl
      rw [hs] at h
      cases j with
      | zero =>
        cases h
        cases k with
        | zero => simp
        | succ k => rw [List.take_succ_cons, List.count_cons_self]; omega
      | succ j =>
        have h' : (savesF (i + 1) r)[j]? = some v := by simpa using h
        cases k with
        | zero =>
          obtain ⟨t, e1, _⟩ := savesF_mem (List.mem_of_getElem? h')
          simp only [List.take_zero, List.count_nil]
          omega
        | succ k =>
          have := ih (i + 1) j k v h'
          rw [List.take_succ_cons, List.count_cons_self]
          rw [show i + (k + 1) = i + 1 + k by omega]
          omega
    · have hs : savesF i (e :: r) = savesF (i + 1) r := by
        unfold savesF
        show List.map _ (List.filter _ (((i : Int), e) :: enumS (i + 1) r)) = _
        rw [List.filter_cons_of_neg (by simpa using e0)]
      rw [hs] at h
      cases k with
      | zero =>
        obtain ⟨t, e1, _⟩ := savesF_mem (List.mem_of_getElem? h)
        simp only [List.take_zero, List.count_nil]
        omega
      | succ k =>
        have := ih (i + 1) j k v h
        rw [List.take_succ_cons, List.count_cons_of_ne e0]
        rw [show i + (k + 1) = i + 1 + k by omega]
        exact this
/-- number of the first state that is not before the first c events -/
def ivl (r : List Int) (c : Int) : Int := if 0 < c then (((r.take (c - 1).toNat).count 0 : Nat) : Int) + 1 else 0
theorem ivl_iff {r : List Int} {a : Nat} {c : Int} (ha : a ≤ r.count 0 + 1) (hc : c = 0 ∨ ∃ (k : Nat) (e : Int), c = k + 1 ∧ r[k]? = some e ∧ e ≠ 0) : ((a : Int) < ivl r c) ↔ (spots r).getD a 0 < c := by
  have lo : 0 ≤ (spots r).getD a 0 := by
    rw [List.getD_eq_getElem?_getD, List.getElem?_eq_getElem (by rw [spots_len]; omega)]
    exact (spots_mem (List.getElem_mem _)).1
  rcases hc with rfl | ⟨k, e, rfl, he, e0⟩
  · unfold ivl
    rw [if_neg (Int.lt_irrefl 0)]
    omega
  · unfold ivl
    rw [if_pos (by omega), show ((k : Int) + 1 - 1).toNat = k by omega]
    have hk := (List.getElem?_eq_some_iff.mp he).1
    unfold spots
    cases a with
    | zero =>
      show _ ↔ (0 : Int) < _
      omega
    | succ a =>
      rw [List.getD_eq_getElem?_getD]
      show _ ↔ (saves r ++ [(r.length : Int)])[a]?.getD 0 < _
      have sl := saves_len r
      by_cases hl : a < r.count 0
      · rw [List.getElem?_append_left (by omega), List.getElem?_eq_getElem (by omega)]
        show _ ↔ (saves r)[a] < _
        have h1 := savesF_cnt r 0 a k ((saves r)[a]'(by omega)) (List.getElem?_eq_getElem (by show a < (saves r).length; omega))
        obtain ⟨t, et, e2⟩ := savesF_mem (r := r) (i := 0) (k := (saves r)[a]'(by omega)) (List.getElem_mem (l := saves r) (by omega))
        have hne : t ≠ k := fun z => by
          subst z
          rw [e2] at he
          cases he
          exact e0 rfl
        rw [Nat.zero_add] at h1 et
        omega
      · have hl2 : a = r.count 0 := by omega
        rw [List.getElem?_append_right (by omega), sl, hl2, Nat.sub_self]
        show _ ↔ (r.length : Int) < _
        have : (r.take k).count 0 ≤ r.count 0 := List.Sublist.count_le 0 (List.take_sublist k r)
        omega
theorem interval_at_eq {r : List Int} {i : Int} (h0 : 0 ≤ i) : interval_at (r, i) = some (((r.take i.toNat).count 0 : Nat) : Int) := by
  unfold interval_at interval_at_S
  simp only [Option.bind_some, Option.map_some]
  congr 3
  unfold cutL sIx
  show (r.drop 0).take ((if i < 0 then _ else _) - 0) = _
  rw [if_neg (by omega), Nat.sub_zero, List.drop_zero]
  by_cases h : i.toNat ≤ r.length
  · rw [Nat.min_eq_left h]
  · rw [Nat.min_eq_right (by omega), List.take_of_length_le (Nat.le_refl _), List.take_of_length_le (by omega)]
def vec (R : List (List Int)) (t : Int × Int) (P : List Int) : List Int := ((R.zip P).map fun x => ivl x.1 x.2).set t.1.toNat t.2
theorem vector_eq {R : List (List Int)} (H : Hok R) {t : Int × Int} (ht : Stt R t) {T : List Msg} {P : List Int} (p : Past R t T P) : vector_of (R, t) = some (vec R t P) := by
  obtain ⟨⟨t0, t1⟩, _⟩ := ht.bnd H
  unfold vector_of vector_of_S
  simp only [bsS, msS, p.eq]
  rw [compS_map (g := fun x => ivl x.1 x.2) fun x hx => by
    by_cases h : 0 < x.2
    · rw [decide_eq_true h, if_pos rfl, interval_at_eq (by omega)]
      unfold ivl
      rw [if_pos h]; rfl
    · rw [decide_eq_false h]
      unfold ivl
      rw [if_neg h]; rfl]
  simp only [bsS]
  rw [setS_ok t0 (by rw [List.length_map, List.length_zip, p.lst.len, Nat.min_self]; exact t1)]
  rfl
theorem vec_len {R : List (List Int)} {t : Int × Int} {P : List Int} (h : P.length = R.length) : (vec R t P).length = R.length := by
  unfold vec
  rw [List.length_set, List.length_map, List.length_zip, h, Nat.min_self]
theorem vec_gt {R : List (List Int)} (H : Hok R) {t : Int × Int} (ht : Stt R t) {P : List Int} (hP : P.length = R.length) {p : Nat} {r : List Int} (hr : R[p]? = some r) : gt (vec R t P) p = if (p : Int) = t.1 then t.2 else ivl r (gt P p) := by
  obtain ⟨⟨t0, t1⟩, _⟩ := ht.bnd H
  have hp := (List.getElem?_eq_some_iff.mp hr).1
  unfold vec
  rw [gt_set t0 (by rw [List.length_map, List.length_zip, hP, Nat.min_self]; exact t1) (by omega)]
  split
  · rfl
  · unfold gt
    have ez : (R.zip P)[p]? = some (r, P[p]'(by omega)) := List.getElem?_zip_eq_some.mpr ⟨hr, List.getElem?_eq_getElem _⟩
    rw [Int.toNat_natCast, List.getD_eq_getElem?_getD, List.getElem?_map, ez, List.getD_eq_getElem?_getD, List.getElem?_eq_getElem (by omega)]
    rfl
/-- entries of the past of others: behind a sending -/
theorem past_org {R : List (List Int)} (H : Hok R) {t : Int × Int} (ht : Stt R t) {T : List Msg} {P : List Int} (m : ∀ x, x ∈ T ↔ MemT R x) (p : Past R t T P) {q : Nat} {r : List Int} (hr : R[q]? = some r) (hne : (q : Int) ≠ t.1) : gt P q = 0 ∨ ∃ (k : Nat) (e : Int), gt P q = k + 1 ∧ r[k]? = some e ∧ e ≠ 0 := by
  obtain ⟨⟨t0, t1⟩, _⟩ := ht.bnd H
  have hq := (List.getElem?_eq_some_iff.mp hr).1
  rcases p.lst.org q (by omega) (by omega) with h | ⟨x, hx, e1, e2⟩
  · rw [get_rep t0 t1 (by omega) (by omega), if_neg hne] at h
    exact .inl h
  · obtain ⟨m0, m1, _⟩ := (m x).mp hx
    obtain ⟨_, q', i, a1, a2, r', b1, b2⟩ := (plc_some H.u).mp m1
    have : q' = q := by omega
    subst this
    rw [hr] at b1
    cases b1
    exact .inr ⟨i, x.1, by omega, b2, by omega⟩
theorem before_iff {R : List (List Int)} (H : Hok R) {s t : Int × Int} (hs : Stt R s) (ht : Stt R t) (hne : s.1 ≠ t.1) {T : List Msg} {P : List Int} (m : ∀ x, x ∈ T ↔ MemT R x) (p : Past R t T P) : (s.2 < gt (vec R t P) s.1) ↔ (plS R s < gt P s.1) := by
  obtain ⟨q, a, r, h1, h2, rfl⟩ := hs
  rw [vec_gt H ht p.lst.len h1, if_neg hne]
  have e : plS R ((q : Int), (a : Int)) = (spots r).getD a 0 := by
    unfold plS
    rw [Int.toNat_natCast, Int.toNat_natCast, show R.getD q [] = r by rw [List.getD_eq_getElem?_getD, h1]; rfl]
  rw [e]
  exact ivl_iff h2 (past_org H ht m p h1 hne)
/-- comes_before, by what the law finds -/
theorem comes_eq {R : List (List Int)} (H : Hok R) {s t : Int × Int} (hs : Stt R s) (ht : Stt R t) {F : List Int} (ef : law_future (R, s) = some F) :
    comes_before (R, s, t) = some (if s.1 = t.1 then decide (s.2 < t.2) else decide (gt F t.1 < plS R t)) := by
  obtain ⟨⟨s0, s1⟩, _⟩ := hs.bnd H
  obtain ⟨T, P, m, p⟩ := causal_ok H ht
  obtain ⟨T', F', m', f⟩ := future_ok H hs
  have : F' = F := by have := f.eq; rw [ef] at this; exact (Option.some.inj this).symm
  subst this
  unfold comes_before comes_before_S
  simp only [bsS, msS, vector_eq H ht p]
  rw [gt_at s0 (by rw [vec_len p.lst.len]; exact s1)]
  simp only [bsS]
  refine congrArg some ?_
  by_cases e : s.1 = t.1
  · rw [if_pos e]
    obtain ⟨q, a, r, h1, h2, es⟩ := hs
    rw [show s.1 = (q : Int) by rw [es], vec_gt H ht p.lst.len h1, if_pos (by rw [← e, es])]
  · rw [if_neg e, Bool.eq_iff_iff, decide_eq_true_iff, decide_eq_true_iff, before_iff H hs ht e m p, past_future H hs ht m m' p f]
/-- all states -/
def statesL (R : List (List Int)) : List (Int × Int) := (enumS 0 R).flatMap fun x => (nUp (x.2.count 0 + 2)).map fun k => (x.1, k)
theorem mem_statesL {R : List (List Int)} {s : Int × Int} : s ∈ statesL R ↔ Stt R s := by
  unfold statesL Stt
  rw [List.mem_flatMap]
  constructor
  · rintro ⟨x, hx, h⟩
    obtain ⟨p, e1, e2⟩ := mem_enumS.mp hx
    obtain ⟨k, hk, rfl⟩ := List.mem_map.mp h
    obtain ⟨k0, k1⟩ := mem_nUp.mp hk
    refine ⟨p, k.toNat, x.2, e1, by omega, ?_⟩
    rw [e2, Nat.zero_add, show ((k.toNat : Nat) : Int) = k by omega]
  · rintro ⟨p, a, r, h1, h2, rfl⟩
    exact ⟨((p : Int), r), mem_enumS.mpr ⟨p, h1, by rw [Nat.zero_add]⟩, List.mem_map.mpr ⟨(a : Int), mem_nUp.mpr ⟨by omega, by show (a : Int) < ((r.count 0 + 2 : Nat) : Int); omega⟩, rfl⟩⟩
theorem states_for {τ : Type} : ∀ (xs : List (Int × List Int)) (acc : List (Int × Int)), (∀ x ∈ xs, x.2.length ≤ 90) → acc.length + 92 * xs.length ≤ 16777216 →
    forS (τ := τ) (fun x4 a2 => ((((rng1 (((List.count 0 x4.2 : Nat) : Int) + 2)).bind fun xs => compS (fun _ => some true) (fun x5 => some (x4.1, x5)) xs).bind fun y => catS a2 y).bind fun v6 => some (Fw.go v6))) xs acc = some (.go (acc ++ xs.flatMap fun x => (nUp (x.2.count 0 + 2)).map fun k => (x.1, k)))
  | [], acc, _, _ => by rw [List.flatMap_nil, List.append_nil]; rfl
  | x :: xs, acc, h, hl => by
    have h1 := h x List.mem_cons_self
    have h2 := List.count_le_length (a := (0 : Int)) (l := x.2)
    rw [List.length_cons] at hl
    unfold forS
    rw [show ((List.count 0 x.2 : Nat) : Int) + 2 = ((List.count 0 x.2 + 2 : Nat) : Int) by omega, rng1_nat (by omega)]
    simp only [Option.bind_some]
    rw [compS_pure]
    simp only [Option.bind_some]
    rw [catS_le (by rw [List.length_map, nUp_len]; omega)]
    simp only [Option.bind_some]
    rw [states_for xs _ (fun y hy => h y (List.mem_cons_of_mem _ hy)) (by rw [List.length_append, List.length_map, nUp_len]; omega), List.flatMap_cons, List.append_assoc]
theorem law_states_eq {R : List (List Int)} (H : Hok R) : law_states R = some (statesL R) := by
  unfold law_states law_states_S
  simp only [Option.bind_some, Option.map_some]
  have hn := H.len
  rw [states_for (enumS 0 R) [] (fun x hx => by
    obtain ⟨p, e1, _⟩ := mem_enumS.mp hx
    exact H.row _ (List.mem_of_getElem? e1)) (by rw [enumS_len, List.length_nil]; omega)]
  rfl
end Sh
end
/-! ## ShC5 -/
section
set_option maxHeartbeats 1000000
/-! ShC5: histories of the generators are fit for all this. -/
namespace Sh
open PySem Mi Sh ShE
theorem brS {α β : Type} (v : α) (k : α → WM β) : bindM (retM v) k = k v := by simp only [bindM_ret]
theorem evn_push : ∀ (R : List (List Int)) (p : Nat) (x : Int), ((push R p x).map List.length).sum ≤ (R.map List.length).sum + 1
  | [], p, x => by unfold push; simp
  | r :: R, 0, x => by
    show (((r ++ [x]) :: R).map List.length).sum ≤ _
    rw [List.map_cons, List.map_cons, List.sum_cons, List.sum_cons, List.length_append, List.length_singleton]; omega
  | r :: R, p + 1, x => by
    show ((r :: push R p x).map List.length).sum ≤ _
    have := evn_push R p x
    rw [List.map_cons, List.map_cons, List.sum_cons, List.sum_cons]; omega
theorem evn_hs {cnt j : Nat} {R : List (List Int)} {O : List (Int × Int)} (g : Hs cnt j R O) : (R.map List.length).sum ≤ j := by
  induction g with
  | zero =>
    induction cnt with
    | zero => exact Nat.le_refl _
    | succ k ih => rw [List.replicate_succ, List.map_cons, List.sum_cons]; exact Nat.le_trans (by show 0 + _ ≤ _; omega) ih
  | save _ _ ih => exact Nat.le_trans (evn_push _ _ _) (Nat.succ_le_succ ih)
  | send _ _ _ _ _ ih => exact Nat.le_trans (evn_push _ _ _) (Nat.succ_le_succ ih)
  | skip _ ih => exact Nat.le_succ_of_le ih
  | recv _ _ _ _ ih => exact Nat.le_trans (evn_push _ _ _) (Nat.succ_le_succ ih)
theorem placesL_evn (R : List (List Int)) : (placesL R).length = (R.map List.length).sum := by
  unfold placesL
  rw [List.length_flatMap]
  have : ∀ (R : List (List Int)) (i : Nat), ((enumS i R).map fun x => ((enumS 0 x.2).map fun y => (x.1, y.1, y.2)).length).sum = (R.map List.length).sum := by
    intro R
    induction R with
    | nil => intro i; rfl
    | cons r R ih =>
      intro i
      have h := ih (i + 1)
      rw [enumS, List.map_cons, List.map_cons, List.sum_cons, List.sum_cons, h, List.length_map, enumS_len]
  exact this R 0
theorem hok_of {cnt j : Nat} {R : List (List Int)} {O : List (Int × Int)} (g : Hs cnt j R O) (hc : cnt ≤ 40) (hj : j < 64) : Hok R ∧ ∃ z, reprS (eT (eT eI) R) = some z := by
  have hI := HI.of g
  have hlen := ShE.Hs.len g
  have pl : (placesL R).length < 64 := by
    rw [placesL_evn]
    exact Nat.lt_of_le_of_lt (evn_hs g) hj
  refine ⟨⟨hI.uniq, fun h0 h => by obtain ⟨q, k, a, _⟩ := hI.rcv h0 h; exact ⟨q, k, a⟩, pl, fun r hr => Nat.le_trans (hlen.2 r hr) (by omega), by rw [hI.len]; omega⟩, _, reprS_le (SmH.rsz ⟨by rw [hI.len]; exact hc, fun r hr => Nat.le_trans (hlen.2 r hr) (by omega), fun r hr x hx => ?_⟩)⟩
  obtain ⟨p, hp⟩ := List.getElem?_of_mem hr
  obtain ⟨i, hi⟩ := List.getElem?_of_mem hx
  have := hI.bnd (e := x) ⟨r, hp, hi⟩
  exact ⟨by omega, by omega⟩
theorem repr_bool (b : Bool) : reprS (eB b) = some (eB b).shown := reprS_le (by cases b <;> decide)
end Sh
end
/-! ## ShT -/
section
set_option maxHeartbeats 1000000
/-! ShT: events have times; coming before is an order. -/
namespace Sh
open PySem Mi Sh ShE
structure Tim (R : List (List Int)) (j : Nat) (τ : Nat → Nat → Nat) : Prop where
  lt : ∀ {p i : Nat} {e : Int}, Evt R p i e → τ p i < j
  row : ∀ {p i i' : Nat} {e e' : Int}, Evt R p i e → Evt R p i' e' → i < i' → τ p i < τ p i'
  msg : ∀ {p i q k : Nat} {m : Int}, 0 < m → Evt R q k m → Evt R p i (0 - m) → τ q k < τ p i
theorem Evt.lt {R : List (List Int)} {p i : Nat} {e : Int} (h : Evt R p i e) : p < R.length ∧ i < (R.getD p []).length := by
  obtain ⟨r, h1, h2⟩ := h
  refine ⟨(List.getElem?_eq_some_iff.mp h1).1, ?_⟩
  rw [List.getD_eq_getElem?_getD, h1]
  exact (List.getElem?_eq_some_iff.mp h2).1
theorem Tim.push {R : List (List Int)} {j p : Nat} {x : Int} {τ : Nat → Nat → Nat} (hp : p < R.length) (h : Tim R j τ) (hx : 0 < x → ∀ q i, ¬ Evt R q i (0 - x)) : ∃ τ', Tim (Mi.push R p x) (j + 1) τ' := by
  let τ' : Nat → Nat → Nat := fun q i => if q = p ∧ i = (R.getD p []).length then j else τ q i
  have old : ∀ {q i : Nat} {e : Int}, Evt R q i e → τ' q i = τ q i := fun {q i e} h => if_neg fun ⟨a, b⟩ => by
    subst a
    have := (Evt.lt h).2
    omega
  have new : τ' p (R.getD p []).length = j := if_pos ⟨rfl, rfl⟩
  refine ⟨τ', fun h1 => ?_, fun {p1 i i' e e'} h1 h2 hi => ?_, fun {p1 i q k m} hm h1 h2 => ?_⟩
  · rcases (Evt_push hp).mp h1 with h1 | ⟨rfl, rfl, rfl⟩
    · rw [old h1]; exact Nat.lt_succ_of_lt (h.lt h1)
    · rw [new]; exact Nat.lt_succ_self _
  · rcases (Evt_push hp).mp h1 with k1 | ⟨e1, e2, e3⟩
    · rcases (Evt_push hp).mp h2 with k2 | ⟨e1, e2, e3⟩
      · rw [old k1, old k2]; exact h.row k1 k2 hi
      · rw [old k1, e1, e2, new]; rw [← e1]; exact h.lt k1
    · rcases (Evt_push hp).mp h2 with k2 | ⟨_, h3, _⟩
      · have := (Evt.lt k2).2
        rw [e1] at this
        omega
      · omega
  · rcases (Evt_push hp).mp h1 with k1 | ⟨e1, e2, e3⟩
    · rcases (Evt_push hp).mp h2 with k2 | ⟨f1, f2, f3⟩
      · rw [old k1, old k2]; exact h.msg hm k1 k2
      · rw [old k1, f1, f2, new]; exact h.lt k1
    · rcases (Evt_push hp).mp h2 with k2 | ⟨_, _, h3⟩
      · rw [e3] at hm k2; exact absurd k2 (hx hm _ _)
      · omega
theorem tim_of {cnt j : Nat} {R : List (List Int)} {O : List (Int × Int)} (g : Hs cnt j R O) : ∃ τ, Tim R j τ := by
  induction g with
  | zero => exact ⟨fun _ _ => 0, fun h => absurd h Evt_rep, fun h => absurd h Evt_rep, fun _ h => absurd h Evt_rep⟩
  | @save j R O p g hp ih =>
    obtain ⟨τ, h⟩ := ih
    exact h.push (by rw [(HI.of g).len]; exact hp) fun z => absurd z (by decide)
  | @send j R O p m g hp h1 h2 hm ih =>
    obtain ⟨τ, h⟩ := ih
    refine h.push (by rw [(HI.of g).len]; exact hp) fun z q i e => ?_
    obtain ⟨q2, k, a, _⟩ := (HI.of g).rcv z e
    obtain ⟨r, b1, b2⟩ := a.mem
    exact hm r b1 b2
  | skip _ ih =>
    obtain ⟨τ, h⟩ := ih
    exact ⟨τ, fun e => Nat.lt_succ_of_lt (h.lt e), h.row, h.msg⟩
  | @recv j R O p k m q g hp hk hq ih =>
    obtain ⟨τ, h⟩ := ih
    refine h.push (by rw [(HI.of g).len]; exact hp) fun z => ?_
    have := ((HI.of g).opn (List.mem_of_getElem? hk)).1
    omega
/-! ### the least closed array, and times -/
/-- how many events of a row have times below T -/
def cntT (r : List Int) (t : Nat → Nat) (T : Nat) : Int := (((List.range r.length).filter fun i => decide (t i < T)).length : Nat)
theorem cntT_pref {r : List Int} {t : Nat → Nat} {T : Nat} (mono : ∀ i i', i < i' → i' < r.length → t i < t i') {k : Nat} (hk : k < r.length) : ((k : Int) < cntT r t T) ↔ t k < T := by
  -- the ones below are the first c ones
  have key : ∀ n, n ≤ r.length → ((List.range n).filter fun i => decide (t i < T)).length ≤ n ∧ ∀ k, k < n → (k < ((List.range n).filter fun i => decide (t i < T)).length ↔ t k < T) := by
    intro n
    induction n with
    | zero => intro _; exact ⟨Nat.le_refl _, fun k hk => absurd hk (Nat.not_lt_zero _)⟩
    | succ n ih =>
      intro hn
      obtain ⟨a, b⟩ := ih (by omega)
      rw [List.range_succ, List.filter_append, List.length_append]
      by_cases c : t n < T
      · rw [List.filter_cons_of_pos (by simpa using c)]
        have full : ((List.range n).filter fun i => decide (t i < T)).length = n := by
          rw [List.filter_eq_self.mpr, List.length_range]
          intro i hi
          have hi := List.mem_range.mp hi
          have := mono i n hi (by omega)
          simp only [decide_eq_true_eq]
          omega
        rw [full]
        refine ⟨Nat.le_refl _, fun k hk => ⟨fun _ => ?_, fun _ => by rw [List.length_cons, List.filter_nil, List.length_nil]; omega⟩⟩
        by_cases e : k = n
        · subst e; exact c
        · have := mono k n (by omega) (by omega); omega
      · rw [List.filter_cons_of_neg (by simpa using c), List.filter_nil, List.length_nil, Nat.add_zero]
        refine ⟨Nat.le_succ_of_le a, fun k hk => ?_⟩
        by_cases e : k = n
        · subst e
          exact ⟨fun h => by omega, fun h => absurd h c⟩
        · exact b k (by omega)
  have := (key r.length (Nat.le_refl _)).2 k hk
  unfold cntT
  omega
def arrT (R : List (List Int)) (τ : Nat → Nat → Nat) (T : Nat) : List Int := (List.range R.length).map fun p => cntT (R.getD p []) (τ p) T
theorem arrT_len (R : List (List Int)) (τ : Nat → Nat → Nat) (T : Nat) : (arrT R τ T).length = R.length := by unfold arrT; rw [List.length_map, List.length_range]
theorem arrT_gt {R : List (List Int)} {τ : Nat → Nat → Nat} {T p : Nat} (h : p < R.length) : gt (arrT R τ T) p = cntT (R.getD p []) (τ p) T := by
  unfold gt arrT
  rw [Int.toNat_natCast, List.getD_eq_getElem?_getD, List.getElem?_map, List.getElem?_range h]; rfl
theorem row_evt {R : List (List Int)} {p i : Nat} (hp : p < R.length) (hi : i < (R.getD p []).length) : Evt R p i ((R.getD p [])[i]) := by
  refine ⟨R.getD p [], ?_, List.getElem?_eq_getElem hi⟩
  rw [List.getD_eq_getElem?_getD, List.getElem?_eq_getElem hp]; rfl
theorem arrT_lt {R : List (List Int)} {j : Nat} {τ : Nat → Nat → Nat} (h : Tim R j τ) {T p k : Nat} (hp : p < R.length) (hk : k < (R.getD p []).length) : ((k : Int) < gt (arrT R τ T) p) ↔ τ p k < T := by
  rw [arrT_gt hp]
  exact cntT_pref (fun i i' hi hi' => h.row (row_evt hp (by omega)) (row_evt hp hi') hi) hk
theorem arrT_cl {R : List (List Int)} (H : Hok R) {j : Nat} {τ : Nat → Nat → Nat} (h : Tim R j τ) {T : Nat} {M : List Msg} (m : ∀ x ∈ M, MemT R x) : ClB M (arrT R τ T) := by
  intro x hx hl
  obtain ⟨m0, m1, m2⟩ := m x hx
  obtain ⟨_, p, i, a1, a2, ev⟩ := (plc_some H.u).mp m1
  obtain ⟨_, p', i', c1, c2, ev'⟩ := (plc_some H.u).mp m2
  rw [c1, c2] at hl
  rw [a1, a2]
  have l1 := Evt.lt ev
  have l2 := Evt.lt ev'
  rw [arrT_lt h l2.1 l2.2] at hl
  rw [arrT_lt h l1.1 l1.2]
  exact Nat.lt_trans (h.msg m0 ev ev') hl
theorem plS_row {R : List (List Int)} {t : Int × Int} (ht : Stt R t) : 0 ≤ plS R t ∧ plS R t ≤ ((R.getD t.1.toNat []).length : Nat) := by
  obtain ⟨p, a, r, h1, h2, rfl⟩ := ht
  have er : R.getD p [] = r := by rw [List.getD_eq_getElem?_getD, h1]; rfl
  obtain ⟨v, hv⟩ : ∃ v, (spots r)[a]? = some v := ⟨_, List.getElem?_eq_getElem (by rw [spots_len]; omega)⟩
  have := spots_mem (List.mem_of_getElem? hv)
  unfold plS
  rw [Int.toNat_natCast, Int.toNat_natCast, er, List.getD_eq_getElem?_getD, hv]
  exact this
theorem past_time {R : List (List Int)} (H : Hok R) {j : Nat} {τ : Nat → Nat → Nat} (h : Tim R j τ) {t : Int × Int} (ht : Stt R t) {T : List Msg} {P : List Int} (m : ∀ x, x ∈ T ↔ MemT R x) (p : Past R t T P) {q k : Nat} (hq : q < R.length) (hk : k < (R.getD q []).length) (hl : (k : Int) < gt P q) :
    ∃ b : Nat, plS R t = (b : Int) + 1 ∧ b < (R.getD t.1.toNat []).length ∧ τ q k ≤ τ t.1.toNat b := by
  obtain ⟨⟨t0, t1⟩, _⟩ := ht.bnd H
  obtain ⟨c0, c1⟩ := plS_row ht
  have tn : t.1.toNat < R.length := by omega
  have et : ((t.1.toNat : Nat) : Int) = t.1 := by omega
  have bound : ∀ N : Nat, plS R t ≤ gt (arrT R τ N) t.1 → gt P q ≤ gt (arrT R τ N) q := fun N hN => by
    refine p.lst.min (arrT R τ N) (arrT_len _ _ _) (arrT_cl H h fun x hx => (m x).mp hx) (fun i i0 i1 => ?_) q (by omega) (by rw [p.lst.len]; omega)
    rw [List.length_set, List.length_replicate] at i1
    rw [get_rep t0 t1 i0 i1]
    split
    · rename_i e; rw [e]; exact hN
    · obtain ⟨i', rfl⟩ : ∃ i' : Nat, i = (i' : Int) := ⟨i.toNat, by omega⟩
      rw [arrT_gt (by omega)]
      unfold cntT
      omega
  by_cases hc : plS R t = 0
  · have b0 := bound 0 (by
      rw [hc, ← et, arrT_gt tn]
      unfold cntT
      omega)
    have : (k : Int) < gt (arrT R τ 0) q := by omega
    rw [arrT_lt h hq hk] at this
    omega
  · obtain ⟨b, hb⟩ : ∃ b : Nat, plS R t = (b : Int) + 1 := ⟨(plS R t - 1).toNat, by omega⟩
    refine ⟨b, hb, by omega, ?_⟩
    have b1 := bound (τ t.1.toNat b + 1) (by
      have : ((b : Nat) : Int) < gt (arrT R τ (τ t.1.toNat b + 1)) (t.1.toNat : Nat) := (arrT_lt h tn (by omega)).mpr (by omega)
      rw [et] at this
      omega)
    have : (k : Int) < gt (arrT R τ (τ t.1.toNat b + 1)) q := by omega
    rw [arrT_lt h hq hk] at this
    omega
/-- the vector of a state -/
noncomputable def vc (R : List (List Int)) (t : Int × Int) : List Int := (vector_of (R, t)).getD []
theorem vc_eq {R : List (List Int)} (H : Hok R) {t : Int × Int} (ht : Stt R t) {T : List Msg} {P : List Int} (p : Past R t T P) : vc R t = vec R t P := by
  unfold vc
  rw [vector_eq H ht p]; rfl
theorem vector_vc {R : List (List Int)} (H : Hok R) {t : Int × Int} (ht : Stt R t) : vector_of (R, t) = some (vc R t) := by
  obtain ⟨T, P, m, p⟩ := causal_ok H ht
  rw [vc_eq H ht p]
  exact vector_eq H ht p
theorem vc_len {R : List (List Int)} (H : Hok R) {t : Int × Int} (ht : Stt R t) : (vc R t).length = R.length := by
  obtain ⟨T, P, m, p⟩ := causal_ok H ht
  rw [vc_eq H ht p]
  exact vec_len p.lst.len
theorem vc_own {R : List (List Int)} (H : Hok R) {t : Int × Int} (ht : Stt R t) : gt (vc R t) t.1 = t.2 := by
  obtain ⟨T, P, m, p⟩ := causal_ok H ht
  rw [vc_eq H ht p]
  obtain ⟨q, a, r, h1, h2, e⟩ := id ht
  rw [show t.1 = (q : Int) by rw [e], vec_gt H ht p.lst.len h1, if_pos (by rw [e])]
theorem comes_vc {R : List (List Int)} (H : Hok R) {s t : Int × Int} (hs : Stt R s) (ht : Stt R t) : comes_before (R, s, t) = some (decide (s.2 < gt (vc R t) s.1)) := by
  obtain ⟨⟨s0, s1⟩, _⟩ := hs.bnd H
  unfold comes_before comes_before_S
  simp only [bsS, msS, vector_vc H ht]
  rw [gt_at s0 (by rw [vc_len H ht]; exact s1)]
  simp only [bsS]
theorem ivl_le {r : List Int} {c : Int} : 0 ≤ ivl r c ∧ ivl r c ≤ ((r.count 0 + 1 : Nat) : Int) := by
  unfold ivl
  split
  · have : (r.take (c - 1).toNat).count 0 ≤ r.count 0 := List.Sublist.count_le 0 (List.take_sublist _ r)
    omega
  · omega
theorem ivl_mono {r : List Int} {c d : Int} (h : c ≤ d) : ivl r c ≤ ivl r d := by
  unfold ivl
  split
  · rw [if_pos (by omega)]
    have : (r.take (c - 1).toNat).count 0 ≤ (r.take (d - 1).toNat).count 0 := List.Sublist.count_le 0 (List.take_sublist_take_left (by omega))
    omega
  · split <;> omega
theorem vc_bnd {R : List (List Int)} (H : Hok R) {t : Int × Int} (ht : Stt R t) {p : Nat} {r : List Int} (hr : R[p]? = some r) : 0 ≤ gt (vc R t) p ∧ gt (vc R t) p ≤ ((r.count 0 + 1 : Nat) : Int) := by
  obtain ⟨T, P, m, q⟩ := causal_ok H ht
  rw [vc_eq H ht q, vec_gt H ht q.lst.len hr]
  split
  · rename_i e
    obtain ⟨p', a, r', h1, h2, e'⟩ := ht
    rw [e'] at e ⊢
    have : p' = p := by have : (p : Int) = (p' : Int) := e; omega
    subst this
    rw [hr] at h1
    cases h1
    show 0 ≤ (a : Int) ∧ (a : Int) ≤ _
    omega
  · exact ivl_le
theorem vc_stt {R : List (List Int)} (H : Hok R) {t : Int × Int} (ht : Stt R t) {p : Nat} {r : List Int} (hr : R[p]? = some r) {a : Int} (a0 : 0 ≤ a) (a1 : a ≤ gt (vc R t) p) : Stt R ((p : Int), a) := by
  have := Int.le_trans a1 (vc_bnd H ht hr).2
  clear a1
  exact ⟨p, a.toNat, r, hr, by omega, by rw [show ((a.toNat : Nat) : Int) = a by omega]⟩
theorem before_plS {R : List (List Int)} (H : Hok R) {s t : Int × Int} (hs : Stt R s) (ht : Stt R t) (hne : s.1 ≠ t.1) {T : List Msg} {P : List Int} (m : ∀ x, x ∈ T ↔ MemT R x) (p : Past R t T P) : (s.2 < gt (vc R t) s.1) ↔ (plS R s < gt P s.1) := by
  rw [vc_eq H ht p]
  exact before_iff H hs ht hne m p
/-- of two states at most one comes before the other -/
theorem vc_asym {R : List (List Int)} (H : Hok R) {j : Nat} {τ : Nat → Nat → Nat} (h : Tim R j τ) {s t : Int × Int} (hs : Stt R s) (ht : Stt R t) (h1 : s.2 < gt (vc R t) s.1) : ¬ t.2 < gt (vc R s) t.1 := by
  intro h2
  by_cases e : s.1 = t.1
  · rw [e, vc_own H ht] at h1
    rw [← e, vc_own H hs] at h2
    omega
  · obtain ⟨T, P, m, p⟩ := causal_ok H ht
    obtain ⟨T', P', m', p'⟩ := causal_ok H hs
    rw [before_plS H hs ht e m p] at h1
    rw [before_plS H ht hs (Ne.symm e) m' p'] at h2
    obtain ⟨s0, s1⟩ := plS_row hs
    obtain ⟨t0, t1⟩ := plS_row ht
    obtain ⟨⟨sa, sb⟩, _⟩ := hs.bnd H
    obtain ⟨⟨ta, tb⟩, _⟩ := ht.bnd H
    have sn : s.1.toNat < R.length := by omega
    have tn : t.1.toNat < R.length := by omega
    have es : ((s.1.toNat : Nat) : Int) = s.1 := by omega
    have et : ((t.1.toNat : Nat) : Int) = t.1 := by omega
    have rs : R[s.1.toNat]? = some (R.getD s.1.toNat []) := by rw [List.getD_eq_getElem?_getD, List.getElem?_eq_getElem sn]; rfl
    have rt : R[t.1.toNat]? = some (R.getD t.1.toNat []) := by rw [List.getD_eq_getElem?_getD, List.getElem?_eq_getElem tn]; rfl
    obtain ⟨a, ha⟩ : ∃ a : Nat, plS R s = (a : Int) := ⟨(plS R s).toNat, by omega⟩
    obtain ⟨b, hb⟩ : ∃ b : Nat, plS R t = (b : Int) := ⟨(plS R t).toNat, by omega⟩
    have la : a < (R.getD s.1.toNat []).length := by
      rcases past_org H ht m p rs (by rw [es]; exact e) with z | ⟨k, ev, z, z2, _⟩
      · rw [es] at z; omega
      · rw [es] at z
        have := (List.getElem?_eq_some_iff.mp z2).1
        omega
    have lb : b < (R.getD t.1.toNat []).length := by
      rcases past_org H hs m' p' rt (by rw [et]; exact Ne.symm e) with z | ⟨k, ev, z, z2, _⟩
      · rw [et] at z; omega
      · rw [et] at z
        have := (List.getElem?_eq_some_iff.mp z2).1
        omega
    obtain ⟨b', x1, x2, x3⟩ := past_time H h ht m p sn la (by rw [es]; omega)
    obtain ⟨a', y1, y2, y3⟩ := past_time H h hs m' p' tn lb (by rw [et]; omega)
    have r1 := h.row (row_evt tn x2) (row_evt tn lb) (show b' < b by omega)
    have r2 := h.row (row_evt sn y2) (row_evt sn la) (show a' < a by omega)
    omega
theorem plS_mono {R : List (List Int)} {p : Nat} {a b : Nat} {r : List Int} (hr : R[p]? = some r) (hb : b ≤ r.count 0 + 1) (h : a ≤ b) : plS R ((p : Int), (a : Int)) ≤ plS R ((p : Int), (b : Int)) := by
  have e : ∀ c : Nat, plS R ((p : Int), (c : Int)) = (spots r).getD c 0 := fun c => by
    unfold plS
    rw [Int.toNat_natCast, Int.toNat_natCast, show R.getD p [] = r by rw [List.getD_eq_getElem?_getD, hr]; rfl]
  rw [e, e]
  rcases Nat.eq_or_lt_of_le h with rfl | h
  · exact Int.le_refl _
  · have := List.pairwise_iff_getElem.mp (spots_sorted r) a b (by rw [spots_len]; omega) (by rw [spots_len]; omega) h
    rw [List.getD_eq_getElem?_getD, List.getD_eq_getElem?_getD, List.getElem?_eq_getElem (by rw [spots_len]; omega), List.getElem?_eq_getElem (by rw [spots_len]; omega)]
    exact this
/-- vectors grow -/
theorem vc_mono {R : List (List Int)} (H : Hok R) {j : Nat} {τ : Nat → Nat → Nat} (h : Tim R j τ) {t u : Int × Int} (ht : Stt R t) (hu : Stt R u) (h1 : t.2 < gt (vc R u) t.1) {q : Nat} (hq : q < R.length) : gt (vc R t) q ≤ gt (vc R u) q := by
  have as := vc_asym H h ht hu h1
  obtain ⟨T, P, m, p⟩ := causal_ok H ht
  obtain ⟨T', P', m', p'⟩ := causal_ok H hu
  obtain ⟨⟨ta, tb⟩, _⟩ := ht.bnd H
  obtain ⟨⟨ua, ub⟩, _⟩ := hu.bnd H
  have le : plS R t ≤ gt P' t.1 := by
    by_cases e : t.1 = u.1
    · have h2 := h1
      rw [e, vc_own H hu] at h2
      have := p'.lst.ge u.1 ua (by rw [List.length_set, List.length_replicate]; exact ub)
      rw [get_rep ua ub ua ub, if_pos rfl] at this
      rw [e]
      refine Int.le_trans ?_ this
      obtain ⟨x, a, r, z1, z2, z3⟩ := ht
      obtain ⟨x', a', r', w1, w2, w3⟩ := hu
      rw [z3, w3] at e h2 ⊢
      have ex : x = x' := by have : (x : Int) = (x' : Int) := e; omega
      subst ex
      exact plS_mono w1 w2 (by have : (a : Int) < (a' : Int) := h2; omega)
    · have := (before_plS H ht hu e m' p').mp h1
      omega
  have lePP : gt P q ≤ gt P' q := p.lst.min P' p'.lst.len (fun x hx => p'.lst.cl x ((m' x).mpr ((m x).mp hx))) (fun i i0 i1 => by
    rw [List.length_set, List.length_replicate] at i1
    rw [get_rep ta tb i0 i1]
    split
    · rename_i e; rw [e]; exact le
    · exact (p'.lst.bnd _ (gt_mem i0 (by rw [p'.lst.len]; exact i1))).1) q (by omega) (by rw [p.lst.len]; omega)
  have hr : R[q]? = some (R.getD q []) := by rw [List.getD_eq_getElem?_getD, List.getElem?_eq_getElem hq]; rfl
  by_cases e1 : (q : Int) = t.1
  · have := vc_own H ht
    rw [← e1] at this h1
    rw [this]
    exact Int.le_of_lt h1
  · by_cases e2 : (q : Int) = u.1
    · have := vc_own H hu
      rw [← e2] at this as
      rw [this]
      exact Int.not_lt.mp as
    · rw [vc_eq H ht p, vc_eq H hu p', vec_gt H ht p.lst.len hr, vec_gt H hu p'.lst.len hr, if_neg e1, if_neg e2]
      exact ivl_mono lePP
theorem vc_zero {R : List (List Int)} (H : Hok R) {t : Int × Int} (ht : Stt R t) (h0 : t.2 = 0) : vc R t = List.replicate R.length 0 := by
  obtain ⟨T, P, m, p⟩ := causal_ok H ht
  obtain ⟨⟨ta, tb⟩, _⟩ := ht.bnd H
  have e0 : plS R t = 0 := by
    unfold plS
    rw [h0]; rfl
  have z : ∀ q : Nat, q < R.length → gt P q = 0 := fun q hq => by
    have l1 := p.lst.min (List.replicate R.length 0) List.length_replicate (fun x hx hl => by
      exfalso
      have w := ((m x).mp hx).wf H
      have := w.j0
      have e : gt (List.replicate R.length 0) x.2.2.2.1 = 0 := by
        unfold gt
        rw [List.getD_eq_getElem?_getD, List.getElem?_replicate, if_pos (by have := w.r0; have := w.r1; omega)]; rfl
      omega) (fun i i0 i1 => by
      rw [List.length_set, List.length_replicate] at i1
      rw [get_rep ta tb i0 i1, e0]
      have e : gt (List.replicate R.length 0) i = 0 := by
        unfold gt
        rw [List.getD_eq_getElem?_getD, List.getElem?_replicate, if_pos (by omega)]; rfl
      split <;> omega) q (by omega) (by rw [p.lst.len]; omega)
    have e : gt (List.replicate R.length 0) (q : Int) = 0 := by
      unfold gt
      rw [List.getD_eq_getElem?_getD, List.getElem?_replicate, if_pos (by omega)]; rfl
    have := (p.lst.bnd _ (gt_mem (p := (q : Int)) (by omega) (by rw [p.lst.len]; omega))).1
    omega
  rw [List.eq_replicate_iff]
  refine ⟨vc_len H ht, fun x hx => ?_⟩
  obtain ⟨q, hq⟩ := List.getElem?_of_mem hx
  have hql := (List.getElem?_eq_some_iff.mp hq).1
  rw [vc_len H ht] at hql
  have hr : R[q]? = some (R.getD q []) := by rw [List.getD_eq_getElem?_getD, List.getElem?_eq_getElem hql]; rfl
  have eg : gt (vc R t) q = x := by
    unfold gt
    rw [Int.toNat_natCast, List.getD_eq_getElem?_getD, hq]; rfl
  rw [← eg, vc_eq H ht p, vec_gt H ht p.lst.len hr]
  split
  · exact h0
  · rw [z q hql]; rfl
end Sh
end
/-! ## MiW2 -/
section
set_option maxHeartbeats 400000
/-! MiW2: more facts on the plain functions. -/
namespace Sh
open PySem Mi Sh ShE
theorem compM_ok {α β : Type} {F : α → WM β} (J : β → Prop) (K N : Nat) : ∀ (xs : List α) (n : Nat) (Q : List β → Nat → Prop),
    (∀ x ∈ xs, ∀ n, n ≤ N → ∀ Q : β → Nat → Prop, (∀ y n', J y → n' ≤ n + K → Q y n') → F x n Q) → n + K * xs.length ≤ N + K → (∀ ys n', ys.length = xs.length → (∀ y ∈ ys, J y) → n' ≤ n + K * xs.length → Q ys n') → compM (fun _ => retM true) F xs n Q
  | [], n, Q, _, _, q => q [] n rfl (fun y hy => absurd hy List.not_mem_nil) (Nat.le_add_right _ _)
  | x :: xs, n, Q, H, hn, q => by
    have e : K * (x :: xs).length = K + K * xs.length := by rw [List.length_cons, Nat.mul_succ, Nat.add_comm]
    rw [e] at hn q
    show F x n _
    refine H x List.mem_cons_self n (by omega) _ fun y n1 jy h1 => ?_
    refine compM_ok J K N xs n1 _ (fun z hz => H z (List.mem_cons_of_mem _ hz)) (by omega) fun ys n2 hl hy h2 => ?_
    exact q (y :: ys) n2 (by rw [List.length_cons, List.length_cons, hl]) (fun z hz => by
      rcases List.mem_cons.mp hz with rfl | hz
      · exact jy
      · exact hy z hz) (by omega)
theorem atI_last {α : Type} {xs : List α} (h : xs ≠ []) : atI xs (-1) = some (xs.getLast h) := by
  have hl := List.length_pos_iff.mpr h
  unfold atI ixN
  rw [if_neg (by decide), if_pos (by omega)]
  show xs[((-1 : Int) + xs.length).toNat]? = _
  rw [show ((-1 : Int) + xs.length).toNat = xs.length - 1 by omega, ← List.getLast?_eq_getElem?, List.getLast?_eq_some_getLast h]
theorem atI_zero {α : Type} {xs : List α} (h : xs ≠ []) : atI xs 0 = some (xs.head h) := by
  cases xs with
  | nil => exact absurd rfl h
  | cons x xs => exact atI_lt (xs := x :: xs) (i := 0) (by simp)
theorem map_gt (A : List Int) : (nUp A.length).map (fun k => gt A k) = A := by
  apply List.ext_getElem?
  intro k
  rw [List.getElem?_map]
  by_cases h : k < A.length
  · rw [nUp_get h, List.getElem?_eq_getElem h]
    show some (gt A (k : Int)) = _
    unfold gt
    rw [Int.toNat_natCast, List.getD_eq_getElem?_getD, List.getElem?_eq_getElem h]; rfl
  · rw [List.getElem?_eq_none (by rw [nUp_len]; omega), List.getElem?_eq_none (by omega)]; rfl
theorem nUp_succ (k : Nat) : nUp (k + 1) = nUp k ++ [(k : Int)] := by
  unfold nUp
  rw [List.range_succ, List.map_append]; rfl
theorem states_ne {R : List (List Int)} (h : 1 ≤ R.length) : statesL R ≠ [] := by
  have : ((0 : Int), (0 : Int)) ∈ statesL R := mem_statesL.mpr ⟨0, 0, R[0], List.getElem?_eq_getElem (by omega), Nat.zero_le _, rfl⟩
  intro e
  rw [e] at this
  exact List.not_mem_nil this
theorem states_le {R : List (List Int)} (H : Hok R) : (statesL R).length ≤ 10000 := by
  unfold statesL
  rw [List.length_flatMap]
  have : ∀ (xs : List (Int × List Int)), (∀ x ∈ xs, x.2.length ≤ 90) → (xs.map fun x => ((nUp (x.2.count 0 + 2)).map fun k => (x.1, k)).length).sum ≤ 92 * xs.length := by
    intro xs
    induction xs with
    | nil => intro _; exact Nat.le_refl _
    | cons x xs ih =>
      intro h
      have h1 := h x List.mem_cons_self
      have h2 := List.count_le_length (a := (0 : Int)) (l := x.2)
      have h3 := ih fun y hy => h y (List.mem_cons_of_mem _ hy)
      rw [List.map_cons, List.sum_cons, List.length_map, nUp_len, List.length_cons]
      omega
  have h2 := this (enumS 0 R) (fun x hx => by
    obtain ⟨p, e1, _⟩ := mem_enumS.mp hx
    exact H.row _ (List.mem_of_getElem? e1))
  rw [enumS_len] at h2
  have := H.len
  exact Nat.le_trans h2 (by omega)
theorem vc_sm {R : List (List Int)} (H : Hok R) {t : Int × Int} (ht : Stt R t) : ∀ x ∈ vc R t, Sm x := fun x hx => by
  obtain ⟨q, hq⟩ := List.getElem?_of_mem hx
  have hql := (List.getElem?_eq_some_iff.mp hq).1
  rw [vc_len H ht] at hql
  have hr : R[q]? = some (R.getD q []) := by rw [List.getD_eq_getElem?_getD, List.getElem?_eq_getElem hql]; rfl
  have eg : gt (vc R t) q = x := by
    unfold gt
    rw [Int.toNat_natCast, List.getD_eq_getElem?_getD, hq]; rfl
  have hb := vc_bnd H ht hr
  rw [eg] at hb
  have h1 := H.row _ (List.mem_of_getElem? hr)
  have h2 := List.count_le_length (a := (0 : Int)) (l := R.getD q [])
  exact ⟨by omega, by omega⟩
end Sh
end
/-! ## Pk53 -/
section
set_option maxHeartbeats 400000
namespace K53
open PySem Mi Sh ShE
theorem one_ok {T : List (Int × Int)} (h : T ≠ []) (hl : T.length ≤ 1000000) {n : Nat} (hn : n < 999999999) {Q : (Int × Int) → Nat → Prop} (q : ∀ x ∈ T, Q x (n + 1)) : law_one T n Q := by
  unfold law_one law_one_S
  simp only [Option.bind_some, Option.map_some, liftM_some, bindM_ret, bindM_assoc]
  have := List.length_pos_iff.mpr h
  refine ⟨by omega, by omega, by omega, fun r r0 r1 => ?_⟩
  obtain ⟨k, rfl⟩ : ∃ k : Nat, r = (k : Int) := ⟨r.toNat, by omega⟩
  have hk : k < T.length := by omega
  exact ⟨_, atI_lt hk, q _ (List.getElem_mem hk)⟩
theorem lbefore {R : List (List Int)} (H : Hok R) {s t : Int × Int} (hs : Stt R s) (ht : Stt R t) : law_before (R, s, t) = some (decide (s.2 < gt (vc R t) s.1)) := by
  obtain ⟨⟨s0, s1⟩, _⟩ := hs.bnd H
  obtain ⟨⟨t0, t1⟩, _⟩ := ht.bnd H
  obtain ⟨T, F, m', f⟩ := future_ok H hs
  have c := comes_vc H hs ht
  rw [comes_eq H hs ht f.eq] at c
  rw [← c]
  unfold law_before law_before_S
  simp only [bsS, msS, f.eq, ht.lplace H]
  by_cases e : s.1 = t.1
  · rw [decide_eq_true e, if_pos rfl, if_pos e]
  · rw [decide_eq_false e, if_neg (by decide), if_neg e, gt_at t0 (by rw [f.lst.len]; exact t1)]
    simp only [bsS]
theorem lwhile {R : List (List Int)} (H : Hok R) {t : Int × Int} (ht : Stt R t) {p : Nat} {r : List Int} (hr : R[p]? = some r) {τ : Type} : whileS (τ := τ) (fun a6 => law_before (R, ((p : Int), a6), t)) (fun a6 => some (Fw.go (a6 + 1))) wfO 0 = some (.go (gt (vc R t) p)) := by
  obtain ⟨b0, b1⟩ := vc_bnd H ht hr
  have hc : ∀ a : Int, 0 ≤ a → a ≤ gt (vc R t) p → law_before (R, ((p : Int), a), t) = some (decide (a < gt (vc R t) p)) := fun a a0 a1 => lbefore H (vc_stt H ht hr a0 a1) ht
  have h1 := H.row r (List.mem_of_getElem? hr)
  have h2 := List.count_le_length (a := (0 : Int)) (l := r)
  generalize gt (vc R t) p = v at *
  obtain ⟨W, hW⟩ : ∃ W, W = wfO := ⟨_, rfl⟩
  obtain ⟨a', e, ⟨i0, i1⟩, hf⟩ := whileS_ok (τ := τ) (C := fun a6 => law_before (R, ((p : Int), a6), t)) (B := fun a6 => some (Fw.go (a6 + 1))) (fun a : Int => 0 ≤ a ∧ a ≤ v) (fun a => decide (a < v)) (fun a => a + 1) (fun a => (v - a).toNat) (fun a ⟨x, y⟩ => hc a x y) (fun a ⟨x, y⟩ hd => by
    have := of_decide_eq_true hd
    exact ⟨rfl, ⟨by omega, by omega⟩, by omega⟩) W 0 ⟨by omega, b0⟩ (by rw [hW, wfO_eq]; unfold wfuel; omega)
  have := of_decide_eq_false hf
  have ea : a' = v := by omega
  rw [← hW, ← ea]
  exact e
theorem lvector {R : List (List Int)} (H : Hok R) {t : Int × Int} (ht : Stt R t) : law_vector (R, t) = some (vc R t) := by
  unfold law_vector law_vector_S
  simp only [bsS, msS]
  have hn := H.len
  rw [rng1_nat (by omega)]
  simp only [bsS]
  obtain ⟨a', e, ia⟩ := forS_inv (τ := List Int) (B := fun x4 a2 =>
            (whileS (fun a6 => law_before (R, (x4, a6), t)) (fun a6 => some (Fw.go (a6 + 1))) wfO 0).bind
              (thenS Fw.ret fun x => (pushS a2 x).bind fun l12 => some (Fw.go l12))) (fun k a => a = (nUp k).map fun i => gt (vc R t) i) (nUp R.length) 0 [] (fun k x hx a ia => by
    have hk := (List.getElem?_eq_some_iff.mp hx).1
    rw [nUp_len] at hk
    rw [nUp_get hk] at hx
    cases hx
    rw [Nat.zero_add] at ia ⊢
    subst ia
    have hr : R[k]? = some (R.getD k []) := by rw [List.getD_eq_getElem?_getD, List.getElem?_eq_getElem hk]; rfl
    rw [lwhile H ht hr]
    refine ⟨(nUp (k + 1)).map fun i => gt (vc R t) i, ?_, rfl⟩
    simp only [bsS, thenS_go]
    rw [pushS_lt (by rw [List.length_map, nUp_len]; omega)]
    simp only [bsS]
    rw [nUp_succ, List.map_append]; rfl) rfl
  rw [e]
  simp only [bsS, thenS_go]
  rw [ia, nUp_len, Nat.zero_add, ← vc_len H ht, map_gt]
theorem law_ok : law_main 0 fun r _ => r = true := by
  unfold law_main law_main_S
  simp only [bsS, msS, liftM_some, brS]
  rw [show rng1 3 = some (nUp 3) from rng1_nat (n := 3) (by decide)]
  simp only [liftM_some, brS]
  rw [bindM_app]
  refine forM_ok (fun _ => True) 4000 900000000 (nUp 3) () 0 _ (fun x hx a n _ hn Q q => ?_) trivial (by rw [nUp_len]; omega) fun a' n' _ _ => rfl
  rw [bindM_app]
  refine ShE.hist_ok (by omega) (by decide) (by decide) (by decide) (by decide) fun R O cnt j n1 g c1 c2 c3 hn1 => ?_
  obtain ⟨H, z, ez⟩ := hok_of g (by omega) (by omega)
  rw [ez, law_states_eq H]
  simp only [bsS, msS, liftM_some, brS]
  have ne := states_ne (R := R) (by rw [(HI.of g).len]; exact c1)
  have sl := states_le H
  have hRl := H.len
  rw [atI_zero ne, atI_last ne, show rng1 6 = some (nUp 6) from rng1_nat (n := 6) (by decide)]
  simp only [bsS, liftM_some, brS, bindM_assoc]
  rw [bindM_app]
  refine compM_ok (fun s => Stt R s) 1 900004000 (nUp 6) n1 _ (fun x hx n hn Q q => one_ok ne (by omega) (by omega) fun s hs => q s _ (mem_statesL.mp hs) (Nat.le_refl _)) (by rw [nUp_len]; omega) fun ys n2 hl hy hn2 => ?_
  rw [nUp_len] at hl hn2
  rw [catS_le (by rw [List.length_cons, List.length_cons, List.length_nil, hl]; decide)]
  simp only [liftM_some, brS]
  rw [bindM_app]
  have hxs : ∀ s ∈ [(statesL R).head ne, (statesL R).getLast ne] ++ ys, Stt R s := fun s hs => by
    rcases List.mem_append.mp hs with h | h
    · rcases List.mem_cons.mp h with rfl | h
      · exact mem_statesL.mp (List.head_mem ne)
      · rw [List.mem_singleton.mp h]
        exact mem_statesL.mp (List.getLast_mem ne)
    · exact hy s h
  refine forM_ok (fun _ => True) 0 900005000 _ () n2 _ (fun s hs a n3 _ hn3 Q3 q3 => ?_) trivial (by omega) fun a' n' _ hn' => ?_
  · have ht := hxs s hs
    obtain ⟨⟨t0, t1⟩, _⟩ := ht.bnd H
    rw [lvector H ht, vector_vc H ht]
    simp only [bsS, liftM_some, brS]
    have er : reprS (eL (eT eI) [vc R s, vc R s]) = some (eL (eT eI) [vc R s, vc R s]).shown := reprS_le (Nat.le_trans (rsz_eL (f := eT eI) (k := 11) (b := 64 * 90 + 3) (m := 2) (fun x hx => by
      have : x = vc R s := by
        rcases List.mem_cons.mp hx with h | h
        · exact h
        · exact List.mem_singleton.mp h
      rw [this]
      exact rsz_ints_T (k := 9) (vc_sm H ht) (by rw [vc_len H ht]; exact hRl)) (Nat.le_refl 2)) (by decide))
    rw [er]
    simp only [bsS, liftM_some, brS, beq_self_eq_true, Bool.not_true, Bool.false_eq_true, if_false]
    rw [gt_at t0 (by rw [vc_len H ht]; exact t1), vc_own H ht]
    simp only [bsS, liftM_some, brS, decide_eq_true (rfl : s.2 = s.2), Bool.not_true, Bool.false_eq_true, if_false]
    exact q3 () n3 trivial (Nat.le_refl _)
  · simp only [thenM_go, bsS, liftM_some, brS, beq_self_eq_true, Bool.not_true, Bool.false_eq_true, if_false]
    exact q () n' trivial (by omega)
end K53
end
/-! ## Tk53 -/
section
namespace K53
open PySem Mi
def nmF : List Str := ["all_places", "place_of", "interval_at", "message_table", "received_messages", "causal_past", "vector_of", "_law_deck", "_law_next", "_law_one", "_law_shuffled", "_law_history", "_law_states", "_law_place", "_law_messages", "_law_future", "_law_before", "_law_vector", "law"]
def nmG : List Str := []
/-- all_places(rows): 0 rows, 1 process, 2 row, 3 index, 4 event -/
def d0 : Df := { np := 1, ns := 5, md := .sub 0, body := [(.ret (.fz (.comp2 (.tup [(.var 1), (.var 3), (.var 4)]) (.tup [(.name 1), (.name 2)]) (.enum (.var 0)) none (.tup [(.name 3), (.name 4)]) (.enum (.var 2)) none [1, 2, 3, 4] [3, 4])))] }
def n0 : List Str := ["rows", "process", "row", "index", "event"]
def p0 : List Str := ["rows"]
/-- place_of(history, state): 0 history, 1 state, 2 row, 3 saves, 4 process, 5 number, 6 index, 7 event -/
def d1 : Df := { np := 2, ns := 8, md := .sub 0, body := [(.asg (.tup [(.name 4), (.name 5)]) (.var 1)),
    (.asg (.name 2) (.sub (.var 0) (.var 4))),
    (.ifs (.cmp .eq (.var 5) (.int 0)) [(.ret (.int 0))] []),
    (.asg (.name 3) (.fz (.comp (.var 6) (.tup [(.name 6), (.name 7)]) (.enum (.var 2)) (some (.cmp .eq (.var 7) (.int 0))) [6, 7]))),
    (.ret (.ite (.cmp .gt (.var 5) (.bi .len [(.var 3)])) (.bi .len [(.var 2)]) (.sub (.var 3) (.op .sub (.var 5) (.int 1)))))] }
def n1 : List Str := ["history", "state", "row", "saves", "process", "number", "index", "event"]
def p1 : List Str := ["history", "state"]
/-- interval_at(row, index): 0 row, 1 index -/
def d2 : Df := { np := 2, ns := 2, md := .sub 0, body := [(.ret (.met .count (.slc (.var 0) none (some (.var 1))) [(.int 0)]))] }
def n2 : List Str := ["row", "index"]
def p2 : List Str := ["row", "index"]
/-- message_table(history): 0 history, 1 spots, 2 event, 3 process, 4 index -/
def d3 : Df := { np := 1, ns := 5, md := .sub 0, body := [(.asg (.name 1) (.fz (.dcomp (.var 2) (.tup [(.var 3), (.var 4)]) (.tup [(.name 3), (.name 4), (.name 2)]) (.e (.call 0 [(.var 0)])) (some (.cmp .ne (.var 2) (.int 0))) [3, 4, 2]))),
    (.ret (.fz (.dcomp (.var 2) (.tup [(.dsub (.var 1) (.var 2)), (.dget (.var 1) (.neg (.var 2)))]) (.name 2) (.e (.fz (.sortedD (.var 1)))) (some (.cmp .gt (.var 2) (.int 0))) [2])))] }
def n3 : List Str := ["history", "spots", "event", "process", "index"]
def p3 : List Str := ["history"]
/-- received_messages(history): 0 history, 1 rows, 2 message, 3 sent, 4 received -/
def d4 : Df := { np := 1, ns := 5, md := .sub 0, body := [(.asg (.name 1) (.nw (.lst []))),
    (.loop false (.tup [(.name 2), (.tup [(.name 3), (.name 4)])]) (.items (.call 3 [(.var 0)])) [(.ifs (.notN (.var 4)) [(.expr (.met .append (.var 1) [(.tupS [false, true, true] [(.var 2), (.var 3), (.var 4)])]))] [])]),
    (.ret (.var 1))] }
def n4 : List Str := ["history", "rows", "message", "sent", "received"]
def p4 : List Str := ["history"]
/-- causal_past(history, state): 0 history, 1 state, 2 past, 3 rows, 4 changed, 5 process, 6 number, 7 message, 8 sender, 9 sent, 10 receiver, 11 received -/
def d5 : Df := { np := 2, ns := 12, md := .sub 0, body := [(.asg (.tup [(.name 5), (.name 6)]) (.var 1)),
    (.asg (.name 2) (.nw (.rep (.fz (.lst [(.int 0)])) (.bi .len [(.var 0)])))),
    (.sset (.var 2) (.var 5) (.call 1 [(.var 0), (.var 1)])),
    (.asg (.name 3) (.call 4 [(.var 0)])),
    (.asg (.name 4) (.bl true)),
    (.whl false (.var 4) [(.asg (.name 4) (.bl false)),
    (.loop false (.tup [(.name 7), (.name 8), (.name 9), (.name 10), (.name 11)]) (.e (.var 3)) [(.ifs (.and (.cmp .lt (.var 11) (.sub (.var 2) (.var 10))) (.cmp .le (.sub (.var 2) (.var 8)) (.var 9))) [(.sset (.var 2) (.var 8) (.op .add (.var 9) (.int 1))),
    (.asg (.name 4) (.bl true))] [])])]),
    (.ret (.var 2))] }
def n5 : List Str := ["history", "state", "past", "rows", "changed", "process", "number", "message", "sender", "sent", "receiver", "received"]
def p5 : List Str := ["history", "state"]
/-- vector_of(history, state): 0 history, 1 state, 2 past, 3 found, 4 process, 5 number, 6 row, 7 count -/
def d6 : Df := { np := 2, ns := 8, md := .sub 0, body := [(.asg (.tup [(.name 4), (.name 5)]) (.var 1)),
    (.asg (.name 2) (.call 5 [(.var 0), (.var 1)])),
    (.asg (.name 3) (.nw (.comp (.ite (.cmp .gt (.var 7) (.int 0)) (.op .add (.call 2 [(.var 6), (.op .sub (.var 7) (.int 1))]) (.int 1)) (.int 0)) (.tup [(.name 6), (.name 7)]) (.zip (.var 0) (.var 2)) none [6, 7]))),
    (.sset (.var 3) (.var 4) (.var 5)),
    (.ret (.bi .tuple [(.var 3)]))] }
def n6 : List Str := ["history", "state", "past", "found", "process", "number", "row", "count"]
def p6 : List Str := ["history", "state"]
/-- _law_deck(_law_script): 0 _law_script, 1 _law_cell -/
def d7 : Df := { np := 1, ns := 2, md := .keep, body := [(.ret (.nw (.lst [(.nw (.comp (.bi .abs [(.var 1)]) (.name 1) (.e (.fz (.slc (.var 0) none (some (.int 63))))) none [1])), (.int 0), (.int 0), (.op .add (.int 5) (.op .mul (.int 31) (.bi .len [(.var 0)])))])))] }
def n7 : List Str := ["_law_script", "_law_cell"]
def p7 : List Str := ["_law_script"]
/-- _law_next(_law_deck_here, _law_many): 0 _law_deck_here, 1 _law_many, 2 _law_mixed, 3 _law_cell, 4 _law_digit -/
def d8 : Df := { np := 2, ns := 5, md := .sub 2, body := [(.whl false (.and (.cmp .eq (.sub (.var 0) (.int 1)) (.int 0)) (.cmp .ne (.sub (.var 0) (.int 0)) (.fz (.lst [])))) [(.asg (.name 3) (.met .popAt (.sub (.var 0) (.int 0)) [(.int 0)])),
    (.sset (.var 0) (.int 3) (.op .mod (.op .add (.op .add (.op .mul (.sub (.var 0) (.int 3)) (.int 69069)) (.op .mod (.var 3) (.int 2147483629))) (.int 1)) (.int 2147483629))),
    (.sset (.var 0) (.int 1) (.op .mul (.var 3) (.bi .int [(.cmp .ge (.var 3) (.op .pow (.int 10) (.int 18)))])))]),
    (.ifs (.cmp .gt (.sub (.var 0) (.int 1)) (.int 0)) [(.asg (.name 4) (.op .mod (.sub (.var 0) (.int 1)) (.var 1))),
    (.sset (.var 0) (.int 1) (.op .fdiv (.sub (.var 0) (.int 1)) (.var 1))),
    (.ret (.var 4))] []),
    (.sset (.var 0) (.int 2) (.op .add (.sub (.var 0) (.int 2)) (.int 1))),
    (.asg (.name 2) (.op .mod (.op .add (.op .add (.op .mul (.sub (.var 0) (.int 3)) (.int 48271)) (.op .mul (.op .mul (.sub (.var 0) (.int 2)) (.sub (.var 0) (.int 2))) (.int 40692))) (.int 7)) (.int 2147483587))),
    (.ret (.op .mod (.op .fdiv (.op .mod (.op .mul (.var 2) (.var 2)) (.int 2147483563)) (.int 16)) (.var 1)))] }
def n8 : List Str := ["_law_deck_here", "_law_many", "_law_mixed", "_law_cell", "_law_digit"]
def p8 : List Str := ["_law_deck_here", "_law_many"]
/-- _law_one(_law_deck_here, _law_some): 0 _law_deck_here, 1 _law_some -/
def d9 : Df := { np := 2, ns := 2, md := .sub 2, body := [(.ret (.sub (.var 1) (.call 8 [(.var 0), (.bi .len [(.var 1)])])))] }
def n9 : List Str := ["_law_deck_here", "_law_some"]
def p9 : List Str := ["_law_deck_here", "_law_some"]
/-- _law_shuffled(_law_deck_here, _law_items): 0 _law_deck_here, 1 _law_items, 2 _law_left, 3 _law_k -/
def d10 : Df := { np := 2, ns := 4, md := .give 2, body := [(.asg (.name 2) (.nw (.list (.var 1)))),
    (.ret (.nw (.comp (.met .popAt (.var 2) [(.call 8 [(.var 0), (.bi .len [(.var 2)])])]) (.name 3) (.range1 (.bi .len [(.var 2)])) none [3])))] }
def n10 : List Str := ["_law_deck_here", "_law_items", "_law_left", "_law_k"]
def p10 : List Str := ["_law_deck_here", "_law_items"]
/-- _law_history(_law_deck_here, _law_people, _law_most): 0 _law_deck_here, 1 _law_people, 2 _law_most, 3 _law_k, 4 _law_count, 5 _law_way, 6 _law_rows, 7 _law_labels, 8 _law_open_ones, 9 _law_process, 10 _law_ready, 11 _law_turn, 12 _law_event, 13 _law_pair -/
def d11 : Df := { np := 3, ns := 14, md := .sub 2, body := [(.pars [4, 5] [(.op .add (.int 1) (.call 8 [(.var 0), (.var 1)])), (.call 8 [(.var 0), (.int 4)])]),
    (.pars [6, 7, 8] [(.nw (.rep (.fz (.lst [(.tup [])])) (.var 4))), (.call 10 [(.var 0), (.fz (.listR (.int 1) (.int 25)))]), (.nw (.lst []))]),
    (.loop false (.name 3) (.range1 (.call 8 [(.var 0), (.op .add (.var 2) (.int 1))])) [(.asg (.name 9) (.call 8 [(.var 0), (.var 4)])),
    (.asg (.name 10) (.fz (.comp (.var 13) (.name 13) (.e (.var 8)) (some (.cmp .ne (.sub (.var 13) (.int 1)) (.var 9))) [13]))),
    (.asg (.name 11) (.call 8 [(.var 0), (.sub (.fz (.lst [(.int 4), (.int 3), (.int 8), (.int 2)])) (.var 5))])),
    (.asg (.name 12) (.int 0)),
    (.ifs (.and (.cmp .gt (.var 11) (.int 0)) (.and (.cmp .ne (.var 10) (.fz (.lst []))) (.or (.cmp .eq (.var 7) (.fz (.lst []))) (.cmp .eq (.call 8 [(.var 0), (.int 2)]) (.int 0))))) [(.asg (.name 13) (.sub (.var 10) (.call 8 [(.var 0), (.bi .len [(.var 10)])]))),
    (.expr (.met .remove (.var 8) [(.var 13)])),
    (.asg (.name 12) (.op .sub (.int 0) (.sub (.var 13) (.int 0))))] [(.ifs (.and (.cmp .gt (.var 11) (.int 0)) (.cmp .ne (.var 7) (.fz (.lst [])))) [(.asg (.name 12) (.met .pop (.var 7) [])),
    (.expr (.met .append (.var 8) [(.tup [(.var 12), (.var 9)])]))] [])]),
    (.sset (.var 6) (.var 9) (.op .add (.sub (.var 6) (.var 9)) (.tup [(.var 12)])))]),
    (.ret (.bi .tuple [(.var 6)]))] }
def n11 : List Str := ["_law_deck_here", "_law_people", "_law_most", "_law_k", "_law_count", "_law_way", "_law_rows", "_law_labels", "_law_open_ones", "_law_process", "_law_ready", "_law_turn", "_law_event", "_law_pair"]
def p11 : List Str := ["_law_deck_here", "_law_people", "_law_most"]
/-- _law_states(_law_rows): 0 _law_rows, 1 _law_found, 2 _law_process, 3 _law_row, 4 _law_number -/
def d12 : Df := { np := 1, ns := 5, md := .sub 0, body := [(.asg (.name 1) (.fz (.lst []))),
    (.loop false (.tup [(.name 2), (.name 3)]) (.enum (.var 0)) [(.asg (.name 1) (.fz (.add (.var 1) (.fz (.comp (.tup [(.var 2), (.var 4)]) (.name 4) (.range1 (.op .add (.met .count (.var 3) [(.int 0)]) (.int 2))) none [4])))))]),
    (.ret (.var 1))] }
def n12 : List Str := ["_law_rows", "_law_found", "_law_process", "_law_row", "_law_number"]
def p12 : List Str := ["_law_rows"]
/-- _law_place(_law_rows, _law_state): 0 _law_rows, 1 _law_state, 2 _law_row, 3 _law_spots, 4 _law_k -/
def d13 : Df := { np := 2, ns := 5, md := .sub 0, body := [(.asg (.name 2) (.sub (.var 0) (.sub (.var 1) (.int 0)))),
    (.asg (.name 3) (.fz (.add (.fz (.add (.fz (.lst [(.int 0)])) (.fz (.comp (.op .add (.var 4) (.int 1)) (.name 4) (.range1 (.bi .len [(.var 2)])) (some (.cmp .eq (.sub (.var 2) (.var 4)) (.int 0))) [4])))) (.fz (.lst [(.op .add (.bi .len [(.var 2)]) (.int 1))]))))),
    (.ret (.bi .max [(.int 0), (.op .sub (.sub (.var 3) (.sub (.var 1) (.int 1))) (.int 1))]))] }
def n13 : List Str := ["_law_rows", "_law_state", "_law_row", "_law_spots", "_law_k"]
def p13 : List Str := ["_law_rows", "_law_state"]
/-- _law_messages(_law_rows): 0 _law_rows, 1 _law_event, 2 _law_spots, 3 _law_found, 4 _law_process, 5 _law_row, 6 _law_k -/
def d14 : Df := { np := 1, ns := 7, md := .sub 0, body := [(.pars [2, 3] [(.nw .dict0), (.nw (.lst []))]),
    (.loop false (.tup [(.name 4), (.name 5)]) (.enum (.var 0)) [(.loop false (.tup [(.name 6), (.name 1)]) (.enum (.var 5)) [(.dput (.var 2) (.var 1) (.tup [(.var 4), (.var 6)]))])]),
    (.loop false (.name 1) (.e (.fz (.sorted (.fz (.listD (.var 2)))))) [(.ifs (.cmp .lt (.var 1) (.int 0)) [(.expr (.met .append (.var 3) [(.op .add (.op .add (.tup [(.op .sub (.int 0) (.var 1))]) (.dsub (.var 2) (.op .sub (.int 0) (.var 1)))) (.dsub (.var 2) (.var 1)))]))] [])]),
    (.ret (.var 3))] }
def n14 : List Str := ["_law_rows", "_law_event", "_law_spots", "_law_found", "_law_process", "_law_row", "_law_k"]
def p14 : List Str := ["_law_rows"]
/-- _law_future(_law_rows, _law_state): 0 _law_rows, 1 _law_state, 2 _law_first, 3 _law_ahead, 4 _law_message, 5 _law_sender, 6 _law_sent, 7 _law_receiver, 8 _law_received -/
def d15 : Df := { np := 2, ns := 9, md := .sub 0, body := [(.asg (.name 2) (.nw (.rep (.fz (.lst [(.int 99)])) (.bi .len [(.var 0)])))),
    (.sset (.var 2) (.sub (.var 1) (.int 0)) (.call 13 [(.var 0), (.var 1)])),
    (.asg (.name 3) .non),
    (.whl false (.cmp .ne (.var 3) (.var 2)) [(.asg (.name 3) (.fz (.list (.var 2)))),
    (.loop false (.tup [(.name 4), (.name 5), (.name 6), (.name 7), (.name 8)]) (.e (.call 14 [(.var 0)])) [(.ifs (.cmp .ge (.var 6) (.sub (.var 2) (.var 5))) [(.sset (.var 2) (.var 7) (.bi .min [(.sub (.var 2) (.var 7)), (.var 8)]))] [])])]),
    (.ret (.var 2))] }
def n15 : List Str := ["_law_rows", "_law_state", "_law_first", "_law_ahead", "_law_message", "_law_sender", "_law_sent", "_law_receiver", "_law_received"]
def p15 : List Str := ["_law_rows", "_law_state"]
/-- _law_before(_law_rows, _law_one_here, _law_other): 0 _law_rows, 1 _law_one_here, 2 _law_other -/
def d16 : Df := { np := 3, ns := 3, md := .sub 0, body := [(.ifs (.cmp .eq (.sub (.var 1) (.int 0)) (.sub (.var 2) (.int 0))) [(.ret (.cmp .lt (.sub (.var 1) (.int 1)) (.sub (.var 2) (.int 1))))] []),
    (.ret (.cmp .lt (.sub (.call 15 [(.var 0), (.var 1)]) (.sub (.var 2) (.int 0))) (.call 13 [(.var 0), (.var 2)])))] }
def n16 : List Str := ["_law_rows", "_law_one_here", "_law_other"]
def p16 : List Str := ["_law_rows", "_law_one_here", "_law_other"]
/-- _law_vector(_law_rows, _law_state): 0 _law_rows, 1 _law_state, 2 _law_found, 3 _law_process, 4 _law_number -/
def d17 : Df := { np := 2, ns := 5, md := .sub 0, body := [(.asg (.name 2) (.nw (.lst []))),
    (.loop false (.name 3) (.range1 (.bi .len [(.var 0)])) [(.asg (.name 4) (.int 0)),
    (.whl false (.call 16 [(.var 0), (.tup [(.var 3), (.var 4)]), (.var 1)]) [(.asg (.name 4) (.op .add (.var 4) (.int 1)))]),
    (.expr (.met .append (.var 2) [(.var 4)]))]),
    (.ret (.bi .tuple [(.var 2)]))] }
def n17 : List Str := ["_law_rows", "_law_state", "_law_found", "_law_process", "_law_number"]
def p17 : List Str := ["_law_rows", "_law_state"]
/-- law(_law_script): 0 _law_script, 1 _law_deck_here, 2 _law_turn, 3 _law_rows, 4 _law_state, 5 _law_shown, 6 _law_states_here, 7 _law_due, 8 _law_k -/
def d18 : Df := { np := 1, ns := 9, md := .keep, body := [(.asg (.name 1) (.call 7 [(.var 0)])),
    (.loop false (.name 2) (.range1 (.int 3)) [(.asg (.name 3) (.call 11 [(.var 1), (.int 6), (.int 60)])),
    (.pars [5, 6] [(.bi .repr [(.var 3)]), (.call 12 [(.var 3)])]),
    (.loop false (.name 4) (.e (.fz (.add (.fz (.lst [(.sub (.var 6) (.int 0)), (.sub (.var 6) (.neg (.int 1)))])) (.fz (.comp (.call 9 [(.var 1), (.var 6)]) (.name 8) (.range1 (.int 6)) none [8]))))) [(.asg (.name 7) (.call 17 [(.var 3), (.var 4)])),
    (.ifs (.cmp .ne (.bi .repr [(.fz (.lst [(.call 6 [(.var 3), (.var 4)]), (.call 6 [(.var 3), (.var 4)])]))]) (.bi .repr [(.fz (.lst [(.var 7), (.var 7)]))])) [(.ret (.bl false))] []),
    (.ifs (.cmp .ne (.sub (.var 7) (.sub (.var 4) (.int 0))) (.sub (.var 4) (.int 1))) [(.ret (.bl false))] [])]),
    (.ifs (.cmp .ne (.bi .repr [(.var 3)]) (.var 5)) [(.ret (.bl false))] [])]),
    (.ret (.bl true))] }
def n18 : List Str := ["_law_script", "_law_deck_here", "_law_turn", "_law_rows", "_law_state", "_law_shown", "_law_states_here", "_law_due", "_law_k"]
def p18 : List Str := ["_law_script"]
def tbl : List Df := [d0, d1, d2, d3, d4, d5, d6, d7, d8, d9, d10, d11, d12, d13, d14, d15, d16, d17, d18]
end K53
end
/-! ## Vk53 -/
section
set_option maxHeartbeats 4000000
/-! Vk53: the plain law (written by gl.py). -/
namespace K53
open PySem Mi Sh ShE
def gl : Glo := fun i => match i with
  | _ => none
theorem sp_law_next (m : Nat) : SpX dkE (callN tbl gl (m + 1)) 8 (fun (x : Int) => [eI x]) eI drawM := nextE_sp rfl
theorem sp_law_shuffled (m : Nat) : SpGv dkE (callN tbl gl (m + 2)) 10 (fun (x : (List Int)) => [(eL eI) x]) eI shufS := shufE_sp (fn := 8) (by decide) rfl rfl (nextE_sp rfl)
theorem sp_law_history (m : Nat) : SpX dkE (callN tbl gl (m + 3)) 11 (fun (x : Int × Int) => [eI x.1, eI x.2]) (eT (eT eI)) law_history := sp_X (d := (law_history_D 8 10)) rfl rfl (fun _ => rfl) fun x => (law_history_S x).2 (sp_law_next (m + 1)) (sp_law_shuffled (m + 0))
theorem sp_law_states (m : Nat) : SpD (callN tbl gl (m + 1)) 12 (fun (x : (List (List Int))) => [(eT (eT eI)) x]) (eL (eP eI eI)) law_states := sp_D (d := law_states_D) rfl rfl (fun _ => rfl) fun x => (law_states_S x).2 
theorem sp_law_one (m : Nat) : SpX dkE (callN tbl gl (m + 2)) 9 (fun (x : (List (Int × Int))) => [(eL (eP eI eI)) x]) (eP eI eI) law_one := sp_X (d := (law_one_D 8)) rfl rfl (fun _ => rfl) fun x => (law_one_S x).2 (sp_law_next (m + 0))
theorem sp_law_place (m : Nat) : SpR (callN tbl gl (m + 1)) 13 (fun (x : (List (List Int)) × (Int × Int)) => [(eT (eT eI)) x.1, (eP eI eI) x.2]) eI law_place := sp_R (d := law_place_D) (by decide) rfl rfl (fun _ => rfl) fun x => (law_place_S x).2 
theorem sp_law_messages (m : Nat) : SpD (callN tbl gl (m + 1)) 14 (fun (x : (List (List Int))) => [(eT (eT eI)) x]) (eL (e5 eI eI eI eI eI)) law_messages := sp_D (d := law_messages_D) rfl rfl (fun _ => rfl) fun x => (law_messages_S x).2 
theorem sp_law_future (m : Nat) : SpD (callN tbl gl (m + 2)) 15 (fun (x : (List (List Int)) × (Int × Int)) => [(eT (eT eI)) x.1, (eP eI eI) x.2]) (eL eI) law_future := sp_D (d := (law_future_D 13 14)) rfl rfl (fun _ => rfl) fun x => (law_future_S x).2 (sp_law_place (m + 0)) (sp_law_messages (m + 0))
theorem sp_law_before (m : Nat) : SpR (callN tbl gl (m + 3)) 16 (fun (x : (List (List Int)) × (Int × Int) × (Int × Int)) => [(eT (eT eI)) x.1, (eP eI eI) x.2.1, (eP eI eI) x.2.2]) eB law_before := sp_R (d := (law_before_D 15 13)) (by decide) rfl rfl (fun _ => rfl) fun x => (law_before_S x).2 (sp_law_future (m + 0)) (sp_law_place (m + 1))
theorem sp_law_vector (m : Nat) : SpR (callN tbl gl (m + 4)) 17 (fun (x : (List (List Int)) × (Int × Int)) => [(eT (eT eI)) x.1, (eP eI eI) x.2]) (eT eI) law_vector := sp_R (d := (law_vector_D 16)) (by decide) rfl rfl (fun _ => rfl) fun x => (law_vector_S x).2 (sp_law_before (m + 0))
theorem sp_place_of (m : Nat) : SpR (callN tbl gl (m + 1)) 1 (fun (x : (List (List Int)) × (Int × Int)) => [(eT (eT eI)) x.1, (eP eI eI) x.2]) eI place_of := sp_R (d := place_of_D) (by decide) rfl rfl (fun _ => rfl) fun x => (place_of_S x).2 
theorem sp_all_places (m : Nat) : SpD (callN tbl gl (m + 1)) 0 (fun (x : (List (List Int))) => [(eT (eT eI)) x]) (eL (e3 eI eI eI)) all_places := sp_D (d := all_places_D) rfl rfl (fun _ => rfl) fun x => (all_places_S x).2 
theorem sp_message_table (m : Nat) : SpD (callN tbl gl (m + 2)) 3 (fun (x : (List (List Int))) => [(eT (eT eI)) x]) (eM (eP (eP eI eI) (eO (eP eI eI)))) message_table := sp_D (d := (message_table_D 0)) rfl rfl (fun _ => rfl) fun x => (message_table_S x).2 (sp_all_places (m + 0))
theorem sp_received_messages (m : Nat) : SpD (callN tbl gl (m + 3)) 4 (fun (x : (List (List Int))) => [(eT (eT eI)) x]) (eL (e5 eI eI eI eI eI)) received_messages := sp_D (d := (received_messages_D 3)) rfl rfl (fun _ => rfl) fun x => (received_messages_S x).2 (sp_message_table (m + 0))
theorem sp_causal_past (m : Nat) : SpD (callN tbl gl (m + 4)) 5 (fun (x : (List (List Int)) × (Int × Int)) => [(eT (eT eI)) x.1, (eP eI eI) x.2]) (eL eI) causal_past := sp_D (d := (causal_past_D 1 4)) rfl rfl (fun _ => rfl) fun x => (causal_past_S x).2 (sp_place_of (m + 2)) (sp_received_messages (m + 0))
theorem sp_interval_at (m : Nat) : SpR (callN tbl gl (m + 1)) 2 (fun (x : (List Int) × Int) => [(eT eI) x.1, eI x.2]) eI interval_at := sp_R (d := interval_at_D) (by decide) rfl rfl (fun _ => rfl) fun x => (interval_at_S x).2 
theorem sp_vector_of (m : Nat) : SpR (callN tbl gl (m + 5)) 6 (fun (x : (List (List Int)) × (Int × Int)) => [(eT (eT eI)) x.1, (eP eI eI) x.2]) (eT eI) vector_of := sp_R (d := (vector_of_D 5 2)) (by decide) rfl rfl (fun _ => rfl) fun x => (vector_of_S x).2 (sp_causal_past (m + 0)) (sp_interval_at (m + 3))
theorem plain : ∀ ns : List Int, ns.length ≤ 63 → ∃ h', callN tbl gl 6 18 [.scr ns] [] = some (vb true, h') :=
  law_run (m := 4) (d := (law_main_D 11 12 9 17 6)) (dS := deckE) (fS := 7) (sb := (law_main_D 11 12 9 17 6).body.tail) rfl rfl rfl rfl rfl (fun ns hl => deckE_ok hl)
    (fun ns => law_main_S.2 ns (sp_law_history 2) (sp_law_states 4) (sp_law_one 3) (sp_law_vector 1) (sp_vector_of 0)) law_ok
end K53
end
/-! ## Lk53 -/
section
set_option maxHeartbeats 0
namespace K53
open PySem PySem.Spec PyProof.Rows L2 Mi
def top (i : Nat) : Stmt := PySem.Challenge.pw_savelines_k53_vectors_of_states.main.body.getD i (.Pass ⟨0, 0, 0, 0⟩)
def dd (n : Str) (i : Nat) : He.DefD := ⟨(n, none), n, n, defArgs (top i), defBody (top i), defScope (top i), [], []⟩
def fn : List He.DefD := [dd "all_places" 1, dd "place_of" 2, dd "interval_at" 3, dd "message_table" 4, dd "received_messages" 6, dd "causal_past" 7, dd "vector_of" 8, dd "_law_deck" 10, dd "_law_next" 11, dd "_law_one" 12, dd "_law_shuffled" 13, dd "_law_history" 14, dd "_law_states" 15, dd "_law_place" 16, dd "_law_messages" 17, dd "_law_future" 18, dd "_law_before" 19, dd "_law_vector" 20, dd "law" 21]
def fa : List He.Fa := [.glo "all_places", .glo "place_of", .glo "interval_at", .glo "message_table", .glo "received_messages", .glo "causal_past", .glo "vector_of", .glo "_law_deck", .glo "_law_next", .glo "_law_one", .glo "_law_shuffled", .glo "_law_history", .glo "_law_states", .glo "_law_place", .glo "_law_messages", .glo "_law_future", .glo "_law_before", .glo "_law_vector", .glo "law", .free "len", .free "abs", .free "tuple", .free "min", .free "max", .free "sum", .free "any", .free "all", .free "repr", .free "int", .free "isinstance", .free "bool", .free "str", .free "list", .free "range", .free "sorted", .free "enumerate", .free "zip"]
abbrev R : PySem.W.OpenRow := PySem.W.OpenLaw.row PySem.Challenge.rw_savelines_k53_vectors_of_states
abbrev hk : PySem.W.Hook := He.hookD 4 fa fn
def ob (s : PySem.W.SharedT) : He.AlD := He.obsDG 4 fa fn (HandSHeadRun.getT s)
theorem ob_eq (s : PySem.W.SharedT) : ob s = hk.obs s.abs := He.obsDG_eq (HandSHeadRun.getT_eq s)
theorem run (w : World) : HandSHeadRun.RunEq R (PySem.W.view R.prog [21]) hk ob 4000 ["all_places", "place_of", "interval_at", "message_table", "received_messages", "causal_past", "vector_of", "_law_deck", "_law_next", "_law_one", "_law_shuffled", "_law_history", "_law_states", "_law_place", "_law_messages", "_law_future", "_law_before", "_law_vector"] w := by
  intro os
  kernel_rfl
theorem ex0 : DfEx (fn.map (·.name)) nmG d0 (dd "all_places" 1) n0 p0 :=
  ⟨⟨rfl, rfl, rfl, by decide +kernel, by decide +kernel, by decide +kernel, by decide +kernel⟩, rfl, rfl, by decide +kernel, rfl, fun _ _ _ _ _ _ us hl => match us, hl with | [_], _ => rfl⟩
theorem ex1 : DfEx (fn.map (·.name)) nmG d1 (dd "place_of" 2) n1 p1 :=
  ⟨⟨rfl, rfl, rfl, by decide +kernel, by decide +kernel, by decide +kernel, by decide +kernel⟩, rfl, rfl, by decide +kernel, rfl, fun _ _ _ _ _ _ us hl => match us, hl with | [_, _], _ => rfl⟩
theorem ex2 : DfEx (fn.map (·.name)) nmG d2 (dd "interval_at" 3) n2 p2 :=
  ⟨⟨rfl, rfl, rfl, by decide +kernel, by decide +kernel, by decide +kernel, by decide +kernel⟩, rfl, rfl, by decide +kernel, rfl, fun _ _ _ _ _ _ us hl => match us, hl with | [_, _], _ => rfl⟩
theorem ex3 : DfEx (fn.map (·.name)) nmG d3 (dd "message_table" 4) n3 p3 :=
  ⟨⟨rfl, rfl, rfl, by decide +kernel, by decide +kernel, by decide +kernel, by decide +kernel⟩, rfl, rfl, by decide +kernel, rfl, fun _ _ _ _ _ _ us hl => match us, hl with | [_], _ => rfl⟩
theorem ex4 : DfEx (fn.map (·.name)) nmG d4 (dd "received_messages" 6) n4 p4 :=
  ⟨⟨rfl, rfl, rfl, by decide +kernel, by decide +kernel, by decide +kernel, by decide +kernel⟩, rfl, rfl, by decide +kernel, rfl, fun _ _ _ _ _ _ us hl => match us, hl with | [_], _ => rfl⟩
theorem ex5 : DfEx (fn.map (·.name)) nmG d5 (dd "causal_past" 7) n5 p5 :=
  ⟨⟨rfl, rfl, rfl, by decide +kernel, by decide +kernel, by decide +kernel, by decide +kernel⟩, rfl, rfl, by decide +kernel, rfl, fun _ _ _ _ _ _ us hl => match us, hl with | [_, _], _ => rfl⟩
theorem ex6 : DfEx (fn.map (·.name)) nmG d6 (dd "vector_of" 8) n6 p6 :=
  ⟨⟨rfl, rfl, rfl, by decide +kernel, by decide +kernel, by decide +kernel, by decide +kernel⟩, rfl, rfl, by decide +kernel, rfl, fun _ _ _ _ _ _ us hl => match us, hl with | [_, _], _ => rfl⟩
theorem ex7 : DfEx (fn.map (·.name)) nmG d7 (dd "_law_deck" 10) n7 p7 :=
  ⟨⟨rfl, rfl, rfl, by decide +kernel, by decide +kernel, by decide +kernel, by decide +kernel⟩, rfl, rfl, by decide +kernel, rfl, fun _ _ _ _ _ _ us hl => match us, hl with | [_], _ => rfl⟩
theorem ex8 : DfEx (fn.map (·.name)) nmG d8 (dd "_law_next" 11) n8 p8 :=
  ⟨⟨rfl, rfl, rfl, by decide +kernel, by decide +kernel, by decide +kernel, by decide +kernel⟩, rfl, rfl, by decide +kernel, rfl, fun _ _ _ _ _ _ us hl => match us, hl with | [_, _], _ => rfl⟩
theorem ex9 : DfEx (fn.map (·.name)) nmG d9 (dd "_law_one" 12) n9 p9 :=
  ⟨⟨rfl, rfl, rfl, by decide +kernel, by decide +kernel, by decide +kernel, by decide +kernel⟩, rfl, rfl, by decide +kernel, rfl, fun _ _ _ _ _ _ us hl => match us, hl with | [_, _], _ => rfl⟩
theorem ex10 : DfEx (fn.map (·.name)) nmG d10 (dd "_law_shuffled" 13) n10 p10 :=
  ⟨⟨rfl, rfl, rfl, by decide +kernel, by decide +kernel, by decide +kernel, by decide +kernel⟩, rfl, rfl, by decide +kernel, rfl, fun _ _ _ _ _ _ us hl => match us, hl with | [_, _], _ => rfl⟩
theorem ex11 : DfEx (fn.map (·.name)) nmG d11 (dd "_law_history" 14) n11 p11 :=
  ⟨⟨rfl, rfl, rfl, by decide +kernel, by decide +kernel, by decide +kernel, by decide +kernel⟩, rfl, rfl, by decide +kernel, rfl, fun _ _ _ _ _ _ us hl => match us, hl with | [_, _, _], _ => rfl⟩
theorem ex12 : DfEx (fn.map (·.name)) nmG d12 (dd "_law_states" 15) n12 p12 :=
  ⟨⟨rfl, rfl, rfl, by decide +kernel, by decide +kernel, by decide +kernel, by decide +kernel⟩, rfl, rfl, by decide +kernel, rfl, fun _ _ _ _ _ _ us hl => match us, hl with | [_], _ => rfl⟩
theorem ex13 : DfEx (fn.map (·.name)) nmG d13 (dd "_law_place" 16) n13 p13 :=
  ⟨⟨rfl, rfl, rfl, by decide +kernel, by decide +kernel, by decide +kernel, by decide +kernel⟩, rfl, rfl, by decide +kernel, rfl, fun _ _ _ _ _ _ us hl => match us, hl with | [_, _], _ => rfl⟩
theorem ex14 : DfEx (fn.map (·.name)) nmG d14 (dd "_law_messages" 17) n14 p14 :=
  ⟨⟨rfl, rfl, rfl, by decide +kernel, by decide +kernel, by decide +kernel, by decide +kernel⟩, rfl, rfl, by decide +kernel, rfl, fun _ _ _ _ _ _ us hl => match us, hl with | [_], _ => rfl⟩
theorem ex15 : DfEx (fn.map (·.name)) nmG d15 (dd "_law_future" 18) n15 p15 :=
  ⟨⟨rfl, rfl, rfl, by decide +kernel, by decide +kernel, by decide +kernel, by decide +kernel⟩, rfl, rfl, by decide +kernel, rfl, fun _ _ _ _ _ _ us hl => match us, hl with | [_, _], _ => rfl⟩
theorem ex16 : DfEx (fn.map (·.name)) nmG d16 (dd "_law_before" 19) n16 p16 :=
  ⟨⟨rfl, rfl, rfl, by decide +kernel, by decide +kernel, by decide +kernel, by decide +kernel⟩, rfl, rfl, by decide +kernel, rfl, fun _ _ _ _ _ _ us hl => match us, hl with | [_, _, _], _ => rfl⟩
theorem ex17 : DfEx (fn.map (·.name)) nmG d17 (dd "_law_vector" 20) n17 p17 :=
  ⟨⟨rfl, rfl, rfl, by decide +kernel, by decide +kernel, by decide +kernel, by decide +kernel⟩, rfl, rfl, by decide +kernel, rfl, fun _ _ _ _ _ _ us hl => match us, hl with | [_, _], _ => rfl⟩
theorem ex18 : DfEx (fn.map (·.name)) nmG d18 (dd "law" 21) n18 p18 :=
  ⟨⟨rfl, rfl, rfl, by decide +kernel, by decide +kernel, by decide +kernel, by decide +kernel⟩, rfl, rfl, by decide +kernel, rfl, fun _ _ _ _ _ _ us hl => match us, hl with | [_], _ => rfl⟩
theorem tab_ok : All2 (DfOk (fn.map (·.name)) nmG) tbl fn := (.cons ⟨_, _, ex0⟩ (.cons ⟨_, _, ex1⟩ (.cons ⟨_, _, ex2⟩ (.cons ⟨_, _, ex3⟩ (.cons ⟨_, _, ex4⟩ (.cons ⟨_, _, ex5⟩ (.cons ⟨_, _, ex6⟩ (.cons ⟨_, _, ex7⟩ (.cons ⟨_, _, ex8⟩ (.cons ⟨_, _, ex9⟩ (.cons ⟨_, _, ex10⟩ (.cons ⟨_, _, ex11⟩ (.cons ⟨_, _, ex12⟩ (.cons ⟨_, _, ex13⟩ (.cons ⟨_, _, ex14⟩ (.cons ⟨_, _, ex15⟩ (.cons ⟨_, _, ex16⟩ (.cons ⟨_, _, ex17⟩ (.cons ⟨_, _, ex18⟩ .nil)))))))))))))))))))
theorem tab {K : PySem.W.Frag} {h : Heap} {mg : Str → Option Value} (X : K.In h) (G : h.Ns mainGlobals mg) (c : He.SaysD fa fn K) : Tab K mg tbl fn nmG gl where
  ok := tab_ok
  fd := fun D hD => c.defs hD
  mgD := by
    intro D hD
    simp only [fn, List.mem_cons, List.not_mem_nil, or_false] at hD
    rcases hD with rfl | rfl | rfl | rfl | rfl | rfl | rfl | rfl | rfl | rfl | rfl | rfl | rfl | rfl | rfl | rfl | rfl | rfl | rfl
    · exact He.glo_ok X G (c.fact 0 (f := .glo "all_places") rfl)
    · exact He.glo_ok X G (c.fact 1 (f := .glo "place_of") rfl)
    · exact He.glo_ok X G (c.fact 2 (f := .glo "interval_at") rfl)
    · exact He.glo_ok X G (c.fact 3 (f := .glo "message_table") rfl)
    · exact He.glo_ok X G (c.fact 4 (f := .glo "received_messages") rfl)
    · exact He.glo_ok X G (c.fact 5 (f := .glo "causal_past") rfl)
    · exact He.glo_ok X G (c.fact 6 (f := .glo "vector_of") rfl)
    · exact He.glo_ok X G (c.fact 7 (f := .glo "_law_deck") rfl)
    · exact He.glo_ok X G (c.fact 8 (f := .glo "_law_next") rfl)
    · exact He.glo_ok X G (c.fact 9 (f := .glo "_law_one") rfl)
    · exact He.glo_ok X G (c.fact 10 (f := .glo "_law_shuffled") rfl)
    · exact He.glo_ok X G (c.fact 11 (f := .glo "_law_history") rfl)
    · exact He.glo_ok X G (c.fact 12 (f := .glo "_law_states") rfl)
    · exact He.glo_ok X G (c.fact 13 (f := .glo "_law_place") rfl)
    · exact He.glo_ok X G (c.fact 14 (f := .glo "_law_messages") rfl)
    · exact He.glo_ok X G (c.fact 15 (f := .glo "_law_future") rfl)
    · exact He.glo_ok X G (c.fact 16 (f := .glo "_law_before") rfl)
    · exact He.glo_ok X G (c.fact 17 (f := .glo "_law_vector") rfl)
    · exact He.glo_ok X G (c.fact 18 (f := .glo "law") rfl)
  mgB := by
    intro y hy
    simp only [biNames, List.mem_cons, List.not_mem_nil, or_false] at hy
    rcases hy with rfl | rfl | rfl | rfl | rfl | rfl | rfl | rfl | rfl | rfl | rfl | rfl | rfl | rfl | rfl | rfl | rfl | rfl
    · exact He.free_ok X G (c.fact 19 (f := .free "len") rfl)
    · exact He.free_ok X G (c.fact 20 (f := .free "abs") rfl)
    · exact He.free_ok X G (c.fact 21 (f := .free "tuple") rfl)
    · exact He.free_ok X G (c.fact 22 (f := .free "min") rfl)
    · exact He.free_ok X G (c.fact 23 (f := .free "max") rfl)
    · exact He.free_ok X G (c.fact 24 (f := .free "sum") rfl)
    · exact He.free_ok X G (c.fact 25 (f := .free "any") rfl)
    · exact He.free_ok X G (c.fact 26 (f := .free "all") rfl)
    · exact He.free_ok X G (c.fact 27 (f := .free "repr") rfl)
    · exact He.free_ok X G (c.fact 28 (f := .free "int") rfl)
    · exact He.free_ok X G (c.fact 29 (f := .free "isinstance") rfl)
    · exact He.free_ok X G (c.fact 30 (f := .free "bool") rfl)
    · exact He.free_ok X G (c.fact 31 (f := .free "str") rfl)
    · exact He.free_ok X G (c.fact 32 (f := .free "list") rfl)
    · exact He.free_ok X G (c.fact 33 (f := .free "range") rfl)
    · exact He.free_ok X G (c.fact 34 (f := .free "sorted") rfl)
    · exact He.free_ok X G (c.fact 35 (f := .free "enumerate") rfl)
    · exact He.free_ok X G (c.fact 36 (f := .free "zip") rfl)
  gls := fun g y d e => by cases g <;> cases e
end K53
open PySem PySem.W PySem.Calls PyProof.Rows
theorem PySem.Challenge.cw_savelines_k53_vectors_of_states_holds : PySem.Challenge.rw_savelines_k53_vectors_of_states.Holds := by
  w_on; o_law
  refine HandSHeadRun.head_any (r := OpenLaw.row PySem.Challenge.rw_savelines_k53_vectors_of_states) (q := view (OpenLaw.row PySem.Challenge.rw_savelines_k53_vectors_of_states).prog [21]) (H := K53.hk) (ob := K53.ob) (M := 4000) (loose := ["all_places", "place_of", "interval_at", "message_table", "received_messages", "causal_past", "vector_of", "_law_deck", "_law_next", "_law_one", "_law_shuffled", "_law_history", "_law_states", "_law_place", "_law_messages", "_law_future", "_law_before", "_law_vector"]) (d := HandSHeadRun.topDef (OpenLaw.row PySem.Challenge.rw_savelines_k53_vectors_of_states).prog 21) (kwd := []) K53.ob_eq
    (by kernel_rfl) (fun s => by kernel_rfl) K53.run (by kernel_rfl) (by kernel_rfl) (by kernel_rfl) (by rfl) (by first | assumption | decide +kernel) (by decide +kernel) ⟨rfl, rfl, rfl, rfl, rfl, by decide +kernel⟩ ?hw ?hc
  case hw => w_witness2
  case hc =>
    refine Mi.walkG (l := PySem.Challenge.rw_savelines_k53_vectors_of_states) (n := 63) (k := 6) (x := "_law_script") rfl (by decide) (by kernel_rfl) ⟨rfl, by decide, by decide⟩ ?F
    intro w mg fa h Y G hmg0
    obtain ⟨K, KX, c⟩ := Y
    have hmg : mg ("law" : PySem.Str) = some (.ref fa) := by
      have e : (HandSHeadRun.topDef (OpenLaw.row PySem.Challenge.rw_savelines_k53_vectors_of_states).prog 21).name = ("law" : PySem.Str) := by kernel_rfl
      rw [← e]
      exact hmg0
    exact Mi.law_tab (iL := 18) (dL := K53.d18) (DL := K53.dd "law" 21) (K53.tab KX G c) rfl rfl K53.ex18 K53.plain hmg KX
end
