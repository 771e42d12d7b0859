import PyProof.Rows.All
import Wide.All
import OpenK.AllK
import Wide.FinOn
import HandS.ForMost
import HandS.IsInst
import HandS.Deep
import HandS.Flow
import HandS.Style
import HandS.TupAny
import HandS.Zip
import HandS.Walk
import HandS.EndBits
import HandS.Defaults
import HandS.More
import KE.GoesNew
import KE.GoesMore
import HandS.NoneIn
import HandS.Head0
import HandS.Head1
import HandS.Head2
import HandS.HeadEnd
import HandS.HeadHook1
import HandS.HeadHook2
import PySem.Challenge.RW_keptmarks_k66_whole_numbers_of_books
set_option Elab.async false
set_option linter.all false
set_option maxRecDepth 100000
/-! PLA: a small pure language: data, a store of mutable objects, expressions and statements without places, and what they come to. -/
namespace PL
open PySem L2

/-- data: immutable ones whole, mutable ones by their number in the store; rep d is the text repr(d); scr a list that nobody changes -/
inductive D where
  | non | bl (b : Bool) | int (i : Int) | str (x : Str) | tup (xs : List D) | ref (n : Nat) | rep (d : PyData) | scr (xs : List D)
  deriving Inhabited
/-- a mutable object -/
inductive Ob where
  | lst (xs : List D) | dct (kvs : List (Key × D))
  deriving Inhabited
abbrev Sto := List Ob
abbrev Env := List (Option D)

inductive Res (α : Type) where
  | ok (a : α) (st : Sto)
  | exc (c : Nat) (xs : List D) (st : Sto)
  | bad
def Res.bind {α β : Type} (r : Res α) (k : α → Sto → Res β) : Res β := match r with
  | .ok a st => k a st
  | .exc c xs st => .exc c xs st
  | .bad => .bad
@[simp] theorem Res.bind_ok {α β : Type} {a : α} {st : Sto} {k : α → Sto → Res β} : (Res.ok a st).bind k = k a st := rfl
@[simp] theorem Res.bind_exc {α β : Type} {c : Nat} {xs : List D} {st : Sto} {k : α → Sto → Res β} : (Res.exc c xs st : Res α).bind k = .exc c xs st := rfl
@[simp] theorem Res.bind_bad {α β : Type} {k : α → Sto → Res β} : (Res.bad : Res α).bind k = .bad := rfl
/-- a value of the store as it is, or bad -/
def liftO {α : Type} (o : Option α) (st : Sto) : Res α := match o with
  | some a => .ok a st
  | none => .bad
@[simp] theorem liftO_some {α : Type} {a : α} {st : Sto} : liftO (some a) st = .ok a st := rfl
@[simp] theorem liftO_none {α : Type} {st : Sto} : liftO (none : Option α) st = .bad := rfl

/-! ### the syntax -/
inductive Bop where | add | sub | mul | fdiv | md | pow
  deriving DecidableEq
inductive Cop where | eq | ne | lt | le | gt | ge | isn | isnn | isin | notin
  deriving DecidableEq
inductive Ty where | int | bool | str | tup | lst | dct
  deriving DecidableEq
inductive Blt where | len | abs | int | tuple | list | min2 | max2 | repr | strI | isi (t : Ty) | dictP
  deriving DecidableEq
inductive Mt where | append | pop0 | popAt | insert | extend
  deriving DecidableEq
inductive ItK where | plain | range1 | range2 | range3 | enum | zip
  deriving DecidableEq

mutual
inductive E where
  | var (i : Nat)
  | cI (i : Int) | cB (b : Bool) | cS (x : Str) | cN
  | gcon (i : Nat)
  | bin (op : Bop) (a b : E)
  | neg (a : E)
  | notE (a : E)
  | and1 (a : E) | and2 (a r : E) | or1 (a : E) | or2 (a r : E)
  | cmp (op : Cop) (a b : E)
  | cmp2 (op op' : Cop) (a b c : E)
  | ife (c : T) (a b : E)
  | tup (es : Es)
  | lst (es : Es)
  | dic (ks : List Key) (es : Es)
  | call (f : Nat) (es : Es)
  | callK (f : Nat) (es ks : Es) (g : List Nat)
  | blt (b : Blt) (es : Es)
  | meth (m : Mt) (o : E) (es : Es)
  | idx (a b : E)
  | sl (a lo hi : E)
  | rev (a : E)
  | lc (own : List Nat) (elt : E) (t : Tg) (k : ItK) (es : Es) (c : T)
inductive Es where
  | nil | cons (e : E) (es : Es)
inductive T where
  | val (e : E) | vc (op : Cop) (a b : E) | vc2 (op op' : Cop) (a b c : E) | not (t : T) | and1 (a : T) | and2 (a r : T) | or1 (a : T) | or2 (a r : T) | yes
inductive Tg where
  | name (i : Nat) | tup (ts : Tgs) | sub (o i : E)
inductive Tgs where
  | nil | cons (t : Tg) (ts : Tgs)
end
mutual
inductive S where
  | asg (t : Tg) (e : E)
  | asgC (i : Nat) (own : List Nat) (elt : E) (t : Tg) (k : ItK) (es : Es) (c : T)
  | par (is : List Nat) (es : Es)
  | exp (e : E)
  | ret (e : E)
  | retN
  | ite (c : T) (a b : Ss)
  | for_ (t : Tg) (k : ItK) (es : Es) (body : Ss)
  | whl (c : T) (body : Ss)
  | brk | cnt | pass
  | never
inductive Ss where
  | nil | cons (s : S) (ss : Ss)
end
structure Fn where
  np : Nat
  ns : Nat
  body : Ss

/-! ### what operations on data come to -/
def optMap {α β : Type} (f : α → Option β) : List α → Option (List β)
  | [] => some []
  | a :: l => match f a with
    | none => none
    | some b => match optMap f l with
      | none => none
      | some r => some (b :: r)
/-- data as the library's data; mutable objects are looked up -/
def toPy (st : Sto) : Nat → D → Option PyData
  | _, .non => some .none
  | _, .bl b => some (.bool b)
  | _, .int i => some (.int i)
  | _, .str x => some (.str x)
  | n + 1, .tup xs => (optMap (toPy st n) xs).map .tuple
  | n + 1, .scr xs => (optMap (toPy st n) xs).map .list
  | n + 1, .ref r => match st[r]? with
    | some (.lst xs) => (optMap (toPy st n) xs).map .list
    | _ => none
  | _, _ => none
mutual
def same : PyData → PyData → Bool
  | .none, .none => true
  | .bool a, .bool b => a == b
  | .int a, .int b => decide (a = b)
  | .str a, .str b => decide (a = b)
  | .list a, .list b => sameAll a b
  | .tuple a, .tuple b => sameAll a b
  | _, _ => false
def sameAll : List PyData → List PyData → Bool
  | [], [] => true
  | a :: l, b :: r => same a b && sameAll l r
  | _, _ => false
end
/-- an upper bound of the length of repr -/
def showCost : PyData → Nat
  | .none => 4
  | .bool _ => 5
  | .int i => i.natAbs.log2 + 2
  | .str x => 10 * x.length + 2
  | .list xs => costAll xs + 2
  | .tuple xs => costAll xs + 3
  | .dict _ => 100000000
where costAll : List PyData → Nat
  | [] => 0
  | x :: xs => showCost x + 2 + costAll xs
/-- what == comes to: of texts repr(..) it is told where both are the same -/
def eqD (st : Sto) (a b : D) : Option Bool := match a, b with
  | .rep d, .rep e => if same d e then some true else none
  | .rep d, .str x => some (decide (d.shown = x))
  | .str x, .rep d => some (decide (x = d.shown))
  | .int i, .int j => some (decide (i = j))
  | .str x, .str y => some (decide (x = y))
  | .non, .non => some true
  | .non, .int _ => some false
  | .int _, .non => some false
  | .non, .str _ => some false
  | .str _, .non => some false
  | .bl x, .bl y => some (x == y)
  | a, b => match toPy st 60 a, toPy st 60 b with
    | some x, some y => if x.canLay0 && y.canLay0 then some (PyData.eqv x y) else none
    | _, _ => none
def inD (st : Sto) (a b : D) : Option Bool := match toPy st 60 a, toPy st 60 b with
  | some x, some (.list ys) => if x.canLay0 && PyData.canLayAll0 ys then some (ys.any fun y => PyData.eqv y x) else none
  | some x, some (.tuple ys) => if x.canLay0 && PyData.canLayAll0 ys then some (ys.any fun y => PyData.eqv y x) else none
  | _, _ => none
def truth (st : Sto) : D → Option Bool
  | .non => some false
  | .bl b => some b
  | .int i => some (i != 0)
  | .str x => if x.length ≤ sizeLine then some ((x.length : Int) != 0) else none
  | .tup xs => some (!xs.isEmpty)
  | .scr xs => some (!xs.isEmpty)
  | .ref r => match st[r]? with
    | some (.lst xs) => some (!xs.isEmpty)
    | some (.dct kvs) => some (!kvs.isEmpty)
    | none => none
  | .rep _ => none
def small64 (i : Int) : Bool := decide (-(2 ^ 64) < i) && decide (i < 2 ^ 64)
def binD (op : Bop) (a b : D) (st : Sto) : Res D := match op, a, b with
  | .add, .int i, .int j => .ok (.int (i + j)) st
  | .sub, .int i, .int j => .ok (.int (i - j)) st
  | .mul, .int i, .int j => if small64 i || small64 j then .ok (.int (i * j)) st else .bad
  | .fdiv, .int i, .int j => if decide (0 < j) && decide (j < 1073741824) then .ok (.int (i / j)) st else .bad
  | .md, .int i, .int j => if decide (0 < j) then .ok (.int (i % j)) st else .bad
  | .pow, .int i, .int j => if decide (0 ≤ j) && (decide (j ≤ 1000000) && decide (i.natAbs < 2 ^ 64)) then .ok (.int (i ^ j.toNat)) st else .bad
  | .add, .str x, .str y => if x.length + y.length ≤ sizeLine then .ok (.str (x ++ y)) st else .bad
  | .add, .tup xs, .tup ys => if xs.length + ys.length ≤ sizeLine then .ok (.tup (xs ++ ys)) st else .bad
  | .add, .ref m, .ref n => match st[m]?, st[n]? with
    | some (.lst xs), some (.lst ys) => if xs.length + ys.length ≤ sizeLine then .ok (.ref st.length) (st ++ [.lst (xs ++ ys)]) else .bad
    | _, _ => .bad
  | .mul, .ref m, .int k => match st[m]? with
    | some (.lst xs) => if decide (-(2 ^ 63) ≤ k) && (decide (k < 2 ^ 63) && decide (xs.length * k.toNat ≤ sizeLine)) then .ok (.ref st.length) (st ++ [.lst (List.replicate k.toNat xs).flatten]) else .bad
    | _ => .bad
  | _, _, _ => .bad
def cmpD (op : Cop) (a b : D) (st : Sto) : Option Bool := match op, a, b with
  | .eq, a, b => eqD st a b
  | .ne, a, b => (eqD st a b).map (!·)
  | .lt, .int i, .int j => some (decide (i < j))
  | .le, .int i, .int j => some (decide (i ≤ j))
  | .gt, .int i, .int j => some (decide (j < i))
  | .ge, .int i, .int j => some (decide (j ≤ i))
  | .isn, .non, .non => some true
  | .isn, _, .non => some false
  | .isnn, .non, .non => some false
  | .isnn, _, .non => some true
  | .isin, a, b => inD st a b
  | .notin, a, b => (inD st a b).map (!·)
  | _, _, _ => none
def tyD (st : Sto) : D → Option Ty
  | .bl _ => some .bool
  | .int _ => some .int
  | .str _ => some .str
  | .tup _ => some .tup
  | .scr _ => some .lst
  | .ref r => match st[r]? with
    | some (.lst _) => some .lst
    | some (.dct _) => some .dct
    | none => none
  | .rep _ => some .str
  | .non => none
def isiD (st : Sto) (t : Ty) : D → Option Bool
  | .non => some false
  | d => match tyD st d with
    | some u => some (decide (u = t) || (decide (u = .bool) && decide (t = .int)))
    | none => none
/-- the key of a dict -/
def keyD : D → Option Key
  | .int i => some (.inl i)
  | .str x => some (.inr x)
  | _ => none
def getKV (kvs : List (Key × D)) (k : Key) : Option D := (kvs.find? fun kv => decide (kv.1 = k)).map (·.2)
def putKV (kvs : List (Key × D)) (k : Key) (v : D) : List (Key × D) :=
  if (kvs.any fun kv => decide (kv.1 = k)) = true then kvs.map (fun kv => if kv.1 = k then (kv.1, v) else kv) else kvs ++ [(k, v)]
def bltD (b : Blt) (ds : List D) (st : Sto) : Res D := match b, ds with
  | .len, [.tup xs] => .ok (.int xs.length) st
  | .len, [.scr xs] => .ok (.int xs.length) st
  | .len, [.str x] => if x.length ≤ sizeLine then .ok (.int x.length) st else .bad
  | .len, [.ref r] => match st[r]? with
    | some (.lst xs) => .ok (.int xs.length) st
    | _ => .bad
  | .abs, [.int i] => .ok (.int (if i < 0 then -i else i)) st
  | .int, [.int i] => .ok (.int i) st
  | .int, [.bl b] => .ok (.int (if b then 1 else 0)) st
  | .tuple, [.tup xs] => .ok (.tup xs) st
  | .tuple, [.scr xs] => .ok (.tup xs) st
  | .tuple, [.ref r] => match st[r]? with
    | some (.lst xs) => .ok (.tup xs) st
    | _ => .bad
  | .list, [.tup xs] => .ok (.ref st.length) (st ++ [.lst xs])
  | .list, [.scr xs] => .ok (.ref st.length) (st ++ [.lst xs])
  | .list, [.ref r] => match st[r]? with
    | some (.lst xs) => .ok (.ref st.length) (st ++ [.lst xs])
    | _ => .bad
  | .min2, [.int i, .int j] => .ok (.int (if j < i then j else i)) st
  | .max2, [.int i, .int j] => .ok (.int (if j > i then j else i)) st
  | .repr, [d] => match toPy st 60 d with
    | some p => if p.canLay0 && (p.showable && decide (showCost p ≤ sizeLine)) then .ok (.rep p) st else .bad
    | none => .bad
  | .strI, [.int i] => if decide (i.natAbs.log2 < 1920) then .ok (.str (toString i)) st else .bad
  | .isi t, [d] => liftO ((isiD st t d).map .bl) st
  | _, _ => .bad
def idxD (a b : D) (st : Sto) : Res D := match a, b with
  | .tup xs, .int i => liftO (atI xs i) st
  | .scr xs, .int i => liftO (atI xs i) st
  | .str x, .int i => if x.length ≤ sizeLine then liftO ((atI x.cps.toList i).map fun c => .str ⟨#[c]⟩) st else .bad
  | .ref r, k => match st[r]?, k with
    | some (.lst xs), .int i => liftO (atI xs i) st
    | some (.dct kvs), k => match keyD k with
      | some k => liftO (getKV kvs k) st
      | none => .bad
    | _, _ => .bad
  | _, _ => .bad
def cutD {α : Type} (xs : List α) (lo hi : Option Int) : List α := (xs.drop (HT.sIx xs.length 0 lo)).take (HT.sIx xs.length xs.length hi - HT.sIx xs.length 0 lo)
def partD : D → Option (Option Int)
  | .non => some none
  | .int i => some (some i)
  | _ => none
def slD (a lo hi : D) (st : Sto) : Res D := match partD lo, partD hi, a with
  | some l, some h, .tup xs => .ok (.tup (cutD xs l h)) st
  | some l, some h, .scr xs => .ok (.ref st.length) (st ++ [.lst (cutD xs l h)])
  | some l, some h, .str x => if x.length ≤ sizeLine then .ok (.str ⟨(cutD x.cps.toList l h).toArray⟩) st else .bad
  | some l, some h, .ref r => match st[r]? with
    | some (.lst xs) => .ok (.ref st.length) (st ++ [.lst (cutD xs l h)])
    | _ => .bad
  | _, _, _ => .bad
def revD (a : D) (st : Sto) : Res D := match a with
  | .scr xs => .ok (.ref st.length) (st ++ [.lst xs.reverse])
  | .ref r => match st[r]? with
    | some (.lst xs) => .ok (.ref st.length) (st ++ [.lst xs.reverse])
    | _ => .bad
  | _ => .bad
def setD (a i v : D) (st : Sto) : Option Sto := match a with
  | .ref r => match st[r]?, i with
    | some (.lst xs), .int k => (ixN xs.length k).map fun j => st.set r (.lst (xs.set j v))
    | some (.dct kvs), k => match keyD k with
      | some k => if kvs.length < sizeLine then some (st.set r (.dct (putKV kvs k v))) else none
      | none => none
    | _, _ => none
  | _ => none
def methD (m : Mt) (o : D) (ds : List D) (st : Sto) : Res D := match o with
  | .ref r => match st[r]? with
    | some (.lst xs) => match m, ds with
      | .append, [d] => if xs.length < sizeLine then .ok .non (st.set r (.lst (xs ++ [d]))) else .bad
      | .pop0, [] => match xs[xs.length - 1]? with
        | some d => .ok d (st.set r (.lst xs.dropLast))
        | none => .bad
      | .popAt, [.int i] => if decide (-(2 ^ 63) ≤ i) && decide (i < 2 ^ 63) then
          match seqIndex? i xs.length with
          | some k => match xs[k]? with
            | some d => .ok d (st.set r (.lst (xs.eraseIdx k)))
            | none => .bad
          | none => .bad
        else .bad
      | .insert, [.int i, d] => if decide (xs.length < sizeLine) && (decide (0 ≤ i) && decide (i < 2 ^ 63)) then .ok .non (st.set r (.lst (xs.take i.toNat ++ [d] ++ xs.drop i.toNat))) else .bad
      | .extend, [.ref q] => match st[q]? with
        | some (.lst ys) => if xs.length + ys.length ≤ sizeLine then .ok .non (st.set r (.lst (xs ++ ys))) else .bad
        | _ => .bad
      | _, _ => .bad
    | _ => .bad
  | _ => .bad

def isLst (d : D) (st : Sto) : Bool := match d with
  | .ref r => match st[r]? with
    | some (.lst _) => true
    | _ => false
  | _ => false

/-! ### what is walked -/
inductive Src where
  | fix (ds : List D)
  | live (n : Nat)
  | enum (s : Src)
  | zip (s t : Src)
def rangeD (lo c : Int) (n : Nat) : List D := (List.range n).map fun (i : Nat) => D.int (lo + (i : Int) * c)
def signsD (x : Str) : List D := x.cps.toList.map fun c => D.str ⟨#[c]⟩
def seqD (d : D) (st : Sto) : Option Src := match d with
  | .tup xs => some (.fix xs)
  | .scr xs => some (.fix xs)
  | .ref r => match st[r]? with
    | some (.lst _) => some (.live r)
    | _ => none
  | _ => none
def big62 (i : Int) : Bool := decide (-(2 ^ 62) ≤ i) && decide (i < 2 ^ 62)
def srcD (k : ItK) (ds : List D) (st : Sto) : Option Src := match k, ds with
  | .plain, [.str x] => some (.fix (signsD x))
  | .plain, [d] => seqD d st
  | .range1, [.int n] => if big62 n then some (.fix (rangeD 0 1 n.toNat)) else none
  | .range2, [.int a, .int b] => if big62 a && big62 b then some (.fix (rangeD a 1 (b - a).toNat)) else none
  | .range3, [.int a, .int b, .int c] => if (big62 a && big62 b) && decide (c = -1) then some (.fix (rangeD a (-1) (a - b).toNat)) else none
  | .enum, [d] => (seqD d st).map .enum
  | .zip, [d, e] => match seqD d st, seqD e st with
    | some s, some t => some (.zip s t)
    | _, _ => none
  | _, _ => none
/-- the item of a turn; some none: there is none any more -/
def Src.at : Src → Sto → Nat → Option (Option D)
  | .fix ds, _, i => if i ≤ ds.length then some ds[i]? else none
  | .live n, st, i => match st[n]? with
    | some (.lst xs) => if i ≤ xs.length then some xs[i]? else none
    | _ => none
  | .enum s, st, i => match s.at st i with
    | some (some x) => some (some (.tup [.int (i : Int), x]))
    | some none => some none
    | none => none
  | .zip s t, st, i => match s.at st i, t.at st i with
    | some (some x), some (some y) => some (some (.tup [x, y]))
    | some _, some _ => some none
    | _, _ => none
def Src.len : Src → Sto → Nat
  | .fix ds, _ => ds.length
  | .live n, st => match st[n]? with
    | some (.lst xs) => xs.length
    | _ => 0
  | .enum s, st => s.len st
  | .zip s t, st => min (s.len st) (t.len st)

/-- what a statement comes to -/
inductive Out where
  | next (env : Env) | brk (env : Env) | cnt (env : Env) | ret (d : D)
/-- the turns of a comprehension -/
def lcLoop (s : Src) (step : D → Sto → Res (Option D)) : Nat → Nat → List D → Sto → Res D
  | 0, _, _, _ => .bad
  | n + 1, i, acc, st => match s.at st i with
    | none => .bad
    | some none => .ok (.ref st.length) (st ++ [.lst acc])
    | some (some d) => (step d st).bind fun o st1 => match o with
      | none => lcLoop s step n (i + 1) acc st1
      | some y => if acc.length < sizeLine then lcLoop s step n (i + 1) (acc ++ [y]) st1 else .bad
/-- the turns of a for -/
def forLoop (s : Src) (step : D → Env → Sto → Res Out) : Nat → Nat → Env → Sto → Res Out
  | 0, _, _, _ => .bad
  | n + 1, i, env, st => match s.at st i with
    | none => .bad
    | some none => .ok (.next env) st
    | some (some d) => (step d env st).bind fun o st1 => match o with
      | .next env1 => forLoop s step n (i + 1) env1 st1
      | .cnt env1 => forLoop s step n (i + 1) env1 st1
      | .brk env1 => .ok (.next env1) st1
      | .ret d => .ok (.ret d) st1
/-- the turns of a while, so many at most -/
def whlLoop (test : Env → Sto → Res Bool) (step : Env → Sto → Res Out) : Nat → Env → Sto → Res Out
  | 0, _, _ => .bad
  | n + 1, env, st => (test env st).bind fun b st1 => if b then (step env st1).bind fun o st2 => match o with
      | .next env1 => whlLoop test step n env1 st2
      | .cnt env1 => whlLoop test step n env1 st2
      | .brk env1 => .ok (.next env1) st2
      | .ret d => .ok (.ret d) st2
    else .ok (.next env) st1
/-- the parts of what is taken apart -/
def partsOf (d : D) (st : Sto) : Option (List D) := match d with
  | .tup ds => some ds
  | .scr ds => some ds
  | .ref r => match st[r]? with
    | some (.lst ds) => some ds
    | _ => none
  | _ => none
def setAll (env : Env) : List Nat → List D → Env
  | i :: is, d :: ds => setAll (env.set i (some d)) is ds
  | _, _ => env
def wipeE (env : Env) : List Nat → Env
  | [] => env
  | v :: vs => (wipeE env vs).set v none

/-! ### what expressions and statements come to -/
section
variable (F : Nat → List D → Sto → Res D) (G : List D)
mutual
def ev : E → Env → Sto → Res D
  | .var i, env, st => match env[i]? with
    | some (some d) => .ok d st
    | _ => .bad
  | .cI i, _, st => .ok (.int i) st
  | .cB b, _, st => .ok (.bl b) st
  | .cS x, _, st => .ok (.str x) st
  | .cN, _, st => .ok .non st
  | .gcon i, _, st => liftO G[i]? st
  | .bin op a b, env, st => (ev a env st).bind fun x st1 => (ev b env st1).bind fun y st2 => binD op x y st2
  | .neg a, env, st => (ev a env st).bind fun x st1 => match x with
    | .int i => .ok (.int (-i)) st1
    | _ => .bad
  | .notE a, env, st => (ev a env st).bind fun x st1 => liftO ((truth st1 x).map fun b => .bl (!b)) st1
  | .and1 a, env, st => ev a env st
  | .and2 a r, env, st => (ev a env st).bind fun x st1 => match truth st1 x with
    | some true => ev r env st1
    | some false => .ok x st1
    | none => .bad
  | .or1 a, env, st => ev a env st
  | .or2 a r, env, st => (ev a env st).bind fun x st1 => match truth st1 x with
    | some true => .ok x st1
    | some false => ev r env st1
    | none => .bad
  | .cmp op a b, env, st => (ev a env st).bind fun x st1 => (ev b env st1).bind fun y st2 => liftO ((cmpD op x y st2).map .bl) st2
  | .cmp2 op op' a b c, env, st => (ev a env st).bind fun x st1 => (ev b env st1).bind fun y st2 => match cmpD op x y st2 with
    | some true => (ev c env st2).bind fun z st3 => liftO ((cmpD op' y z st3).map .bl) st3
    | some false => .ok (.bl false) st2
    | none => .bad
  | .ife c a b, env, st => (evT c env st).bind fun k st1 => if k then ev a env st1 else ev b env st1
  | .tup es, env, st => (evs es env st).bind fun ds st1 => if ds.length ≤ sizeLine then .ok (.tup ds) st1 else .bad
  | .lst es, env, st => (evs es env st).bind fun ds st1 => if ds.length ≤ sizeLine then .ok (.ref st1.length) (st1 ++ [.lst ds]) else .bad
  | .dic ks es, env, st => (evs es env st).bind fun ds st1 => if ks.length = ds.length ∧ ks.length ≤ 15 then
      .ok (.ref st1.length) (st1 ++ [.dct ((ks.zip ds).foldl (fun acc kv => putKV acc kv.1 kv.2) [])]) else .bad
  | .call f es, env, st => (evs es env st).bind fun ds st1 => F f ds st1
  | .callK f es ks g, env, st => (evs es env st).bind fun ds st1 => (evs ks env st1).bind fun zs st2 => F f (g.map fun j => (ds ++ zs).getD j .non) st2
  | .blt b es, env, st => (evs es env st).bind fun ds st1 => bltD b ds st1
  | .meth m o es, env, st => (ev o env st).bind fun x st1 => if isLst x st1 = true then (evs es env st1).bind fun ds st2 => methD m x ds st2 else .bad
  | .idx a b, env, st => (ev a env st).bind fun x st1 => (ev b env st1).bind fun y st2 => idxD x y st2
  | .sl a lo hi, env, st => (ev a env st).bind fun x st1 => (ev lo env st1).bind fun l st2 => (ev hi env st2).bind fun h st3 => slD x l h st3
  | .rev a, env, st => (ev a env st).bind fun x st1 => revD x st1
  | .lc own elt t k es c, env, st => (evs es env st).bind fun ds st1 => match srcD k ds st1 with
    | none => .bad
    | some s => lcLoop s (fun d st2 => (asg t d (wipeE env own) st2).bind fun env1 st3 => (evT c env1 st3).bind fun b st4 =>
        if b then (ev elt env1 st4).bind fun y st5 => .ok (some y) st5 else .ok none st4) (s.len st1 + 1) 0 [] st1
def evs : Es → Env → Sto → Res (List D)
  | .nil, _, st => .ok [] st
  | .cons e es, env, st => (ev e env st).bind fun d st1 => (evs es env st1).bind fun ds st2 => .ok (d :: ds) st2
def evT : T → Env → Sto → Res Bool
  | .val e, env, st => (ev e env st).bind fun x st1 => liftO (truth st1 x) st1
  | .vc op a b, env, st => (ev a env st).bind fun x st1 => (ev b env st1).bind fun y st2 => liftO (cmpD op x y st2) st2
  | .vc2 op op' a b c, env, st => (ev a env st).bind fun x st1 => (ev b env st1).bind fun y st2 => match cmpD op x y st2 with
    | some true => (ev c env st2).bind fun z st3 => liftO (cmpD op' y z st3) st3
    | some false => .ok false st2
    | none => .bad
  | .not t, env, st => (evT t env st).bind fun b st1 => .ok (!b) st1
  | .and1 a, env, st => evT a env st
  | .and2 a r, env, st => (evT a env st).bind fun b st1 => if b then evT r env st1 else .ok false st1
  | .or1 a, env, st => evT a env st
  | .or2 a r, env, st => (evT a env st).bind fun b st1 => if b then .ok true st1 else evT r env st1
  | .yes, _, st => .ok true st
def asg : Tg → D → Env → Sto → Res Env
  | .name i, d, env, st => .ok (env.set i (some d)) st
  | .tup ts, d, env, st => match partsOf d st with
    | some ds => asgs ts ds env st
    | none => .bad
  | .sub o i, d, env, st => (ev o env st).bind fun x st1 => (ev i env st1).bind fun y st2 => match setD x y d st2 with
    | some st3 => .ok env st3
    | none => .bad
def asgs : Tgs → List D → Env → Sto → Res Env
  | .nil, [], env, st => .ok env st
  | .cons t ts, d :: ds, env, st => (asg t d env st).bind fun env1 st1 => asgs ts ds env1 st1
  | _, _, _, _ => .bad
end
/-- how many turns a while may take -/
def whileMost : Nat := 100000
mutual
def ex : S → Env → Sto → Res Out
  | .asg t e, env, st => (ev F G e env st).bind fun d st1 => (asg F G t d env st1).bind fun env1 st2 => .ok (.next env1) st2
  | .asgC i own elt t k es c, env, st => (ev F G (.lc own elt t k es c) env st).bind fun d st1 => .ok (.next (env.set i (some d))) st1
  | .par is es, env, st => (evs F G es env st).bind fun ds st1 => if ds.length = is.length then .ok (.next (setAll env is ds)) st1 else .bad
  | .exp e, env, st => (ev F G e env st).bind fun _ st1 => .ok (.next env) st1
  | .ret e, env, st => (ev F G e env st).bind fun d st1 => .ok (.ret d) st1
  | .retN, _, st => .ok (.ret .non) st
  | .ite c a b, env, st => (evT F G c env st).bind fun k st1 => if k then exs a env st1 else exs b env st1
  | .for_ t k es body, env, st => (evs F G es env st).bind fun ds st1 => match srcD k ds st1 with
    | none => .bad
    | some s => forLoop s (fun d env st => (asg F G t d env st).bind fun env1 st1 => exs body env1 st1) (s.len st1 + 1) 0 env st1
  | .whl c body, env, st => whlLoop (evT F G c) (exs body) whileMost env st
  | .brk, env, st => .ok (.brk env) st
  | .cnt, env, st => .ok (.cnt env) st
  | .pass, env, st => .ok (.next env) st
  | .never, _, _ => .bad
def exs : Ss → Env → Sto → Res Out
  | .nil, env, st => .ok (.next env) st
  | .cons s ss, env, st => (ex s env st).bind fun o st1 => match o with
    | .next env1 => exs ss env1 st1
    | .brk env1 => .ok (.brk env1) st1
    | .cnt env1 => .ok (.cnt env1) st1
    | .ret d => .ok (.ret d) st1
end
end
/-- a def called, at a depth -/
def run (P : List Fn) (G : List D) : Nat → Nat → List D → Sto → Res D
  | 0, _, _, _ => .bad
  | n + 1, f, ds, st => match P[f]? with
    | none => .bad
    | some fn => if ds.length = fn.np then
        (exs (run P G n) G fn.body (ds.map some ++ List.replicate (fn.ns - fn.np) none) st).bind fun o st1 => match o with
          | .ret d => .ok d st1
          | .next _ => .ok .non st1
          | _ => .bad
      else .bad
end PL

set_option Elab.async false
set_option linter.all false
set_option maxRecDepth 100000
/-! PLB: how data and stores stand in the layer's heap. -/
namespace PL
open PySem PySem.Spec PyProof.Rows L2

/-- a list that nobody changes -/
def SqS (K : PySem.W.Frag) (H : Hp) (a : Addr) (vs : List V) : Prop := (∃ o, H a = some (.frz o (.lst vs))) ∨ ∃ o, K.lookup a = some o ∧ SqL K (fun _ => none) a vs
theorem SqS.l {K : PySem.W.Frag} {H : Hp} {a : Addr} {vs : List V} (h : SqS K H a vs) : SqL K H a vs := by
  rcases h with ⟨o, h⟩ | ⟨o, _, h⟩
  · exact .inl (.inr ⟨o, h⟩)
  · rcases h with (z | ⟨_, z⟩) | z
    · cases z
    · cases z
    · exact .inr z
section
variable (K : PySem.W.Frag) (as : List Addr) (H : Hp)
mutual
def RV : D → V → Prop
  | .non, v => v = .non
  | .bl b, v => v = .bl b
  | .int i, v => v = .int i
  | .str x, v => v = .str x
  | .tup ds, v => ∃ a vs, v = .ref a ∧ SqT K H a vs ∧ RVs ds vs
  | .ref n, v => ∃ a, v = .ref a ∧ as[n]? = some a
  | .rep d, v => v = .str d.shown
  | .scr ds, v => ∃ a vs, v = .ref a ∧ SqS K H a vs ∧ RVs ds vs
def RVs : List D → List V → Prop
  | [], vs => vs = []
  | d :: ds, vs => ∃ v vs', vs = v :: vs' ∧ RV d v ∧ RVs ds vs'
end
def RKV : List (Key × D) → List (Key × V) → Prop
  | [], vs => vs = []
  | kd :: r, vs => ∃ v vs', vs = (kd.1, v) :: vs' ∧ RV K as H kd.2 v ∧ RKV r vs'
def RO : Ob → Addr → Prop
  | .lst ds, a => ∃ vs, H a = some (.lst vs) ∧ RVs K as H ds vs
  | .dct kvs, a => ∃ vs, H a = some (.dK vs) ∧ RKV K as H kvs vs
end
def Ob.mt : Ob → Bool := fun _ => true

structure Rel (K : PySem.W.Frag) (as : List Addr) (st : Sto) (H : Hp) : Prop where
  len : as.length = st.length
  at_ : ∀ (i : Nat) (o : Ob) (a : Addr), st[i]? = some o → as[i]? = some a → RO K as H o a
  inj : ∀ (i j : Nat) (a : Addr) (o o' : Ob), st[i]? = some o → st[j]? = some o' → o.mt = true → o'.mt = true → as[i]? = some a → as[j]? = some a → i = j
/-- what behind keeps of ahead -/
structure Ext (K : PySem.W.Frag) (as : List Addr) (H : Hp) (as' : List Addr) (H' : Hp) : Prop where
  app : ∃ l, as' = as ++ l ∧ ∀ a ∈ l, H a = none ∨ a ∈ as
  frm : ∀ (a : Addr) (o : HO), a ∉ as → H a = some o → H' a = some o
  tup : ∀ (a : Addr) (vs : List V), SqT K H a vs → SqT K H' a vs
  frz : ∀ (a : Addr) (o : Obj) (u : HO), H a = some (.frz o u) → H' a = some (.frz o u)
def REnv (K : PySem.W.Frag) (as : List Addr) (H : Hp) (env : Env) (σ : L2.St) : Prop :=
  env.length = σ.length ∧ ∀ (i : Nat) (d : D), env[i]? = some (some d) → ∃ v, σ[i]? = some (some v) ∧ RV K as H d v

section
variable {K : PySem.W.Frag} {as as' as1 as2 : List Addr} {H H' H1 H2 : Hp} {st st' : Sto}
theorem Ext.refl : Ext K as H as H := ⟨⟨[], by simp, by simp⟩, fun _ _ _ h => h, fun _ _ h => h, fun _ _ _ h => h⟩
theorem Ext.trans (e : Ext K as H as1 H1) (e' : Ext K as1 H1 as2 H2) : Ext K as H as2 H2 := by
  obtain ⟨l, rfl, hl⟩ := e.app
  obtain ⟨l', rfl, hl'⟩ := e'.app
  refine ⟨⟨l ++ l', by simp, fun a ha => ?_⟩, fun a o hn h => ?_, fun a vs h => e'.tup a vs (e.tup a vs h), fun a o u h => e'.frz a o u (e.frz a o u h)⟩
  · rcases List.mem_append.mp ha with h | h
    · exact hl a h
    · by_cases hm : a ∈ as
      · exact .inr hm
      · rcases hl' a h with q | q
        · cases z : H a with
          | none => exact .inl rfl
          | some o => rw [e.frm a o hm z] at q; cases q
        · rcases List.mem_append.mp q with q | q
          · exact absurd q hm
          · exact hl a q
  · have hn1 : a ∉ as ++ l := fun hm => by
      rcases List.mem_append.mp hm with z | z
      · exact hn z
      · rcases hl a z with q | q
        · rw [q] at h; cases h
        · exact hn q
    exact e'.frm a o hn1 (e.frm a o hn h)
theorem Ext.at_ (e : Ext K as H as' H') {i : Nat} {a : Addr} (h : as[i]? = some a) : as'[i]? = some a := by
  obtain ⟨l, rfl, _⟩ := e.app
  obtain ⟨hi, _⟩ := List.getElem?_eq_some_iff.mp h
  rw [List.getElem?_append_left hi]; exact h
/-- an address that is tracked, and none of the store's, is none of the store's behind -/
theorem Ext.out (e : Ext K as H as' H') {a : Addr} {o : HO} (h : H a = some o) (hn : a ∉ as) : a ∉ as' := by
  obtain ⟨l, rfl, hl⟩ := e.app
  intro hm
  rcases List.mem_append.mp hm with z | z
  · exact hn z
  · rcases hl a z with q | q
    · rw [q] at h; cases h
    · exact hn q
/-- what data need: the store's addresses stay, and the tuples -/
structure Wk (K : PySem.W.Frag) (as : List Addr) (H : Hp) (as' : List Addr) (H' : Hp) : Prop where
  at_ : ∀ (i : Nat) (a : Addr), as[i]? = some a → as'[i]? = some a
  tup : ∀ (a : Addr) (vs : List V), SqT K H a vs → SqT K H' a vs
  frz : ∀ (a : Addr) (o : Obj) (u : HO), H a = some (.frz o u) → H' a = some (.frz o u)
theorem SqS.mono (e : Wk K as H as' H') {a : Addr} {vs : List V} (h : SqS K H a vs) : SqS K H' a vs := by
  rcases h with ⟨o, h⟩ | h
  · exact .inl ⟨o, e.frz _ _ _ h⟩
  · exact .inr h
theorem Ext.wk (e : Ext K as H as' H') : Wk K as H as' H' := ⟨fun _ _ h => e.at_ h, e.tup, e.frz⟩
mutual
theorem RV.monoW (e : Wk K as H as' H') : ∀ (d : D) (v : V), RV K as H d v → RV K as' H' d v
  | .non, _, h => h
  | .bl _, _, h => h
  | .int _, _, h => h
  | .str _, _, h => h
  | .rep _, _, h => h
  | .tup ds, _, h => by
    obtain ⟨a, vs, rfl, ht, hs⟩ := h
    exact ⟨a, vs, rfl, e.tup a vs ht, RVs.monoW e ds vs hs⟩
  | .scr ds, _, h => by
    obtain ⟨a, vs, rfl, ht, hs⟩ := h
    exact ⟨a, vs, rfl, ht.mono e, RVs.monoW e ds vs hs⟩
  | .ref n, _, h => by
    obtain ⟨a, rfl, ha⟩ := h
    exact ⟨a, rfl, e.at_ _ _ ha⟩
theorem RVs.monoW (e : Wk K as H as' H') : ∀ (ds : List D) (vs : List V), RVs K as H ds vs → RVs K as' H' ds vs
  | [], _, h => h
  | d :: ds, _, h => by
    obtain ⟨v, vs', rfl, h1, h2⟩ := h
    exact ⟨v, vs', rfl, RV.monoW e d v h1, RVs.monoW e ds vs' h2⟩
end
theorem RV.mono (e : Ext K as H as' H') (d : D) (v : V) (h : RV K as H d v) : RV K as' H' d v := RV.monoW e.wk d v h
theorem RVs.mono (e : Ext K as H as' H') (ds : List D) (vs : List V) (h : RVs K as H ds vs) : RVs K as' H' ds vs := RVs.monoW e.wk ds vs h
theorem RKV.monoW (e : Wk K as H as' H') : ∀ (kvs : List (Key × D)) (vs : List (Key × V)), RKV K as H kvs vs → RKV K as' H' kvs vs
  | [], _, h => h
  | d :: ds, _, h => by
    obtain ⟨v, vs', rfl, h1, h2⟩ := h
    exact ⟨v, vs', rfl, RV.monoW e _ v h1, RKV.monoW e ds vs' h2⟩
theorem RKV.mono (e : Ext K as H as' H') (kvs : List (Key × D)) (vs : List (Key × V)) (h : RKV K as H kvs vs) : RKV K as' H' kvs vs := RKV.monoW e.wk kvs vs h
theorem REnv.monoW {env : Env} {σ : L2.St} (r : REnv K as H env σ) (e : Wk K as H as' H') : REnv K as' H' env σ :=
  ⟨r.1, fun i d h => let ⟨v, h1, h2⟩ := r.2 i d h; ⟨v, h1, RV.monoW e d v h2⟩⟩
theorem REnv.mono {env : Env} {σ : L2.St} (r : REnv K as H env σ) (e : Ext K as H as' H') : REnv K as' H' env σ :=
  ⟨r.1, fun i d h => let ⟨v, h1, h2⟩ := r.2 i d h; ⟨v, h1, RV.mono e d v h2⟩⟩
theorem REnv.set {env : Env} {σ : L2.St} (r : REnv K as H env σ) {d : D} {v : V} (rv : RV K as H d v) (i : Nat) : REnv K as H (env.set i (some d)) (σ.set i (some v)) := by
  refine ⟨by rw [List.length_set, List.length_set]; exact r.1, fun j d' h => ?_⟩
  by_cases hj : i = j
  · subst hj
    by_cases hi : i < env.length
    · rw [List.getElem?_set_self hi] at h
      cases h
      exact ⟨v, by rw [List.getElem?_set_self (by rw [← r.1]; exact hi)], rv⟩
    · rw [List.getElem?_eq_none (by simpa using hi)] at h; cases h
  · rw [List.getElem?_set_ne hj] at h
    obtain ⟨w, h1, h2⟩ := r.2 j d' h
    exact ⟨w, by rw [List.getElem?_set_ne hj]; exact h1, h2⟩
theorem wipeE_length (env : Env) : ∀ vs, (wipeE env vs).length = env.length
  | [] => rfl
  | v :: vs => by unfold wipeE; rw [List.length_set, wipeE_length env vs]
theorem REnv.wipe {env : Env} {σ : L2.St} (r : REnv K as H env σ) : ∀ vs, REnv K as H (wipeE env vs) (wipe σ vs)
  | [] => r
  | v :: vs => by
    have ih := REnv.wipe r vs
    refine ⟨by unfold wipeE L2.wipe; rw [List.length_set, List.length_set]; exact ih.1, fun j d h => ?_⟩
    unfold wipeE at h
    unfold L2.wipe
    by_cases hj : v = j
    · subst hj
      by_cases hi : v < (wipeE env vs).length
      · rw [List.getElem?_set_self hi] at h; cases h
      · rw [List.getElem?_eq_none (by simpa using hi)] at h; cases h
    · rw [List.getElem?_set_ne hj] at h ⊢
      exact ih.2 j d h
theorem RVs.length : ∀ {ds : List D} {vs : List V}, RVs K as H ds vs → ds.length = vs.length
  | [], _, h => by have h : _ = [] := h; subst h; rfl
  | d :: ds, _, h => by
    obtain ⟨v, vs', rfl, _, h2⟩ := h
    rw [List.length_cons, List.length_cons, RVs.length h2]
theorem RVs.get : ∀ {ds : List D} {vs : List V} {i : Nat} {d : D}, RVs K as H ds vs → ds[i]? = some d → ∃ v, vs[i]? = some v ∧ RV K as H d v
  | [], _, _, _, _, e => by simp at e
  | x :: ds, _, 0, d, h, e => by
    obtain ⟨v, vs', rfl, h1, _⟩ := h
    cases e
    exact ⟨v, rfl, h1⟩
  | x :: ds, _, i + 1, d, h, e => by
    obtain ⟨v, vs', rfl, _, h2⟩ := h
    exact RVs.get (i := i) h2 (by simpa using e)
theorem RVs.none_of {ds : List D} {vs : List V} {i : Nat} (h : RVs K as H ds vs) (e : ds[i]? = none) : vs[i]? = none := by
  have := h.length
  rw [List.getElem?_eq_none_iff] at e ⊢
  omega
theorem RVs.append : ∀ {ds : List D} {vs : List V} {es : List D} {us : List V}, RVs K as H ds vs → RVs K as H es us → RVs K as H (ds ++ es) (vs ++ us)
  | [], _, _, _, h, h' => by have h : _ = [] := h; subst h; exact h'
  | d :: ds, _, _, _, h, h' => by
    obtain ⟨v, vs', rfl, h1, h2⟩ := h
    exact ⟨v, _, rfl, h1, RVs.append h2 h'⟩
theorem RVs.take : ∀ {ds : List D} {vs : List V} (n : Nat), RVs K as H ds vs → RVs K as H (ds.take n) (vs.take n)
  | _, _, 0, _ => rfl
  | [], _, n + 1, h => by have h : _ = [] := h; subst h; rfl
  | d :: ds, _, n + 1, h => by
    obtain ⟨v, vs', rfl, h1, h2⟩ := h
    exact ⟨v, _, rfl, h1, RVs.take n h2⟩
theorem RVs.drop : ∀ {ds : List D} {vs : List V} (n : Nat), RVs K as H ds vs → RVs K as H (ds.drop n) (vs.drop n)
  | _, _, 0, h => h
  | [], _, n + 1, h => by have h : _ = [] := h; subst h; rfl
  | d :: ds, _, n + 1, h => by
    obtain ⟨v, vs', rfl, h1, h2⟩ := h
    exact RVs.drop n h2
theorem RVs.set : ∀ {ds : List D} {vs : List V} {d : D} {v : V} (i : Nat), RVs K as H ds vs → RV K as H d v → RVs K as H (ds.set i d) (vs.set i v)
  | [], _, _, _, _, h, _ => by have h : _ = [] := h; subst h; rfl
  | _ :: ds, _, _, _, 0, h, r => by
    obtain ⟨v, vs', rfl, h1, h2⟩ := h
    exact ⟨_, _, rfl, r, h2⟩
  | _ :: ds, _, _, _, i + 1, h, r => by
    obtain ⟨v, vs', rfl, h1, h2⟩ := h
    exact ⟨_, _, rfl, h1, RVs.set i h2 r⟩
theorem RVs.eraseIdx {ds : List D} {vs : List V} (i : Nat) (h : RVs K as H ds vs) : RVs K as H (ds.eraseIdx i) (vs.eraseIdx i) := by
  rw [List.eraseIdx_eq_take_drop_succ, List.eraseIdx_eq_take_drop_succ]
  exact (h.take i).append (h.drop (i + 1))
theorem RVs.dropLast {ds : List D} {vs : List V} (h : RVs K as H ds vs) : RVs K as H ds.dropLast vs.dropLast := by
  rw [List.dropLast_eq_take, List.dropLast_eq_take, h.length]
  exact h.take _
theorem RVs.one {d : D} {v : V} (r : RV K as H d v) : RVs K as H [d] [v] := ⟨v, [], rfl, r, rfl⟩
theorem RVs.two {d e : D} {v u : V} (r : RV K as H d v) (r' : RV K as H e u) : RVs K as H [d, e] [v, u] := ⟨v, [u], rfl, r, RVs.one r'⟩
theorem RVs.reverse : ∀ {ds : List D} {vs : List V}, RVs K as H ds vs → RVs K as H ds.reverse vs.reverse
  | [], _, h => by have h : _ = [] := h; subst h; rfl
  | d :: ds, _, h => by
    obtain ⟨v, vs', rfl, h1, h2⟩ := h
    rw [List.reverse_cons, List.reverse_cons]
    exact (RVs.reverse h2).append (RVs.one h1)
theorem RVs.rep {ds : List D} {vs : List V} (h : RVs K as H ds vs) : ∀ k : Nat, RVs K as H (List.replicate k ds).flatten (List.replicate k vs).flatten
  | 0 => rfl
  | k + 1 => by
    rw [List.replicate_succ, List.replicate_succ, List.flatten_cons, List.flatten_cons]
    exact h.append (RVs.rep h k)
theorem RVs.isEmpty {ds : List D} {vs : List V} (h : RVs K as H ds vs) : ds.isEmpty = vs.isEmpty := by
  have := h.length
  cases ds <;> cases vs <;> simp_all

/-! ### new objects, objects changed -/
theorem sqT_upd {p : Addr} {ho : HO} (hp : ∀ vs, H p ≠ some (.tup vs)) (hf : ∀ o u, H p ≠ some (.frz o u)) {a : Addr} {vs : List V} (h : SqT K H a vs) : SqT K (upd H p ho) a vs := by
  rcases h with (h | ⟨o, h⟩) | h
  · exact .inl (.inl (by rw [upd_ne (fun z => hp vs (by rw [← z]; exact h))]; exact h))
  · exact .inl (.inr ⟨o, by rw [upd_ne (fun z => hf o (.tup vs) (by rw [← z]; exact h))]; exact h⟩)
  · exact .inr h
/-- a new object of any kind, none of the store's -/
theorem Ext.laid {p : Addr} {ho : HO} (hp : H p = none) : Ext K as H as (upd H p ho) :=
  ⟨⟨[], by simp, by simp⟩, fun a o _ h => by rw [upd_ne (fun z => by rw [z, hp] at h; cases h)]; exact h,
    fun a vs h => sqT_upd (fun vs z => by rw [hp] at z; cases z) (fun _ _ z => by rw [hp] at z; cases z) h,
    fun a o u h => by rw [upd_ne (fun z => by rw [z, hp] at h; cases h)]; exact h⟩
theorem RO.mono (e : Wk K as H as' H') {o : Ob} {a : Addr} (h : RO K as H o a) (hk : ∀ u, H a = some u → (o.mt = true ∨ ∃ o' u', u = .frz o' u') → H' a = some u) : RO K as' H' o a := by
  cases o with
  | lst ds =>
    obtain ⟨vs, h1, h2⟩ := h
    exact ⟨vs, hk _ h1 (.inl rfl), RVs.monoW e _ _ h2⟩
  | dct kvs =>
    obtain ⟨vs, h1, h2⟩ := h
    exact ⟨vs, hk _ h1 (.inl rfl), RKV.monoW e _ _ h2⟩
theorem RO.some_of {o : Ob} {a : Addr} (hm : o.mt = true) (h : RO K as H o a) : ∃ u, H a = some u ∧ Mut (some u) ∧ (∀ vs, u ≠ .tup vs) ∧ ∀ o' u', u ≠ .frz o' u' := by
  cases o with
  | lst ds =>
    obtain ⟨vs, h1, _⟩ := h
    refine ⟨HO.lst vs, h1, True.intro, ?_, ?_⟩
    · intro _ z; cases z
    · intro _ _ z; cases z
  | dct kvs =>
    obtain ⟨vs, h1, _⟩ := h
    refine ⟨HO.dK vs, h1, True.intro, ?_, ?_⟩
    · intro _ z; cases z
    · intro _ _ z; cases z
theorem Rel.get (r : Rel K as st H) {i : Nat} {o : Ob} (h : st[i]? = some o) : ∃ a, as[i]? = some a ∧ RO K as H o a := by
  obtain ⟨hi, _⟩ := List.getElem?_eq_some_iff.mp h
  have hi' : i < as.length := by rw [r.len]; exact hi
  exact ⟨as[i], List.getElem?_eq_getElem hi', r.at_ i o _ h (List.getElem?_eq_getElem hi')⟩
/-- the address is that of the store's object -/
theorem Rel.of_ref (r : Rel K as st H) {i : Nat} {o : Ob} {v : V} (h : st[i]? = some o) (hv : RV K as H (.ref i) v) : ∃ a, v = .ref a ∧ as[i]? = some a ∧ RO K as H o a := by
  obtain ⟨a, rfl, ha⟩ := hv
  exact ⟨a, rfl, ha, r.at_ i o a h ha⟩
theorem Rel.laid (r : Rel K as st H) {p : Addr} {ho : HO} (hp : H p = none) : Rel K as st (upd H p ho) :=
  ⟨r.len, fun i o a h1 h2 => (r.at_ i o a h1 h2).mono (Ext.laid hp).wk fun u h _ => by rw [upd_ne (fun z => by rw [z, hp] at h; cases h)]; exact h, r.inj⟩
/-- a new object of the store -/
theorem Ext.push {p : Addr} {ho : HO} (hp : H p = none) : Ext K as H (as ++ [p]) (upd H p ho) :=
  ⟨⟨[p], rfl, fun a ha => .inl (by simp at ha; rw [ha]; exact hp)⟩, fun a o _ h => by rw [upd_ne (fun z => by rw [z, hp] at h; cases h)]; exact h,
    fun a vs h => sqT_upd (fun vs z => by rw [hp] at z; cases z) (fun _ _ z => by rw [hp] at z; cases z) h,
    fun a o u h => by rw [upd_ne (fun z => by rw [z, hp] at h; cases h)]; exact h⟩
theorem get_snoc {α : Type} {l : List α} {x y : α} {i : Nat} (h : (l ++ [x])[i]? = some y) : l[i]? = some y ∨ (i = l.length ∧ x = y) := by
  by_cases hi : i < l.length
  · rw [List.getElem?_append_left hi] at h; exact .inl h
  · rw [List.getElem?_append_right (by omega)] at h
    by_cases h0 : i - l.length = 0
    · rw [h0] at h; cases h; exact .inr ⟨by omega, rfl⟩
    · rw [List.getElem?_eq_none (by simp; omega)] at h; cases h
theorem Rel.push (r : Rel K as st H) {p : Addr} {ho : HO} {o : Ob} (hp : H p = none) (new : RO K (as ++ [p]) (upd H p ho) o p) : Rel K (as ++ [p]) (st ++ [o]) (upd H p ho) := by
  refine ⟨by simp [r.len], fun i o' a h1 h2 => ?_, fun i j a o1 o2 h1 h2 m1 m2 h3 h4 => ?_⟩
  · rcases get_snoc h1 with h1 | ⟨rfl, rfl⟩
    · rcases get_snoc h2 with h2 | ⟨rfl, rfl⟩
      · exact (r.at_ i o' a h1 h2).mono (Ext.push hp).wk fun u h _ => by rw [upd_ne (fun z => by rw [z, hp] at h; cases h)]; exact h
      · have := (List.getElem?_eq_some_iff.mp h1).1
        rw [r.len] at this; omega
    · rw [← r.len] at h2
      rcases get_snoc h2 with h2 | ⟨_, rfl⟩
      · have := (List.getElem?_eq_some_iff.mp h2).1; omega
      · exact new
  · -- a tracked one of the elder is not the new one
    have old : ∀ (k : Nat) (ob : Ob), st[k]? = some ob → ob.mt = true → ∀ b, as[k]? = some b → b ≠ p := fun k ob hk hm b hb z => by
      obtain ⟨u, hu, _⟩ := RO.some_of hm (r.at_ k ob b hk hb)
      rw [z, hp] at hu; cases hu
    rcases get_snoc h1 with h1 | ⟨e1, f1⟩ <;> rcases get_snoc h2 with h2 | ⟨e2, f2⟩
    · rcases get_snoc h3 with h3 | ⟨e3, f3⟩ <;> rcases get_snoc h4 with h4 | ⟨e4, f4⟩
      · exact r.inj i j a o1 o2 h1 h2 m1 m2 h3 h4
      · exact absurd f4.symm (old i o1 h1 m1 a h3)
      · exact absurd f3.symm (old j o2 h2 m2 a h4)
      · omega
    · rcases get_snoc h3 with h3 | ⟨e3, f3⟩ <;> rcases get_snoc h4 with h4 | ⟨e4, f4⟩
      · have := (List.getElem?_eq_some_iff.mp h4).1; rw [r.len] at this; omega
      · exact absurd f4.symm (old i o1 h1 m1 a h3)
      · have := (List.getElem?_eq_some_iff.mp h1).1; rw [← r.len] at this; omega
      · omega
    · rcases get_snoc h3 with h3 | ⟨e3, f3⟩ <;> rcases get_snoc h4 with h4 | ⟨e4, f4⟩
      · have := (List.getElem?_eq_some_iff.mp h3).1; rw [r.len] at this; omega
      · have := (List.getElem?_eq_some_iff.mp h3).1; rw [r.len] at this; omega
      · exact absurd f3.symm (old j o2 h2 m2 a h4)
      · omega
    · omega
/-- an object of the store is changed -/
theorem Ext.write {a : Addr} {ho : HO} (ha : a ∈ as) (ht : ∀ vs, H a ≠ some (.tup vs)) (hf : ∀ o u, H a ≠ some (.frz o u)) : Ext K as H as (upd H a ho) :=
  ⟨⟨[], by simp, by simp⟩, fun b o hn h => by rw [upd_ne (fun z => hn (by rw [z]; exact ha))]; exact h, fun b vs h => sqT_upd ht hf h, fun b o u h => by rw [upd_ne (fun z => by rw [z] at h; exact hf o u h)]; exact h⟩
theorem Rel.write (r : Rel K as st H) {i : Nat} {a : Addr} {o o' : Ob} {ho : HO} (h : st[i]? = some o) (ha : as[i]? = some a) (hm : o.mt = true) (hm' : o'.mt = true)
    (new : Ext K as H as (upd H a ho) → RO K as (upd H a ho) o' a) : Rel K as (st.set i o') (upd H a ho) ∧ Ext K as H as (upd H a ho) := by
  obtain ⟨u, hu, _, ht, hf⟩ := RO.some_of hm (r.at_ i o a h ha)
  have e : Ext K as H as (upd H a ho) := Ext.write (List.mem_of_getElem? ha) (fun vs z => by rw [hu] at z; cases z; exact ht vs rfl) (fun o u' z => by rw [hu] at z; cases z; exact hf o u' rfl)
  obtain ⟨hi, _⟩ := List.getElem?_eq_some_iff.mp h
  refine ⟨⟨by rw [List.length_set]; exact r.len, fun j o2 b h1 h2 => ?_, fun j k b o1 o2 h1 h2 m1 m2 h3 h4 => ?_⟩, e⟩
  · by_cases hj : i = j
    · subst hj
      rw [List.getElem?_set_self hi] at h1
      cases h1
      rw [ha] at h2; cases h2
      exact new e
    · rw [List.getElem?_set_ne hj] at h1
      refine (r.at_ j o2 b h1 h2).mono e.wk fun u2 hu2 hor => ?_
      have hb : b ≠ a := by
        intro hb
        subst hb
        rcases hor with m2 | ⟨o3, u3, rfl⟩
        · exact hj (r.inj i j b o o2 h h1 hm m2 ha h2)
        · rw [hu] at hu2; cases hu2; exact hf _ _ rfl
      rw [upd_ne hb]; exact hu2
  · have back : ∀ (l : Nat) (ob : Ob), (st.set i o')[l]? = some ob → ob.mt = true → ∃ ob', st[l]? = some ob' ∧ ob'.mt = true := fun l ob hl hb => by
      by_cases hj : i = l
      · subst hj; exact ⟨o, h, hm⟩
      · rw [List.getElem?_set_ne hj] at hl; exact ⟨ob, hl, hb⟩
    obtain ⟨p1, q1, w1⟩ := back j o1 h1 m1
    obtain ⟨p2, q2, w2⟩ := back k o2 h2 m2
    exact r.inj j k b p1 p2 q1 q2 w1 w2 h3 h4

/-! ### an object that is tracked beside the store, and is taken into it later -/
theorem upd_self {H : Hp} {a : Addr} {o : HO} (h : H a = some o) : upd H a o = H := by
  funext b; unfold upd; split
  · rename_i e; rw [e, h]
  · rfl
theorem Ext.side {p : Addr} {u ho : HO} (e : Ext K as H as1 H1) (h0 : H p = none) (h1 : H1 p = some u) (hm : (∀ vs, u ≠ .tup vs) ∧ ∀ o w, u ≠ .frz o w) : Ext K as H as1 (upd H1 p ho) := by
  refine ⟨e.app, fun a o hn h => ?_, fun a vs h => sqT_upd (fun vs z => ?_) (fun o w z => ?_) (e.tup a vs h), fun a o w h => ?_⟩
  · rw [upd_ne (fun z => by rw [z, h0] at h; cases h)]; exact e.frm a o hn h
  · rw [h1] at z; cases z; exact hm.1 vs rfl
  · rw [h1] at z; cases z; exact hm.2 o w rfl
  · rw [upd_ne (fun z => by rw [z, h0] at h; cases h)]; exact e.frz a o w h
theorem Rel.side {p : Addr} {u ho : HO} (r : Rel K as st H) (hp : p ∉ as) (h1 : H p = some u) (hm : (∀ vs, u ≠ .tup vs) ∧ ∀ o w, u ≠ .frz o w) : Rel K as st (upd H p ho) := by
  have wk : Wk K as H as (upd H p ho) := ⟨fun _ _ h => h, fun a vs h => sqT_upd (fun vs z => by rw [h1] at z; cases z; exact hm.1 vs rfl) (fun o w z => by rw [h1] at z; cases z; exact hm.2 o w rfl) h, fun a o w h => by rw [upd_ne (fun z => by rw [z, h1] at h; cases h; exact hm.2 o w rfl)]; exact h⟩
  exact ⟨r.len, fun i o a h1 h2 => (r.at_ i o a h1 h2).mono wk fun u h _ => by rw [upd_ne (fun z => hp (by rw [← z]; exact List.mem_of_getElem? h2))]; exact h, r.inj⟩
theorem Wk.side {p : Addr} {u ho : HO} (h1 : H p = some u) (hm : (∀ vs, u ≠ .tup vs) ∧ ∀ o w, u ≠ .frz o w) : Wk K as H as (upd H p ho) :=
  ⟨fun _ _ h => h, fun a vs h => sqT_upd (fun vs z => by rw [h1] at z; cases z; exact hm.1 vs rfl) (fun o w z => by rw [h1] at z; cases z; exact hm.2 o w rfl) h, fun a o w h => by rw [upd_ne (fun z => by rw [z, h1] at h; cases h; exact hm.2 o w rfl)]; exact h⟩
theorem Ext.adopt {p : Addr} (e : Ext K as H as1 H1) (h0 : H p = none) : Ext K as H (as1 ++ [p]) H1 := by
  obtain ⟨l, rfl, hl⟩ := e.app
  refine ⟨⟨l ++ [p], by simp, fun a ha => ?_⟩, e.frm, e.tup, e.frz⟩
  rcases List.mem_append.mp ha with z | z
  · exact hl a z
  · simp at z; rw [z]; exact .inl h0
theorem Wk.snoc {p : Addr} : Wk K as H (as ++ [p]) H := ⟨fun i a h => by rw [List.getElem?_append_left (List.getElem?_eq_some_iff.mp h).1]; exact h, fun _ _ h => h, fun _ _ _ h => h⟩
theorem Rel.out (r : Rel K as st H) {p : Addr} (h : H p = none) : p ∉ as := fun hm => by
  obtain ⟨i, hi, e⟩ := List.getElem_of_mem hm
  have hi' : i < st.length := by rw [← r.len]; exact hi
  obtain ⟨u, hu, _⟩ := RO.some_of rfl (r.at_ i st[i] as[i] (List.getElem?_eq_getElem hi') (List.getElem?_eq_getElem hi))
  rw [e, h] at hu; cases hu
theorem Rel.adopt {p : Addr} {o : Ob} (r : Rel K as st H) (hp : p ∉ as) (new : RO K (as ++ [p]) H o p) : Rel K (as ++ [p]) (st ++ [o]) H := by
  refine ⟨by simp [r.len], fun i o' a h1 h2 => ?_, fun i j a o1 o2 h1 h2 m1 m2 h3 h4 => ?_⟩
  · rcases get_snoc h1 with h1 | ⟨rfl, rfl⟩
    · rcases get_snoc h2 with h2 | ⟨rfl, rfl⟩
      · exact (r.at_ i o' a h1 h2).mono Wk.snoc fun u h _ => h
      · have := (List.getElem?_eq_some_iff.mp h1).1
        rw [r.len] at this; omega
    · rw [← r.len] at h2
      rcases get_snoc h2 with h2 | ⟨_, rfl⟩
      · have := (List.getElem?_eq_some_iff.mp h2).1; omega
      · exact new
  · have old : ∀ (k : Nat) (b : Addr), as[k]? = some b → b ≠ p := fun k b hb z => hp (by rw [← z]; exact List.mem_of_getElem? hb)
    have l := r.len
    have lt : ∀ (k : Nat) (b : Addr), as[k]? = some b → k < as.length := fun k b hb => (List.getElem?_eq_some_iff.mp hb).1
    have lt2 : ∀ (k : Nat) (b : Ob), st[k]? = some b → k < st.length := fun k b hb => (List.getElem?_eq_some_iff.mp hb).1
    rcases get_snoc h3 with h3 | ⟨e3, f3⟩ <;> rcases get_snoc h4 with h4 | ⟨e4, f4⟩
    · rcases get_snoc h1 with h1 | ⟨e1, f1⟩ <;> rcases get_snoc h2 with h2 | ⟨e2, f2⟩
      · exact r.inj i j a o1 o2 h1 h2 m1 m2 h3 h4
      · have := lt j a h4; omega
      · have := lt i a h3; omega
      · omega
    · exact absurd f4.symm (old i a h3)
    · exact absurd f3.symm (old j a h4)
    · omega
end
end PL

set_option Elab.async false
set_option linter.all false
set_option maxRecDepth 100000
set_option maxHeartbeats 1000000
/-! PLC: what operations of the layer come to, by data. -/
namespace PL
open PySem PySem.Spec PyProof.Rows L2

/-- whatever the result is, P holds of it behind -/
def Good {α : Type} (K : PySem.W.Frag) (P : α → List Addr → Hp → Prop) (as : List Addr) (H : Hp) : Res α → Prop
  | .ok a st' => ∀ as' H', Ext K as H as' H' → Rel K as' st' H' → P a as' H'
  | _ => False
abbrev PE' (K : PySem.W.Frag) (Q : VK) : D → List Addr → Hp → Prop := fun d as' H' => ∀ v, RV K as' H' d v → Q v H'
abbrev PL' (K : PySem.W.Frag) (Q : List V → Hp → Prop) : List D → List Addr → Hp → Prop := fun ds as' H' => ∀ vs, RVs K as' H' ds vs → Q vs H'
abbrev GE (K : PySem.W.Frag) (Q : VK) (as : List Addr) (H : Hp) (r : Res D) : Prop := Good K (PE' K Q) as H r
section
variable {α β : Type} {K : PySem.W.Frag} {as as1 as' : List Addr} {H H1 H' : Hp} {st st1 : Sto}
theorem Good.imp {P P' : α → List Addr → Hp → Prop} {r : Res α} (h : Good K P as H r) (f : ∀ a as' H', Ext K as H as' H' → P a as' H' → P' a as' H') : Good K P' as H r := by
  cases r with
  | ok a st' => exact fun as' H' e r => f a as' H' e (h as' H' e r)
  | exc _ _ _ => exact h
  | bad => exact h
theorem Good.mono {P : α → List Addr → Hp → Prop} {r : Res α} (h : Good K P as H r) (e : Ext K as H as1 H1) : Good K P as1 H1 r := by
  cases r with
  | ok a st' => exact fun as' H' e' r => h as' H' (e.trans e') r
  | exc _ _ _ => exact h
  | bad => exact h
theorem Good.bind {P : β → List Addr → Hp → Prop} {r : Res α} {k : α → Sto → Res β} (h : Good K P as H (r.bind k)) :
    Good K (fun a as1 H1 => ∃ st1, Ext K as H as1 H1 ∧ Rel K as1 st1 H1 ∧ Good K P as1 H1 (k a st1)) as H r := by
  cases r with
  | ok a st' => exact fun as1 H1 e r => ⟨st', e, r, Good.mono (r := k a st') h e⟩
  | exc _ _ _ => exact h
  | bad => exact h
theorem Good.eq {P : α → List Addr → Hp → Prop} {r : Res α} (h : Good K P as H r) : Good K (fun a as1 H1 => ∃ st1, r = .ok a st1 ∧ Ext K as H as1 H1 ∧ Rel K as1 st1 H1 ∧ P a as1 H1) as H r := by
  cases r with
  | ok a st' => exact fun as1 H1 e r => ⟨st', rfl, e, r, h as1 H1 e r⟩
  | exc _ _ _ => exact h
  | bad => exact h
/-- the result is at hand -/
theorem Good.here {P : α → List Addr → Hp → Prop} {a : α} (h : Good K P as H (.ok a st)) (r : Rel K as st H) : P a as H := h as H Ext.refl r
theorem Good.lift {P : α → List Addr → Hp → Prop} {o : Option α} (h : Good K P as H (liftO o st)) : ∃ a, o = some a ∧ Good K P as H (.ok a st) := by
  cases o with
  | some a => exact ⟨a, rfl, h⟩
  | none => exact h.elim
/-- a new list is at hand -/
theorem GE.newL {Q : VK} {ds : List D} {vs : List V} (h : GE K Q as H (.ok (.ref st.length) (st ++ [.lst ds]))) (r : Rel K as st H) (rv : RVs K as H ds vs) :
    ∀ p, H p = none → Q (.ref p) (upd H p (.lst vs)) := fun p hp => by
  have e : Ext K as H (as ++ [p]) (upd H p (.lst vs)) := Ext.push hp
  refine h _ _ e (r.push hp ⟨vs, upd_same, RVs.mono e _ _ rv⟩) _ ⟨p, rfl, ?_⟩
  rw [List.getElem?_append_right (by rw [r.len]; exact Nat.le_refl _), r.len]; simp
theorem GE.newT {Q : VK} {ds : List D} {vs : List V} (h : GE K Q as H (.ok (.tup ds) st)) (r : Rel K as st H) (rv : RVs K as H ds vs) :
    ∀ p, H p = none → Q (.ref p) (upd H p (.tup vs)) := fun p hp =>
  have e : Ext K as H as (upd H p (.tup vs)) := Ext.laid hp
  h _ _ e (r.laid hp) _ ⟨p, vs, rfl, SqT.of upd_same, RVs.mono e _ _ rv⟩
theorem rv_ref {n : Nat} {v : V} {o : Ob} (r : Rel K as st H) (h : st[n]? = some o) (hv : RV K as H (.ref n) v) : ∃ a, v = .ref a ∧ as[n]? = some a ∧ RO K as H o a := r.of_ref h hv
/-- a list of the store, or the script -/
theorem ro_seq {o : Ob} {a : Addr} {xs : List D} (h : RO K as H o a) (ho : o = .lst xs) : ∃ vs, SqL K H a vs ∧ RVs K as H xs vs := by
  subst ho
  obtain ⟨vs, h1, h2⟩ := h; exact ⟨vs, SqL.of h1, h2⟩
end

/-! ### data read by the library -/
section
variable {X : Cx} {pins : List (Addr × Obj)} {σ : L2.St} {H : Hp} {s : Shared} {as : List Addr} {st : Sto}
theorem depthAll_le {n : Nat} : ∀ {ps : List PyData}, (∀ p ∈ ps, p.depth ≤ n) → PyData.depthAll ps ≤ n
  | [], _ => Nat.zero_le _
  | p :: ps, h => by
    rw [PyData.depthAll]
    exact Nat.max_le.mpr ⟨h p List.mem_cons_self, depthAll_le fun q hq => h q (List.mem_cons_of_mem _ hq)⟩
theorem readsAll_of {n : Nat} (ih : ∀ (d : D) (p : PyData) (v : V) (u : Value), toPy st n d = some p → RV X.K as H d v → RelV v u → (∃ bs, Reads s.heap u p bs) ∧ p.depth ≤ n) :
    ∀ (ds : List D) (ps : List PyData) (vs : List V) (us : List Value), optMap (toPy st n) ds = some ps → RVs X.K as H ds vs → Vals vs us → (∃ bs, ReadsAll s.heap us ps bs) ∧ ∀ p ∈ ps, p.depth ≤ n
  | [], _, _, _, h, hv, hu => by
    cases h
    have hv : _ = [] := hv
    subst hv
    cases hu
    exact ⟨⟨_, .nil⟩, by simp⟩
  | d :: ds, ps, vs, us, h, hv, hu => by
    obtain ⟨v, vs', rfl, h1, h2⟩ := hv
    cases hu with
    | cons r1 r2 =>
      unfold optMap at h
      cases e1 : toPy st n d with
      | none => rw [e1] at h; cases h
      | some p =>
        rw [e1] at h
        cases e2 : optMap (toPy st n) ds with
        | none => rw [e2] at h; cases h
        | some r =>
          rw [e2] at h
          cases h
          obtain ⟨⟨b1, q1⟩, q2⟩ := ih d p v _ e1 h1 r1
          obtain ⟨⟨b2, q3⟩, q4⟩ := readsAll_of ih ds r vs' _ e2 h2 r2
          exact ⟨⟨_, .cons q1 q3⟩, fun z hz => by
            rcases List.mem_cons.mp hz with rfl | hz
            · exact q2
            · exact q4 z hz⟩
theorem reads_of (I : Inv X pins σ H s) (rel : Rel X.K as st H) : ∀ (n : Nat) (d : D) (p : PyData) (v : V) (u : Value), toPy st n d = some p → RV X.K as H d v → RelV v u → (∃ bs, Reads s.heap u p bs) ∧ p.depth ≤ n := by
  intro n
  induction n with
  | zero =>
    intro d p v u h hv hu
    cases d <;> simp only [toPy] at h <;> first | (cases h; done) | skip
    all_goals (cases h; have hv : v = _ := hv; subst hv)
    · cases hu; exact ⟨⟨_, .none⟩, Nat.le_refl _⟩
    · cases hu; exact ⟨⟨_, .bool _⟩, Nat.le_refl _⟩
    · obtain ⟨t, rfl⟩ := hu; exact ⟨⟨_, .int _ _⟩, Nat.le_refl _⟩
    · obtain ⟨t, rfl⟩ := hu; exact ⟨⟨_, .str _ _⟩, Nat.le_refl _⟩
  | succ n ih =>
    intro d p v u h hv hu
    cases d with
    | non => cases h; have hv : v = _ := hv; subst hv; cases hu; exact ⟨⟨_, .none⟩, Nat.zero_le _⟩
    | bl b => cases h; have hv : v = _ := hv; subst hv; cases hu; exact ⟨⟨_, .bool _⟩, Nat.zero_le _⟩
    | int i => cases h; have hv : v = _ := hv; subst hv; obtain ⟨t, rfl⟩ := hu; exact ⟨⟨_, .int _ _⟩, Nat.zero_le _⟩
    | str x => cases h; have hv : v = _ := hv; subst hv; obtain ⟨t, rfl⟩ := hu; exact ⟨⟨_, .str _ _⟩, Nat.zero_le _⟩
    | rep _ => simp [toPy] at h
    | tup xs =>
      simp only [toPy] at h
      obtain ⟨ps, e, rfl⟩ := Option.map_eq_some_iff.mp h
      obtain ⟨a, vs, rfl, ht, hs⟩ := hv
      cases hu
      obtain ⟨its, rv, ⟨o, h1, h2, nn, h3⟩, _⟩ := I.tuple ht
      obtain ⟨⟨bs, q⟩, dq⟩ := readsAll_of ih xs ps vs its e hs rv
      refine ⟨⟨_, .tuple h1 h2 h3 q⟩, ?_⟩
      rw [PyData.depth]
      exact Nat.succ_le_succ (depthAll_le dq)
    | scr xs =>
      simp only [toPy] at h
      obtain ⟨ps, e, rfl⟩ := Option.map_eq_some_iff.mp h
      obtain ⟨a, vs, rfl, hl, hs⟩ := hv
      cases hu
      obtain ⟨its, rv, ⟨o, nn, h1, h2, _, h3⟩, _⟩ := I.list hl.l
      obtain ⟨⟨bs, q⟩, dq⟩ := readsAll_of ih xs ps vs its e hs rv
      refine ⟨⟨_, .list h1 h2 h3 q⟩, ?_⟩
      rw [PyData.depth]
      exact Nat.succ_le_succ (depthAll_le dq)
    | ref r =>
      simp only [toPy] at h
      split at h
      · rename_i xs ho
        obtain ⟨ps, e, rfl⟩ := Option.map_eq_some_iff.mp h
        obtain ⟨a, rfl, _, hro⟩ := rv_ref rel ho hv
        cases hu
        obtain ⟨vs, hl, hs⟩ := ro_seq hro rfl
        obtain ⟨its, rv, ⟨o, nn, h1, h2, _, h3⟩, _⟩ := I.list hl
        obtain ⟨⟨bs, q⟩, dq⟩ := readsAll_of ih xs ps vs its e hs rv
        refine ⟨⟨_, .list h1 h2 h3 q⟩, ?_⟩
        rw [PyData.depth]
        exact Nat.succ_le_succ (depthAll_le dq)
      · cases h
end

/-! ### texts of data -/
theorem str_len_append (a b : Str) : (a ++ b).length = a.length + b.length := strLen_append a b
theorem join_len (sep : Str) (n : Nat) (hn : sep.length ≤ n) : ∀ ts : List Str, (Str.join sep ts).length ≤ (ts.map fun t => t.length + n).sum
  | [] => by show Str.empty.length ≤ _; exact Nat.zero_le _
  | [x] => by show x.length ≤ _; simp
  | x :: y :: r => by
    have ih := join_len sep n hn (y :: r)
    have e : Str.join sep (x :: y :: r) = x ++ sep ++ Str.join sep (y :: r) := rfl
    rw [e, str_len_append, str_len_append, List.map_cons, List.sum_cons]
    omega
theorem costAll_eq : ∀ xs : List PyData, showCost.costAll xs = (xs.map fun x => showCost x + 2).sum
  | [] => by simp [showCost.costAll]
  | x :: xs => by rw [showCost.costAll, costAll_eq xs, List.map_cons, List.sum_cons]
mutual
theorem shown_len : ∀ d : PyData, d.canLay0 = true → d.shown.length ≤ showCost d
  | .none, _ => by rw [PyData.shown_none]; decide
  | .bool b, _ => by rw [PyData.shown_bool]; cases b <;> decide
  | .int i, _ => by
    rw [PyData.shown_int, showCost]
    have := int_text_length_le (a := i) (k := i.natAbs.log2 + 1) (Nat.succ_pos _) (Nat.lt_succ_self _)
    have e : ((toString i : String) : Str).length = (toString i).length := by
      exact PySem.ofString_length _
    rw [e]; exact this
  | .str x, h => by
    rw [PyData.shown_str, showCost]
    refine StrLaws.reprText_len x fun c hc => ?_
    have h' : PyData.strOk x = true := by simpa [PyData.canLay0] using h
    unfold PyData.strOk at h'
    rw [Array.all_eq_true_iff_forall_mem] at h'
    have := h' c (by simpa using hc)
    have : c < 0x110000 := by simpa using this
    omega
  | .list xs, h => by
    have ih := shownAll_len xs (by simpa [PyData.canLay0] using h)
    rw [PyData.shown_list, showCost, costAll_eq, str_len_append, str_len_append]
    have := join_len ", " 2 (by decide) (PyData.shownAll xs)
    have e1 : ("[" : Str).length = 1 := by decide
    have e2 : ("]" : Str).length = 1 := by decide
    omega
  | .tuple xs, h => by
    have ih := shownAll_len xs (by simpa [PyData.canLay0] using h)
    rw [PyData.shown_tuple, showCost, costAll_eq, str_len_append, str_len_append]
    have := join_len ", " 2 (by decide) (PyData.shownAll xs)
    have e1 : ("(" : Str).length = 1 := by decide
    have e2 : ((if xs.length == 1 then ",)" else ")" : String) : Str).length ≤ 2 := by split <;> decide
    omega
  | .dict _, h => by simp [PyData.canLay0] at h
theorem shownAll_len : ∀ xs : List PyData, PyData.canLayAll0 xs = true → ((PyData.shownAll xs).map fun t => t.length + 2).sum ≤ (xs.map fun x => showCost x + 2).sum
  | [], _ => by rw [PyData.shownAll_nil]; simp
  | x :: xs, h => by
    have h' : x.canLay0 = true ∧ PyData.canLayAll0 xs = true := by simpa [PyData.canLayAll0] using h
    rw [PyData.shownAll_cons, List.map_cons, List.map_cons, List.sum_cons, List.sum_cons]
    have := shown_len x h'.1
    have := shownAll_len xs h'.2
    omega
end
mutual
theorem same_eq : ∀ a b : PyData, same a b = true → a = b
  | .none, b, h => by cases b <;> simp [same] at h <;> rfl
  | .bool x, b, h => by cases b <;> simp [same] at h; rw [h]
  | .int x, b, h => by cases b <;> simp [same] at h; rw [h]
  | .str x, b, h => by cases b <;> simp [same] at h; rw [h]
  | .list x, b, h => by cases b <;> simp [same] at h; rw [sameAll_eq x _ h]
  | .tuple x, b, h => by cases b <;> simp [same] at h; rw [sameAll_eq x _ h]
  | .dict _, b, h => by cases b <;> simp [same] at h
theorem sameAll_eq : ∀ a b : List PyData, sameAll a b = true → a = b
  | [], b, h => by cases b <;> simp [sameAll] at h; rfl
  | x :: xs, b, h => by
    cases b with
    | nil => simp [sameAll] at h
    | cons y ys =>
      have h' : same x y = true ∧ sameAll xs ys = true := by simpa [sameAll] using h
      rw [same_eq x y h'.1, sameAll_eq xs ys h'.2]
end

/-! ### binary operators -/
def Bop.op : Bop → Operator
  | .add => .Add | .sub => .Sub | .mul => .Mult | .fdiv => .FloorDiv | .md => .Mod | .pow => .Pow
def rU2 (K : PySem.W.Frag) (f : D → D → Sto → Res D) : R2 := fun v u H Q => ∃ as st x y, Rel K as st H ∧ RV K as H x v ∧ RV K as H y u ∧ GE K Q as H (f x y st)
section
variable {X : Cx}
theorem lst_of {K : PySem.W.Frag} {as : List Addr} {H : Hp} {st : Sto} {n : Nat} {v : V} {xs : List D} (r : Rel K as st H) (h : st[n]? = some (.lst xs)) (hv : RV K as H (.ref n) v) :
    ∃ a vs, v = .ref a ∧ as[n]? = some a ∧ H a = some (.lst vs) ∧ RVs K as H xs vs := by
  obtain ⟨a, rfl, ha, vs, h1, h2⟩ := r.of_ref h hv
  exact ⟨a, vs, rfl, ha, h1, h2⟩
theorem cmul_of {i j : Int} (h : (small64 i || small64 j) = true) : CMul i j := by
  simp only [small64, Bool.or_eq_true, Bool.and_eq_true, decide_eq_true_eq] at h
  exact h
theorem op_bin (op : Bop) : OpR X (binaryOp op.op) (rU2 X.K (binD op)) := by
  intro pins s σ H v u vv uu Q I rv ru h
  obtain ⟨as, st, x, y, rel, rx, ry, g⟩ := h
  unfold binD at g
  split at g
  · have rx : v = _ := rx; have ry : u = _ := ry; subst rx; subst ry
    exact op_add pins s σ H _ _ _ _ Q I rv ru ⟨_, _, rfl, rfl, g.here rel _ rfl⟩
  · have rx : v = _ := rx; have ry : u = _ := ry; subst rx; subst ry
    exact op_sub pins s σ H _ _ _ _ Q I rv ru ⟨_, _, rfl, rfl, g.here rel _ rfl⟩
  · have rx : v = _ := rx; have ry : u = _ := ry; subst rx; subst ry
    split at g
    · rename_i hc
      exact op_mul pins s σ H _ _ _ _ Q I rv ru ⟨_, _, rfl, rfl, cmul_of hc, g.here rel _ rfl⟩
    · exact g.elim
  · have rx : v = _ := rx; have ry : u = _ := ry; subst rx; subst ry
    split at g
    · rename_i hc
      simp only [Bool.and_eq_true, decide_eq_true_eq] at hc
      exact op_fdiv pins s σ H _ _ _ _ Q I rv ru ⟨_, _, rfl, rfl, hc, g.here rel _ rfl⟩
    · exact g.elim
  · have rx : v = _ := rx; have ry : u = _ := ry; subst rx; subst ry
    split at g
    · rename_i hc
      exact op_mod pins s σ H _ _ _ _ Q I rv ru ⟨_, _, rfl, rfl, of_decide_eq_true hc, g.here rel _ rfl⟩
    · exact g.elim
  · have rx : v = _ := rx; have ry : u = _ := ry; subst rx; subst ry
    split at g
    · rename_i hc
      simp only [Bool.and_eq_true, decide_eq_true_eq] at hc
      exact op_pow pins s σ H _ _ _ _ Q I rv ru ⟨_, _, rfl, rfl, hc, g.here rel _ rfl⟩
    · exact g.elim
  · have rx : v = _ := rx; have ry : u = _ := ry; subst rx; subst ry
    split at g
    · rename_i hc
      exact op_add_str pins s σ H _ _ _ _ Q I rv ru ⟨_, _, rfl, rfl, hc, g.here rel _ rfl⟩
    · exact g.elim
  · rename_i xs ys
    obtain ⟨a, vs, rfl, h1, h2⟩ := rx
    obtain ⟨b, us, rfl, h3, h4⟩ := ry
    split at g
    · rename_i hc
      refine op_catA pins s σ H _ _ _ _ Q I rv ru ⟨a, b, vs, us, rfl, rfl, h1, h3, by rw [← h2.length, ← h4.length]; exact hc, fun e => ?_, fun _ e => ?_, fun _ _ => g.newT rel (h2.append h4)⟩
      · have := h2.length; rw [e] at this
        have : xs = [] := List.length_eq_zero_iff.mp this
        subst this
        exact g.here rel _ ⟨b, us, rfl, h3, h4⟩
      · have := h4.length; rw [e] at this
        have : ys = [] := List.length_eq_zero_iff.mp this
        subst this
        rw [List.append_nil] at g
        exact g.here rel _ ⟨a, vs, rfl, h1, h2⟩
    · exact g.elim
  · split at g
    · rename_i xs ys e1 e2
      obtain ⟨a, vs, rfl, _, h1, h2⟩ := lst_of rel e1 rx
      obtain ⟨b, us, rfl, _, h3, h4⟩ := lst_of rel e2 ry
      split at g
      · rename_i hc
        exact op_cat pins s σ H _ _ _ _ Q I rv ru ⟨a, b, vs, us, rfl, rfl, h1, h3, by rw [← h2.length, ← h4.length]; exact hc, g.newL rel (h2.append h4)⟩
      · exact g.elim
    · exact g.elim
  · split at g
    · rename_i xs e1
      obtain ⟨a, vs, rfl, _, h1, h2⟩ := lst_of rel e1 rx
      have ry : u = _ := ry; subst ry
      split at g
      · rename_i hc
        simp only [Bool.and_eq_true, decide_eq_true_eq] at hc
        exact op_rep pins s σ H _ _ _ _ Q I rv ru ⟨a, _, vs, rfl, rfl, h1, hc.1, hc.2.1, by rw [← h2.length]; exact hc.2.2, g.newL rel (h2.rep _)⟩
      · exact g.elim
    · exact g.elim
  · exact g.elim

/-! ### truth -/
theorem truV_of {K : PySem.W.Frag} {as : List Addr} {H : Hp} {st : Sto} {d : D} {v : V} {b : Bool} (rel : Rel K as st H) (h : truth st d = some b) (rv : RV K as H d v) : TruV K v H b := by
  unfold truth at h
  split at h
  · cases h; have rv : v = _ := rv; subst rv; rfl
  · cases h; have rv : v = _ := rv; subst rv; rfl
  · cases h; have rv : v = _ := rv; subst rv; rfl
  · have rv : v = _ := rv; subst rv
    split at h
    · rename_i hc; cases h; exact ⟨hc, rfl⟩
    · cases h
  · cases h
    obtain ⟨a, vs, rfl, h1, h2⟩ := rv
    exact .inr (.inl ⟨vs, h1, by rw [h2.isEmpty]⟩)
  · cases h
    obtain ⟨a, vs, rfl, h1, h2⟩ := rv
    exact .inl ⟨vs, h1.l, by rw [h2.isEmpty]⟩
  · split at h
    · rename_i e; cases h
      obtain ⟨a, rfl, _, hro⟩ := rel.of_ref e rv
      obtain ⟨vs, h1, h2⟩ := ro_seq hro rfl
      exact .inl ⟨vs, h1, by rw [h2.isEmpty]⟩
    · rename_i kvs e; cases h
      obtain ⟨a, rfl, _, vs, h1, h2⟩ := rel.of_ref e rv
      refine .inr (.inr ⟨vs, h1, ?_⟩)
      cases kvs with
      | nil => have h2 : vs = [] := h2; subst h2; rfl
      | cons _ _ => obtain ⟨_, _, rfl, _, _⟩ := h2; rfl
    · cases h
  · cases h

/-! ### comparisons -/
def Cop.op : Cop → CmpOp
  | .eq => .Eq | .ne => .NotEq | .lt => .Lt | .le => .LtE | .gt => .Gt | .ge => .GtE | .isn => .Is | .isnn => .IsNot | .isin => .In | .notin => .NotIn
def rC2 (K : PySem.W.Frag) (op : Cop) : R2 := fun v u H Q => ∃ as st x y b, Rel K as st H ∧ RV K as H x v ∧ RV K as H y u ∧ cmpD op x y st = some b ∧ Q (.bl b) H
/-- == of data -/
theorem eq_run {pins : List (Addr × Obj)} {s : Shared} {σ : L2.St} {H : Hp} {v u : V} {vv uu : Value} {Q : VK} (hu : X.A.units + 64 < cLine) (I : Inv X pins σ H s) (rv : RelV v vv) (ru : RelV u uu)
    {as : List Addr} {st : Sto} {x y : D} {b : Bool} (rel : Rel X.K as st H) (rx : RV X.K as H x v) (ry : RV X.K as H y u) (e : eqD st x y = some b) :
    (Q (.bl b) H → wpAny (model X.prog X.w) X.A (compareOp .Eq vv uu) (EP X pins σ Q) X.xe s) ∧ (Q (.bl (!b)) H → wpAny (model X.prog X.w) X.A (compareOp .NotEq vv uu) (EP X pins σ Q) X.xe s) := by
  have scal_case : ∀ k : Bool, scal v u = true → k = decide (v = u) → (Q (.bl k) H → wpAny (model X.prog X.w) X.A (compareOp .Eq vv uu) (EP X pins σ Q) X.xe s) ∧ (Q (.bl (!k)) H → wpAny (model X.prog X.w) X.A (compareOp .NotEq vv uu) (EP X pins σ Q) X.xe s) := fun k hs hk => by
    subst hk
    exact ⟨fun q => op_eq pins s σ H _ _ _ _ Q I rv ru ⟨hs, q⟩, fun q => op_ne pins s σ H _ _ _ _ Q I rv ru ⟨hs, q⟩⟩
  have gen : ∀ p q, toPy st 60 x = some p → toPy st 60 y = some q → (if p.canLay0 && q.canLay0 then some (PyData.eqv p q) else none) = some b →
      (Q (.bl b) H → wpAny (model X.prog X.w) X.A (compareOp .Eq vv uu) (EP X pins σ Q) X.xe s) ∧ (Q (.bl (!b)) H → wpAny (model X.prog X.w) X.A (compareOp .NotEq vv uu) (EP X pins σ Q) X.xe s) := fun p q e1 e2 e => by
    split at e
    · rename_i hc
      simp only [Bool.and_eq_true] at hc
      cases e
      obtain ⟨⟨bs, q1⟩, d1⟩ := reads_of I rel 60 x p v vv e1 rx rv
      obtain ⟨⟨cs, q2⟩, d2⟩ := reads_of I rel 60 y q u uu e2 ry ru
      have s1 : SeqAt.shaped p = true := by unfold SeqAt.shaped; rw [hc.1, decide_eq_true (Nat.le_trans d1 (by decide))]; rfl
      have s2 : SeqAt.shaped q = true := by unfold SeqAt.shaped; rw [hc.2, decide_eq_true (Nat.le_trans d2 (by decide))]; rfl
      exact ⟨fun k => SeqAt.compareEq_shaped q1 q2 s1 s2 hu ⟨.bl _, H, I, rfl, k⟩, fun k => SeqAt.compareNe_shaped q1 q2 s1 s2 hu ⟨.bl _, H, I, rfl, k⟩⟩
    · cases e
  unfold eqD at e
  split at e
  · split at e
    · rename_i hs; cases e
      have he := same_eq _ _ hs
      subst he
      have rx : v = _ := rx; have ry : u = _ := ry; subst rx; subst ry
      exact scal_case true rfl (by simp)
    · cases e
  · cases e; have rx : v = _ := rx; have ry : u = _ := ry; subst rx; subst ry
    exact scal_case _ rfl (by simp)
  · cases e; have rx : v = _ := rx; have ry : u = _ := ry; subst rx; subst ry
    exact scal_case _ rfl (by simp)
  · cases e; have rx : v = _ := rx; have ry : u = _ := ry; subst rx; subst ry
    exact scal_case _ rfl (by simp)
  · cases e; have rx : v = _ := rx; have ry : u = _ := ry; subst rx; subst ry
    exact scal_case _ rfl (by simp)
  · cases e; have rx : v = _ := rx; have ry : u = _ := ry; subst rx; subst ry
    exact scal_case _ rfl (by simp)
  · cases e; have rx : v = _ := rx; have ry : u = _ := ry; subst rx; subst ry
    exact scal_case _ rfl (by simp)
  · cases e; have rx : v = _ := rx; have ry : u = _ := ry; subst rx; subst ry
    exact scal_case _ rfl (by simp)
  · cases e; have rx : v = _ := rx; have ry : u = _ := ry; subst rx; subst ry
    exact scal_case _ rfl (by simp)
  · cases e; have rx : v = _ := rx; have ry : u = _ := ry; subst rx; subst ry
    exact scal_case _ rfl (by simp)
  · cases e; have rx : v = _ := rx; have ry : u = _ := ry; subst rx; subst ry
    exact scal_case _ rfl (by cases ‹Bool› <;> cases ‹Bool› <;> rfl)
  · split at e
    · rename_i e1 e2; exact gen _ _ e1 e2 e
    · cases e

theorem in_run {pins : List (Addr × Obj)} {s : Shared} {σ : L2.St} {H : Hp} {v u : V} {vv uu : Value} {Q : VK} (hu : X.A.units + 65 < cLine) (I : Inv X pins σ H s) (rv : RelV v vv) (ru : RelV u uu)
    {as : List Addr} {st : Sto} {x y : D} {b : Bool} (rel : Rel X.K as st H) (rx : RV X.K as H x v) (ry : RV X.K as H y u) (e : inD st x y = some b) :
    (Q (.bl b) H → wpAny (model X.prog X.w) X.A (compareOp .In vv uu) (EP X pins σ Q) X.xe s) ∧ (Q (.bl (!b)) H → wpAny (model X.prog X.w) X.A (compareOp .NotIn vv uu) (EP X pins σ Q) X.xe s) := by
  unfold inD at e
  split at e
  · rename_i p ys e1 e2
    split at e
    · rename_i hc
      simp only [Bool.and_eq_true] at hc
      cases e
      obtain ⟨⟨bs, q1⟩, d1⟩ := reads_of I rel 60 x p v vv e1 rx rv
      obtain ⟨⟨cs, q2⟩, d2⟩ := reads_of I rel 60 y _ u uu e2 ry ru
      have hr : X.A.units + 1 + min (PyData.depthAll ys) p.depth < cLine := by
        have := Nat.min_le_right (PyData.depthAll ys) p.depth; omega
      exact ⟨fun k => SeqAt.in_list_reads q2 q1 hc.2 hc.1 hr ⟨.bl _, H, I, rfl, k⟩, fun k => SeqAt.notIn_list_reads q2 q1 hc.2 hc.1 hr ⟨.bl _, H, I, rfl, k⟩⟩
    · cases e
  · rename_i p ys e1 e2
    split at e
    · rename_i hc
      simp only [Bool.and_eq_true] at hc
      cases e
      obtain ⟨⟨bs, q1⟩, d1⟩ := reads_of I rel 60 x p v vv e1 rx rv
      obtain ⟨⟨cs, q2⟩, d2⟩ := reads_of I rel 60 y _ u uu e2 ry ru
      have hr : X.A.units + 1 + min (PyData.depthAll ys) p.depth < cLine := by
        have := Nat.min_le_right (PyData.depthAll ys) p.depth; omega
      exact ⟨fun k => SeqAt.in_tuple_reads q2 q1 hc.2 hc.1 hr ⟨.bl _, H, I, rfl, k⟩, fun k => SeqAt.notIn_tuple_reads q2 q1 hc.2 hc.1 hr ⟨.bl _, H, I, rfl, k⟩⟩
    · cases e
  · cases e
theorem rv_non {K : PySem.W.Frag} {as : List Addr} {H : Hp} {d : D} {v : V} (rv : RV K as H d v) (h : d ≠ .non) : v ≠ .non := by
  cases d with
  | non => exact absurd rfl h
  | tup ds => obtain ⟨a, vs, rfl, _⟩ := rv; intro z; cases z
  | ref n => obtain ⟨a, rfl, _⟩ := rv; intro z; cases z
  | scr ds => obtain ⟨a, vs, rfl, _⟩ := rv; intro z; cases z
  | bl b => have rv : v = _ := rv; subst rv; intro z; cases z
  | int b => have rv : v = _ := rv; subst rv; intro z; cases z
  | str b => have rv : v = _ := rv; subst rv; intro z; cases z
  | rep b => have rv : v = _ := rv; subst rv; intro z; cases z
theorem op_cmp (hu : X.A.units + 65 < cLine) (op : Cop) : OpR X (compareOp op.op) (rC2 X.K op) := by
  intro pins s σ H v u vv uu Q I rv ru h
  obtain ⟨as, st, x, y, b, rel, rx, ry, e, q⟩ := h
  unfold cmpD at e
  split at e
  · exact (eq_run (by omega) I rv ru rel rx ry e).1 q
  · obtain ⟨k, e1, rfl⟩ := Option.map_eq_some_iff.mp e
    exact (eq_run (by omega) I rv ru rel rx ry e1).2 q
  · cases e; have rx : v = _ := rx; have ry : u = _ := ry; subst rx; subst ry
    exact op_lt pins s σ H _ _ _ _ Q I rv ru ⟨_, _, rfl, rfl, q⟩
  · cases e; have rx : v = _ := rx; have ry : u = _ := ry; subst rx; subst ry
    exact op_le pins s σ H _ _ _ _ Q I rv ru ⟨_, _, rfl, rfl, q⟩
  · cases e; have rx : v = _ := rx; have ry : u = _ := ry; subst rx; subst ry
    exact op_gt pins s σ H _ _ _ _ Q I rv ru ⟨_, _, rfl, rfl, q⟩
  · cases e; have rx : v = _ := rx; have ry : u = _ := ry; subst rx; subst ry
    exact op_ge pins s σ H _ _ _ _ Q I rv ru ⟨_, _, rfl, rfl, q⟩
  · cases e; have rx : v = _ := rx; have ry : u = _ := ry; subst rx; subst ry
    exact op_isN pins s σ H _ _ _ _ Q I rv ru ⟨rfl, q⟩
  · rename_i hn; cases e; have ry : u = _ := ry; subst ry
    refine op_isN pins s σ H _ _ _ _ Q I rv ru ⟨rfl, ?_⟩
    rw [decide_eq_false (rv_non rx (fun z => by subst z; simp_all))]; exact q
  · cases e; have rx : v = _ := rx; have ry : u = _ := ry; subst rx; subst ry
    exact op_notN pins s σ H _ _ _ _ Q I rv ru ⟨rfl, q⟩
  · rename_i hn; cases e; have ry : u = _ := ry; subst ry
    refine op_notN pins s σ H _ _ _ _ Q I rv ru ⟨rfl, ?_⟩
    rw [decide_eq_false (rv_non rx (fun z => by subst z; simp_all))]; exact q
  · exact (in_run hu I rv ru rel rx ry e).1 q
  · obtain ⟨k, e1, rfl⟩ := Option.map_eq_some_iff.mp e
    exact (in_run hu I rv ru rel rx ry e1).2 q
  · cases e

/-! ### subscripts, slices -/
theorem RVs.atI {K : PySem.W.Frag} {as : List Addr} {H : Hp} {ds : List D} {vs : List V} {i : Int} {d : D} (h : RVs K as H ds vs) (e : L2.atI ds i = some d) : ∃ v, L2.atI vs i = some v ∧ RV K as H d v := by
  unfold L2.atI at e ⊢
  rw [← h.length]
  cases q : ixN ds.length i with
  | none => rw [q] at e; cases e
  | some j => rw [q] at e; exact h.get e
theorem getKV_of {K : PySem.W.Frag} {as : List Addr} {H : Hp} {k : Key} {d : D} : ∀ {kvs : List (Key × D)} {vs : List (Key × V)}, RKV K as H kvs vs → getKV kvs k = some d → ∃ v, valV vs k = some v ∧ RV K as H d v
  | [], _, _, e => by simp [getKV] at e
  | p :: r, _, h, e => by
    obtain ⟨v, vs', rfl, h1, h2⟩ := h
    by_cases hk : p.1 = k
    · have : getKV (p :: r) k = some p.2 := by simp [getKV, List.find?_cons, hk]
      rw [this] at e; cases e
      exact ⟨v, valV_pos hk, h1⟩
    · have : getKV (p :: r) k = getKV r k := by simp [getKV, List.find?_cons, hk]
      rw [this] at e
      obtain ⟨w, e1, e2⟩ := getKV_of h2 e
      exact ⟨w, by rw [valV_neg hk]; exact e1, e2⟩
theorem keyD_of {K : PySem.W.Frag} {as : List Addr} {H : Hp} {d : D} {k : Key} {v : V} (h : keyD d = some k) (rv : RV K as H d v) : v = kV k := by
  unfold keyD at h
  split at h
  · cases h; exact rv
  · cases h; exact rv
  · cases h
theorem ix_all (hu : X.A.units + 1 < cLine) : IxR X (rU2 X.K idxD) := by
  intro value slice pins s σ H v u vv uu Q I rv ru h hs
  obtain ⟨as, st, x, y, rel, rx, ry, g⟩ := h
  unfold idxD at g
  split at g
  · obtain ⟨a, vs, rfl, h1, h2⟩ := rx
    have ry : u = _ := ry; subst ry
    obtain ⟨d, e, g⟩ := g.lift
    obtain ⟨w, e1, e2⟩ := h2.atI e
    exact ix_tup value slice pins s σ H _ _ _ _ Q I rv ru ⟨a, vs, _, w, rfl, rfl, h1, e1, g.here rel _ e2⟩ hs
  · obtain ⟨a, vs, rfl, h1, h2⟩ := rx
    have ry : u = _ := ry; subst ry
    obtain ⟨d, e, g⟩ := g.lift
    obtain ⟨w, e1, e2⟩ := h2.atI e
    exact ix_list value slice pins s σ H _ _ _ _ Q I rv ru ⟨a, vs, _, w, rfl, rfl, h1.l, e1, g.here rel _ e2⟩ hs
  · have rx : v = _ := rx; have ry : u = _ := ry; subst rx; subst ry
    split at g
    · rename_i hc
      obtain ⟨d, e, g⟩ := g.lift
      obtain ⟨c, e1, rfl⟩ := Option.map_eq_some_iff.mp e
      exact ix_str value slice pins s σ H _ _ _ _ Q I rv ru ⟨_, _, c, rfl, rfl, hc, e1, g.here rel _ rfl⟩ hs
    · exact g.elim
  · split at g
    · rename_i xs i e
      obtain ⟨a, rfl, _, hro⟩ := rel.of_ref e rx
      obtain ⟨vs, h1, h2⟩ := ro_seq hro rfl
      have ry : u = _ := ry; subst ry
      obtain ⟨d, e, g⟩ := g.lift
      obtain ⟨w, e1, e2⟩ := h2.atI e
      exact ix_list value slice pins s σ H _ _ _ _ Q I rv ru ⟨a, vs, _, w, rfl, rfl, h1, e1, g.here rel _ e2⟩ hs
    · rename_i kvs k e
      obtain ⟨a, rfl, _, vs, h1, h2⟩ := rel.of_ref e rx
      split at g
      · rename_i k' hk
        have := keyD_of hk ry
        subst this
        obtain ⟨d, e, g⟩ := g.lift
        obtain ⟨w, e1, e2⟩ := getKV_of h2 e
        have hdg : DGet H a (kV k') (some w) := by rw [← e1]; exact DGet.k h1
        cases rv
        exact tail_any (dict_typeIs I hdg) PySem.F.slot_dict_getitem.lookup (d_getItem hu I hdg ru fun w' s' I' r' => ⟨w, H, I', r', g.here rel _ e2⟩) hs
      · exact g.elim
    · exact g.elim
  · exact g.elim
end
end PL

set_option Elab.async false
set_option linter.all false
set_option maxRecDepth 100000
set_option maxHeartbeats 1000000
/-! PLD: slices, stores, built-ins, methods. -/
namespace PL
open PySem PySem.Spec PyProof.Rows L2

section
variable {X : Cx}
/-! ### slices -/
def tPartA (t : TE) : TO := fun σ H Q => t σ H fun x H1 => (∃ i, x = .int i ∧ Q (some i) H1) ∨ (x = .non ∧ Q none H1)
theorem po_any {e : Expr} {te : TE} (h : L2.PE X e te) : PO X (some e) (tPartA te) := by
  refine ⟨fun pins s σ H Q I hw => ?_⟩
  rw [evalPart_some]
  refine thn (h.run pins s σ H _ I hw) fun u s1 ⟨x, H1, I1, r1, q1⟩ => ?_
  rcases q1 with ⟨i, rfl, q⟩ | ⟨rfl, q⟩
  · obtain ⟨t, rfl⟩ := r1
    exact ⟨some i, H1, I1, .int i t, q⟩
  · cases r1
    exact ⟨none, H1, I1, .none, q⟩
theorem cutD_of {K : PySem.W.Frag} {as : List Addr} {H : Hp} {ds : List D} {vs : List V} (h : RVs K as H ds vs) (lo hi : Option Int) : RVs K as H (cutD ds lo hi) (cutV vs lo hi) := by
  unfold cutD cutV
  rw [h.length]
  exact (h.drop _).take _
/-- a slice by its parts -/
def slO (a : D) (l h : Option Int) (st : Sto) : Res D := match a with
  | .tup xs => .ok (.tup (cutD xs l h)) st
  | .scr xs => .ok (.ref st.length) (st ++ [.lst (cutD xs l h)])
  | .str x => if x.length ≤ sizeLine then .ok (.str ⟨(cutD x.cps.toList l h).toArray⟩) st else .bad
  | .ref r => match st[r]? with
    | some (.lst xs) => .ok (.ref st.length) (st ++ [.lst (cutD xs l h)])
    | _ => .bad
  | _ => .bad
theorem slD_eq {a lo hi : D} {st : Sto} {P : D → List Addr → Hp → Prop} {K : PySem.W.Frag} {as : List Addr} {H : Hp} (g : Good K P as H (slD a lo hi st)) :
    ∃ l h, partD lo = some l ∧ partD hi = some h ∧ Good K P as H (slO a l h st) := by
  unfold slD at g
  split at g
  · rename_i e1 e2; exact ⟨_, _, e1, e2, g⟩
  · rename_i e1 e2; exact ⟨_, _, e1, e2, g⟩
  · rename_i e1 e2; exact ⟨_, _, e1, e2, g⟩
  · rename_i e1 e2; exact ⟨_, _, e1, e2, g⟩
  · exact g.elim
def rSlU (K : PySem.W.Frag) : V → Option Int → Option Int → Hp → VK → Prop := fun v lo hi H Q => ∃ as st x, Rel K as st H ∧ RV K as H x v ∧ GE K Q as H (slO x lo hi st)
theorem cut_str (x : Str) (l h : Option Int) : (⟨(cutD x.cps.toList l h).toArray⟩ : Str) = cutS x l h := by
  unfold cutD cutS
  have e : x.cps.toList.length = x.length := by simp [Str.length]
  rw [e]
theorem sl_all : SlR X (rSlU X.K) := by
  intro pins s σ H v vv vl vu lo hi sl Q I rv hs pl pu h
  obtain ⟨as, st, x, rel, rx, g⟩ := h
  unfold slO at g
  split at g
  · rename_i xs
    obtain ⟨a, vs, rfl, h1, h2⟩ := rx
    refine sl_tupA pins s σ H _ _ vl vu lo hi sl Q I rv hs pl pu ⟨a, vs, rfl, h1, fun hw => ?_, fun _ => g.newT rel (cutD_of h2 lo hi)⟩
    have e : cutD xs lo hi = xs := by
      unfold cutD
      rw [h2.length, hw.1, hw.2, List.drop_zero, Nat.sub_zero]
      exact List.take_of_length_le (by rw [h2.length]; exact Nat.le_refl _)
    rw [e] at g
    exact g.here rel _ ⟨a, vs, rfl, h1, h2⟩
  · obtain ⟨a, vs, rfl, h1, h2⟩ := rx
    exact sl_list pins s σ H _ _ vl vu lo hi sl Q I rv hs pl pu ⟨a, vs, rfl, h1.l, g.newL rel (cutD_of h2 lo hi)⟩
  · have rx : v = _ := rx; subst rx
    split at g
    · rename_i hc
      rw [cut_str] at g
      exact sl_str pins s σ H _ _ vl vu lo hi sl Q I rv hs pl pu ⟨_, rfl, hc, g.here rel _ rfl⟩
    · exact g.elim
  · split at g
    · rename_i e
      obtain ⟨a, rfl, _, hro⟩ := rel.of_ref e rx
      obtain ⟨vs, h1, h2⟩ := ro_seq hro rfl
      exact sl_list pins s σ H _ _ vl vu lo hi sl Q I rv hs pl pu ⟨a, vs, rfl, h1, g.newL rel (cutD_of h2 lo hi)⟩
    · exact g.elim
  · exact g.elim

/-! ### o[i] = v -/
def rSetU (K : PySem.W.Frag) : TSet := fun o i v H Q => ∃ as st x y z st', Rel K as st H ∧ RV K as H x o ∧ RV K as H y i ∧ RV K as H z v ∧ setD x y z st = some st' ∧ ∀ H', Ext K as H as H' → Rel K as st' H' → Q H'
theorem putKV_of {K : PySem.W.Frag} {as : List Addr} {H : Hp} {k : Key} {d : D} {w : V} {kvs : List (Key × D)} {vs : List (Key × V)} (h : RKV K as H kvs vs) (r : RV K as H d w) : RKV K as H (putKV kvs k d) (putK vs k w) := by
  have len : ∀ {kvs : List (Key × D)} {vs : List (Key × V)}, RKV K as H kvs vs → (kvs.any fun kv => decide (kv.1 = k)) = (vs.any fun kv => decide (kv.1 = k)) := by
    intro kvs
    induction kvs with
    | nil => intro vs h; have h : vs = [] := h; subst h; rfl
    | cons p r ih =>
      intro vs h
      obtain ⟨v, vs', rfl, h1, h2⟩ := h
      rw [List.any_cons, List.any_cons, ih h2]
  have repl : ∀ {kvs : List (Key × D)} {vs : List (Key × V)}, RKV K as H kvs vs → RKV K as H (kvs.map fun kv => if kv.1 = k then (kv.1, d) else kv) (vs.map fun kv => if kv.1 = k then (kv.1, w) else kv) := by
    intro kvs
    induction kvs with
    | nil => intro vs h; have h : vs = [] := h; subst h; rfl
    | cons p r0 ih =>
      intro vs h
      obtain ⟨v, vs', rfl, h1, h2⟩ := h
      rw [List.map_cons, List.map_cons]
      by_cases e : p.1 = k
      · rw [if_pos e, if_pos e]; exact ⟨w, _, rfl, r, ih h2⟩
      · rw [if_neg e, if_neg e]; exact ⟨v, _, rfl, h1, ih h2⟩
  have app : ∀ {kvs : List (Key × D)} {vs : List (Key × V)}, RKV K as H kvs vs → RKV K as H (kvs ++ [(k, d)]) (vs ++ [(k, w)]) := by
    intro kvs
    induction kvs with
    | nil => intro vs h; have h : vs = [] := h; subst h; exact ⟨w, [], rfl, r, rfl⟩
    | cons p r0 ih =>
      intro vs h
      obtain ⟨v, vs', rfl, h1, h2⟩ := h
      exact ⟨v, _, rfl, h1, ih h2⟩
  unfold putKV putK
  rw [len h]
  split
  · exact repl h
  · exact app h
theorem RKV.length {K : PySem.W.Frag} {as : List Addr} {H : Hp} : ∀ {kvs : List (Key × D)} {vs : List (Key × V)}, RKV K as H kvs vs → kvs.length = vs.length
  | [], _, h => by have h : _ = [] := h; subst h; rfl
  | p :: r, _, h => by
    obtain ⟨v, vs', rfl, h1, h2⟩ := h
    rw [List.length_cons, List.length_cons, RKV.length h2]
theorem set_all (hu : X.A.units + 1 < cLine) : PSet X (rSetU X.K) := by
  intro pins s σ H o i v ov iv u Q I ro ri rv h
  obtain ⟨as, st, x, y, z, st', rel, rx, ry, rz, e, q⟩ := h
  unfold setD at e
  split at e
  · rename_i r
    split at e
    · rename_i xs k e1
      obtain ⟨j, e2, rfl⟩ := Option.map_eq_some_iff.mp e
      obtain ⟨a, vs, rfl, ha, h1, h2⟩ := lst_of rel e1 rx
      have ry : i = _ := ry; subst ry
      have hw := rel.write (o' := .lst (xs.set j z)) (ho := .lst (vs.set j v)) e1 ha rfl rfl fun ex => ⟨_, upd_same, RVs.mono ex _ _ (h2.set j rz)⟩
      exact set_list pins s σ H _ _ _ _ _ _ Q I ro ri rv ⟨a, vs, k, j, rfl, rfl, h1, by rw [← h2.length]; exact e2, q _ hw.2 hw.1⟩
    · rename_i k kvs e1
      split at e
      · rename_i k' hk
        split at e
        · rename_i hl
          cases e
          obtain ⟨a, rfl, ha, vs, h1, h2⟩ := rel.of_ref e1 rx
          have := keyD_of hk ry
          subst this
          have hw := rel.write (o' := .dct (putKV kvs k' z)) (ho := .dK (putK vs k' v)) e1 ha rfl rfl fun ex => ⟨_, upd_same, RKV.mono ex _ _ (putKV_of h2 rz)⟩
          cases ro
          exact d_setItem hu I (DPut.k h1 (by rw [← h2.length]; exact hl)) ri rv fun s' I' => ⟨_, I', q _ hw.2 hw.1⟩
        · cases e
      · cases e
    · cases e
  · cases e

/-! ### built-ins -/
/-- what a context allows -/
structure Fit (X : Cx) : Prop where
  hu : X.A.units + 100 < cLine
  hg : X.A.guards = some []
  hc : X.calm = true
def Blt.val : Blt → Value
  | .len => .builtin "len" | .abs => .builtin "abs" | .int => .type "int" | .tuple => .type "tuple" | .list => .type "list" | .min2 => .builtin "min" | .max2 => .builtin "max"
  | .repr => .builtin "repr" | .strI => .type "str" | .isi _ => .builtin "isinstance" | .dictP => .type "dict"
def rCallU (K : PySem.W.Frag) (b : Blt) : List V → Hp → VK → Prop := fun vs H Q => ∃ as st ds, Rel K as st H ∧ RVs K as H ds vs ∧ GE K Q as H (bltD b ds st)
theorem rvs_one {K : PySem.W.Frag} {as : List Addr} {H : Hp} {d : D} {vs : List V} (h : RVs K as H [d] vs) : ∃ v, vs = [v] ∧ RV K as H d v := by
  obtain ⟨v, vs', rfl, h1, h2⟩ := h
  have h2 : vs' = [] := h2
  subst h2
  exact ⟨v, rfl, h1⟩
theorem rvs_two {K : PySem.W.Frag} {as : List Addr} {H : Hp} {d e : D} {vs : List V} (h : RVs K as H [d, e] vs) : ∃ v u, vs = [v, u] ∧ RV K as H d v ∧ RV K as H e u := by
  obtain ⟨v, vs', rfl, h1, h2⟩ := h
  obtain ⟨u, rfl, h3⟩ := rvs_one h2
  exact ⟨v, u, rfl, h1, h3⟩
def Ty.nm : Ty → String
  | .int => "int" | .bool => "bool" | .str => "str" | .tup => "tuple" | .lst => "list" | .dct => "dict"
theorem kit_all (u t : Ty) : kitB u.nm t.nm = some (decide (u = t) || (decide (u = .bool) && decide (t = .int))) := by
  cases u <;> cases t <;> decide +kernel
theorem kit_none (t : Ty) : kitB "NoneType" t.nm = some false := by
  cases t <;> decide +kernel
theorem tyX_of {K : PySem.W.Frag} {as : List Addr} {H : Hp} {st : Sto} {d : D} {v : V} {t : Ty} (rel : Rel K as st H) (h : tyD st d = some t) (rv : RV K as H d v) : TyX K H v (.type t.nm) := by
  have sq : ∀ a vs, SqL K H a vs → TyX K H (.ref a) (.type "list") := fun a vs h => by
    rcases h with (h | ⟨o, h⟩) | ⟨o, its, n, h, hc, _⟩
    · exact .base (.lst h)
    · exact .base (.frz h)
    · exact .kList h hc
  unfold tyD at h
  split at h
  · cases h; have rv : v = _ := rv; subst rv; exact .base (.bl _)
  · cases h; have rv : v = _ := rv; subst rv; exact .base (.int _)
  · cases h; have rv : v = _ := rv; subst rv; exact .base (.str _)
  · cases h
    obtain ⟨a, vs, rfl, h1, _⟩ := rv
    rcases h1 with (h | ⟨o, h⟩) | ⟨o, its, n, h, hc, _⟩
    · exact .base (.tup h)
    · exact .fTuple h
    · exact .kTuple h hc
  · cases h
    obtain ⟨a, vs, rfl, h1, _⟩ := rv
    exact sq a vs h1.l
  · split at h
    · rename_i e; cases h
      obtain ⟨a, rfl, _, hro⟩ := rel.of_ref e rv
      obtain ⟨vs, h1, _⟩ := ro_seq hro rfl
      exact sq a vs h1
    · rename_i e; cases h
      obtain ⟨a, rfl, _, vs, h1, _⟩ := rel.of_ref e rv
      exact .base (.dK h1)
    · cases h
  · cases h; have rv : v = _ := rv; subst rv; exact .base (.str _)
  · cases h
theorem isi_run {pins : List (Addr × Obj)} {s : Shared} {σ : L2.St} {H : Hp} {v : V} {us : List Value} {Q : VK} {t : Ty} (I : Inv X pins σ H s) (r : Vals [v, .ty t.nm] us)
    {as : List Addr} {st : Sto} {d : D} {b : Bool} (rel : Rel X.K as st H) (rv : RV X.K as H d v) (e : isiD st t d = some b) (q : Q (.bl b) H) : wpAny (model X.prog X.w) X.A (call (.builtin "isinstance") us) (EP X pins σ Q) X.xe s := by
  unfold isiD at e
  split at e
  · cases e; have rv : v = _ := rv; subst rv
    exact call_isi pins s σ H _ us Q I r ⟨_, _, _, _, _, rfl, .ty _, .base .non, kit_ty (kit_none t), q⟩
  · split at e
    · rename_i u hu; cases e
      exact call_isi pins s σ H _ us Q I r ⟨_, _, _, _, _, rfl, .ty _, tyX_of rel hu rv, kit_ty (kit_all u t), q⟩
    · cases e
theorem repr_run (fx : Fit X) {pins : List (Addr × Obj)} {s : Shared} {σ : L2.St} {H : Hp} {v : V} {u : Value} {Q : VK} (I : Inv X pins σ H s) (r : RelV v u)
    {as : List Addr} {st : Sto} {d : D} {p : PyData} (rel : Rel X.K as st H) (rv : RV X.K as H d v) (e : toPy st 60 d = some p) (h1 : p.canLay0 = true) (h2 : p.showable = true) (h3 : showCost p ≤ sizeLine) (q : Q (.str p.shown) H) :
    wpAny (model X.prog X.w) X.A (call (.builtin "repr") [u]) (EP X pins σ Q) X.xe s := by
  obtain ⟨⟨bs, rd⟩, dp⟩ := reads_of I rel 60 d p v u e rv r
  have hsz : p.shown.length ≤ sizeLine := Nat.le_trans (shown_len p h1) h3
  have hu := fx.hu
  have fin : ∀ t, EP X pins σ Q (.str p.shown t) { s with toks := s.toks + 1 } := fun t => ⟨.str p.shown, H, I.tok _, ⟨t, rfl⟩, q⟩
  cases rd with
  | none => exact PySem.P.repr_of_none (fin _)
  | bool b => exact PySem.P.repr_of_bool (by have := fin s.toks; rw [PyData.shown_bool] at this; exact this)
  | int i t => exact PySem.P.repr_of_int (by simpa [PyData.showable] using h2) (by have := fin s.toks; rw [PyData.shown_int] at this; exact this)
  | str x t => exact PySem.P.repr_of_str (by have := fin s.toks; rw [PyData.shown_str] at this; exact this) (by rw [PyData.shown_str] at hsz; exact hsz)
  | list a1 a2 a3 a4 => exact repr_of_reads' (.list a1 a2 a3 a4) h2 (PyData.noDict_hsm (PyData.hasDict_of_canLay _ h1)) fx.hg (by omega) (fun _ _ e => e) (fun h' u tk hk => ⟨.str _, H, I.kept hk, ⟨u, rfl⟩, q⟩) hsz
  | tuple a1 a2 a3 a4 => exact repr_of_reads' (.tuple a1 a2 a3 a4) h2 (PyData.noDict_hsm (PyData.hasDict_of_canLay _ h1)) fx.hg (by omega) (fun _ _ e => e) (fun h' u tk hk => ⟨.str _, H, I.kept hk, ⟨u, rfl⟩, q⟩) hsz
  | dict a1 a2 a3 a4 a5 => simp [PyData.canLay0] at h1
def Blt.plain : Blt → Bool
  | .isi _ => false
  | .dictP => false
  | _ => true
theorem call_all (fx : Fit X) (b : Blt) (hb : b.plain = true) : CallR X b.val (rCallU X.K b) := by
  intro pins s σ H vs us Q I r h
  obtain ⟨as, st, ds, rel, rd, g⟩ := h
  have hc := fx.hc
  unfold bltD at g
  split at g
  · obtain ⟨v, rfl, a, ws, rfl, h1, h2⟩ := rvs_one rd
    refine call_len_seq pins s σ H _ us Q I r ⟨a, ws, rfl, .inr h1, ?_⟩
    rw [← h2.length]; exact g.here rel _ rfl
  · obtain ⟨v, rfl, a, ws, rfl, h1, h2⟩ := rvs_one rd
    refine call_len_seq pins s σ H _ us Q I r ⟨a, ws, rfl, .inl h1.l, ?_⟩
    rw [← h2.length]; exact g.here rel _ rfl
  · obtain ⟨v, rfl, rv⟩ := rvs_one rd
    have rv : v = _ := rv; subst rv
    split at g
    · rename_i hl; exact call_len_str pins s σ H _ us Q I r ⟨_, rfl, hl, g.here rel _ rfl⟩
    · exact g.elim
  · obtain ⟨v, rfl, rv⟩ := rvs_one rd
    split at g
    · rename_i e
      obtain ⟨a, rfl, _, hro⟩ := rel.of_ref e rv
      obtain ⟨ws, h1, h2⟩ := ro_seq hro rfl
      refine call_len_seq pins s σ H _ us Q I r ⟨a, ws, rfl, .inl h1, ?_⟩
      rw [← h2.length]; exact g.here rel _ rfl
    · exact g.elim
  · obtain ⟨v, rfl, rv⟩ := rvs_one rd
    have rv : v = _ := rv; subst rv
    exact call_abs pins s σ H _ us Q I r ⟨_, rfl, g.here rel _ rfl⟩
  · obtain ⟨v, rfl, rv⟩ := rvs_one rd
    have rv : v = _ := rv; subst rv
    exact call_int1 pins s σ H _ us Q I r (.inl ⟨_, rfl, g.here rel _ rfl⟩)
  · obtain ⟨v, rfl, rv⟩ := rvs_one rd
    have rv : v = _ := rv; subst rv
    exact call_int1 pins s σ H _ us Q I r (.inr ⟨_, rfl, g.here rel _ rfl⟩)
  · obtain ⟨v, rfl, a, ws, rfl, h1, h2⟩ := rvs_one rd
    exact call_tuple_of pins s σ H _ us Q I r ⟨a, ws, rfl, .inr ⟨h1, g.here rel _ ⟨a, ws, rfl, h1, h2⟩⟩⟩
  · obtain ⟨v, rfl, a, ws, rfl, h1, h2⟩ := rvs_one rd
    exact call_tuple_of pins s σ H _ us Q I r ⟨a, ws, rfl, .inl ⟨h1.l, g.newT rel h2⟩⟩
  · obtain ⟨v, rfl, rv⟩ := rvs_one rd
    split at g
    · rename_i e
      obtain ⟨a, rfl, _, hro⟩ := rel.of_ref e rv
      obtain ⟨ws, h1, h2⟩ := ro_seq hro rfl
      exact call_tuple_of pins s σ H _ us Q I r ⟨a, ws, rfl, .inl ⟨h1, g.newT rel h2⟩⟩
    · exact g.elim
  · obtain ⟨v, rfl, a, ws, rfl, h1, h2⟩ := rvs_one rd
    exact call_list_of pins s σ H _ us Q I r ⟨a, ws, rfl, .inr h1, g.newL rel h2⟩
  · obtain ⟨v, rfl, a, ws, rfl, h1, h2⟩ := rvs_one rd
    exact call_list_of pins s σ H _ us Q I r ⟨a, ws, rfl, .inl h1.l, g.newL rel h2⟩
  · obtain ⟨v, rfl, rv⟩ := rvs_one rd
    split at g
    · rename_i e
      obtain ⟨a, rfl, _, hro⟩ := rel.of_ref e rv
      obtain ⟨ws, h1, h2⟩ := ro_seq hro rfl
      exact call_list_of pins s σ H _ us Q I r ⟨a, ws, rfl, .inl h1, g.newL rel h2⟩
    · exact g.elim
  · obtain ⟨v, u, rfl, rv, ru⟩ := rvs_two rd
    have rv : v = _ := rv; have ru : u = _ := ru; subst rv; subst ru
    exact call_min2 hc pins s σ H _ us Q I r ⟨_, _, rfl, g.here rel _ rfl⟩
  · obtain ⟨v, u, rfl, rv, ru⟩ := rvs_two rd
    have rv : v = _ := rv; have ru : u = _ := ru; subst rv; subst ru
    exact call_max2 hc pins s σ H _ us Q I r ⟨_, _, rfl, g.here rel _ rfl⟩
  · obtain ⟨v, rfl, rv⟩ := rvs_one rd
    obtain ⟨u, rfl, ru⟩ := r.one
    split at g
    · rename_i p e
      split at g
      · rename_i hk
        simp only [Bool.and_eq_true, decide_eq_true_eq] at hk
        exact repr_run fx I ru rel rv e hk.1 hk.2.1 hk.2.2 (g.here rel _ rfl)
      · exact g.elim
    · exact g.elim
  · obtain ⟨v, rfl, rv⟩ := rvs_one rd
    have rv : v = _ := rv; subst rv
    split at g
    · rename_i hl; exact call_str_int pins s σ H _ us Q I r ⟨_, rfl, of_decide_eq_true hl, g.here rel _ rfl⟩
    · exact g.elim
  · cases hb
  · exact g.elim

/-! ### methods of lists -/
def Mt.id : Mt → String
  | .append => "list.append" | .pop0 => "list.pop" | .popAt => "list.pop" | .insert => "list.insert" | .extend => "list.extend"
def rMtU (K : PySem.W.Frag) (m : Mt) : V → List V → Hp → VK → Prop := fun v vs H Q => ∃ as st o ds, Rel K as st H ∧ RV K as H o v ∧ RVs K as H ds vs ∧ GE K Q as H (methD m o ds st)
theorem mt_all (m : Mt) : MtR X m.id (rMtU X.K m) := by
  intro pins s σ H v vs vv us Q I rv rvs h
  obtain ⟨as, st, o, ds, rel, ro, rd, g⟩ := h
  unfold methD at g
  split at g
  · rename_i n
    split at g
    · rename_i xs e
      obtain ⟨a, ws, rfl, ha, h1, h2⟩ := lst_of rel e ro
      have wr : ∀ (ys : List D) (zs : List V) (d : D) (w : V), RVs X.K as H ys zs → RV X.K as H d w → GE X.K Q as H (.ok d (st.set n (.lst ys))) → Q w (upd H a (.lst zs)) := fun ys zs d w r1 r2 g => by
        have hw := rel.write (o' := .lst ys) (ho := .lst zs) e ha rfl rfl fun ex => ⟨_, upd_same, RVs.mono ex _ _ r1⟩
        exact g _ _ hw.2 hw.1 _ (RV.mono hw.2 _ _ r2)
      split at g
      · obtain ⟨y, rfl, ry⟩ := rvs_one rd
        split at g
        · rename_i hl
          exact mt_append pins s σ H _ _ _ _ Q I rv rvs ⟨a, ws, y, rfl, rfl, h1, by rw [← h2.length]; exact hl, wr _ _ .non _ (h2.append (RVs.one ry)) rfl g⟩
        · exact g.elim
      · have rd : vs = [] := rd
        subst rd
        split at g
        · rename_i d hd
          obtain ⟨w, e1, e2⟩ := h2.get hd
          exact mt_pop pins s σ H _ _ _ _ Q I rv rvs ⟨a, ws, w, rfl, rfl, h1, by rw [← h2.length]; exact e1, wr _ _ _ _ h2.dropLast e2 g⟩
        · exact g.elim
      · obtain ⟨y, rfl, ry⟩ := rvs_one rd
        have ry : y = _ := ry; subst ry
        split at g
        · rename_i hb
          simp only [Bool.and_eq_true, decide_eq_true_eq] at hb
          split at g
          · rename_i k hk
            split at g
            · rename_i d hd
              obtain ⟨w, e1, e2⟩ := h2.get hd
              exact mt_popAt pins s σ H _ _ _ _ Q I rv rvs ⟨a, ws, _, k, w, rfl, rfl, h1, hb.1, hb.2, by rw [← h2.length]; exact hk, e1, wr _ _ _ _ (h2.eraseIdx k) e2 g⟩
            · exact g.elim
          · exact g.elim
        · exact g.elim
      · obtain ⟨y, u, rfl, ry, ru⟩ := rvs_two rd
        have ry : y = _ := ry; subst ry
        split at g
        · rename_i hb
          simp only [Bool.and_eq_true, decide_eq_true_eq] at hb
          exact mt_insert pins s σ H _ _ _ _ Q I rv rvs ⟨a, ws, _, u, rfl, rfl, h1, by rw [← h2.length]; exact hb.1, hb.2.1, hb.2.2, wr _ _ .non _ (((h2.take _).append (RVs.one ru)).append (h2.drop _)) rfl g⟩
        · exact g.elim
      · obtain ⟨y, rfl, ry⟩ := rvs_one rd
        split at g
        · rename_i ys e2
          obtain ⟨b, zs, rfl, _, h3, h4⟩ := lst_of rel e2 ry
          split at g
          · rename_i hl
            exact mt_extend pins s σ H _ _ _ _ Q I rv rvs ⟨a, b, ws, zs, rfl, rfl, h1, h3, by rw [← h2.length, ← h4.length]; exact hl, wr _ _ .non _ (h2.append h4) rfl g⟩
          · exact g.elim
        · exact g.elim
      · exact g.elim
    · exact g.elim
  · exact g.elim
end
end PL

set_option Elab.async false
set_option linter.all false
set_option maxRecDepth 100000
set_option maxHeartbeats 1000000
/-! PLI: what for and comprehensions walk: lists and tuples, numbered ones, two beside one another, in any mix. -/
namespace PL
open PySem PySem.Spec PyProof.Rows L2

/-- a list, a tuple -/
inductive Sk where | L | T
def SqK (k : Sk) (K : PySem.W.Frag) (H : Hp) (a : Addr) (xs : List V) : Prop := match k with
  | .L => SqL K H a xs
  | .T => SqT K H a xs
def SeqIs (k : Sk) (h : Heap) (a : Addr) (items : Array Value) : Prop := match k with
  | .L => h.IsList a items
  | .T => h.IsTuple a items
def ItIs (k : Sk) (h : Heap) (it a : Addr) (i : Nat) : Prop := match k with
  | .L => h.IsListIter it a i
  | .T => h.IsTupleIter it a i
def itObj (k : Sk) (a : Addr) : Obj := match k with
  | .L => { cls := .type "list_iterator", data := .fields #[.ref a, .int 0 0] }
  | .T => { cls := .type "tuple_iterator", data := .fields #[.ref a, .int 0 0] }
section
variable {X : Cx} {pins : List (Addr × Obj)} {σ : L2.St} {H : Hp} {s : Shared} {a : Addr} {xs ys : List V} {k : Sk}
theorem inv_seq (I : Inv X pins σ H s) (h : SqK k X.K H a xs) : ∃ its : List Value, Vals xs its ∧ SeqIs k s.heap a its.toArray ∧ xs.length ≤ sizeLine ∧ a < s.heap.objs.size := by
  cases k with
  | L =>
    obtain ⟨its, r, p, hz⟩ := I.list h
    exact ⟨its, r, p.isList, hz, p.lt⟩
  | T =>
    obtain ⟨its, r, p, hz⟩ := I.tuple h
    exact ⟨its, r, p, hz, p.lt⟩
theorem inv_inj (I : Inv X pins σ H s) (h : SqK k X.K H a xs) (h' : SqK k X.K H a ys) : xs = ys := by
  cases k with
  | L => exact I.list_inj h h'
  | T => exact I.tuple_inj h h'
end
theorem itIs_new (k : Sk) (h : Heap) (it a : Addr) (e : h.get? it = some (itObj k a)) : ItIs k h it a 0 := by
  cases k with
  | L => exact ⟨_, e, rfl, rfl⟩
  | T => exact ⟨_, e, rfl, rfl⟩
theorem itIs_at {k : Sk} {h h' : Heap} {it a : Addr} {i : Nat} (x : ItIs k h it a i) (e : ∀ o, h.get? it = some o → h'.get? it = some o) : ItIs k h' it a i := by
  cases k with
  | L => exact Heap.IsListIter.at x e
  | T => exact Heap.IsTupleIter.at x e
theorem itIs_obj {k : Sk} {h : Heap} {it a : Addr} {i : Nat} (x : ItIs k h it a i) : ∃ o, h.get? it = some o ∧ ∀ v, o.data ≠ .cell v := by
  cases k with
  | L => obtain ⟨o, e, c, d⟩ := x; exact ⟨o, e, fun v z => by rw [d] at z; cases z⟩
  | T => obtain ⟨o, e, c, d⟩ := x; exact ⟨o, e, fun v z => by rw [d] at z; cases z⟩
theorem begins_seq (k : Sk) (a : Addr) (items : Array Value) : Begins (.ref a) (itObj k a) fun h => SeqIs k h a items := by
  cases k with
  | L => exact begins_list a items
  | T => exact begins_tuple a items
theorem draws_seq (k : Sk) {prog : Program} {w : World} {A : Around} (hh : A.handled = none) (it a : Addr) (hne : a ≠ it) (items : Array Value) :
    Draws prog w A it [it, a] items.size (fun i v => items[i]? = some v) (fun i h => ItIs k h it a i ∧ SeqIs k h a items) := by
  cases k with
  | L => exact Draws.list hh it a hne items
  | T => exact Draws.tuple hh it a hne items
theorem seqIs_at {k : Sk} {h h' : Heap} {a : Addr} {items : Array Value} (x : SeqIs k h a items) (e : ∀ o, h.get? a = some o → h'.get? a = some o) : SeqIs k h' a items := by
  cases k with
  | L => exact Heap.IsList.at x e
  | T => exact Heap.IsTuple.at x e

/-! ### enumerate -/
def IteK (k : Sk) (K : PySem.W.Frag) (a : Addr) : It :=
  ⟨fun i H => ∃ (xs : List V) (x : V), SqK k K H a xs ∧ xs[i]? = some x, fun i H v H' => ∃ T x, v = .ref T ∧ H T = none ∧ H' = upd H T (.tup [.int (i : Nat), x]) ∧ ∀ xs, SqK k K H a xs → xs[i]? = some x,
    fun i H => ∃ xs : List V, SqK k K H a xs ∧ xs.length = i⟩
theorem turn_enumK {P : Program} {w : World} {K : PySem.W.Frag} {elts : List Expr} {kk : Nat} {tpos : Pos} (k : Sk) (a e it : Addr) :
    Turn P w K (.Tuple elts kk tpos) (IteK k K a) [e, it] e (fun i h => (∃ old, IsEnum h e it ((i : Nat) : Int) old) ∧ ItIs k h it a i ∧ e ≠ it ∧ a ≠ it ∧ a ≠ e) where
  mem := by simp
  obj := fun i h st b hb => by
    obtain ⟨⟨old, he⟩, hi, _⟩ := st
    have e' : b = e ∨ b = it := by simpa using hb
    rcases e' with z | z
    · rw [z]; exact ⟨_, he, fun v q => nomatch q⟩
    · rw [z]; exact itIs_obj hi
  keep := fun i h h' st kp => let ⟨⟨old, he⟩, hi, hne⟩ := st; ⟨⟨old, kp e (by simp) _ he⟩, itIs_at hi fun o q => kp it (by simp) o q, hne⟩
  item := by
    intro X hP hw hK hc i pins s σ H E I hf st hg
    subst hP hw hK
    obtain ⟨⟨old, he⟩, hit, hne, ha1, ha2⟩ := st
    obtain ⟨xs, x, hq, hx⟩ := hg
    obtain ⟨its, rv, p, hz, hal⟩ := inv_seq I hq
    obtain ⟨u, hu, ru⟩ := rv.get hx
    have hel : e < s.heap.objs.size := Heap.lt_size he
    have hil : it < s.heap.objs.size := by obtain ⟨o, q, _⟩ := itIs_obj hit; exact Heap.lt_size q
    have hi : i < its.toArray.size := by
      have := (List.getElem?_eq_some_iff.mp hu).1; simpa using this
    have W := GoesN.enumFrom (prog := X.prog) (w := X.w) (A := X.A) (elts := elts) (x1 := kk) (pos := tpos) 0 (draws_seq k (A := X.A.in1) (I.ok.hd hc) it a ha1 its.toArray) e hne (by simp [hne, Ne.symm ha2]) (by simp)
    refine W.goes i s _ E hi ⟨⟨old, by simpa using he⟩, hit, p⟩ fun v h' tk hY hst hk htk => ?_
    obtain ⟨T, t, y, rfl, hTn, hPy, hT⟩ := hY
    obtain ⟨⟨old', he'⟩, hit', p'⟩ := hst
    have hyu : y = u := by
      have h2 : its.toArray[i]? = some u := by simpa using hu
      rw [h2] at hPy; exact (Option.some.inj hPy).symm
    subst hyu
    have new : ObjOk X.prog X.w (upd H T (.tup [.int (i : Nat), x])) h' T (.tup [.int (i : Nat), x]) := by
      refine ⟨by show 2 ≤ sizeLine; decide, [.int (0 + (i : Int)) t, y], .cons ⟨_, by rw [Int.zero_add]⟩ (.cons ru .nil), ?_⟩
      obtain ⟨o, e1, e2, n, e3⟩ := hT
      exact ⟨o, e1, e2, n, e3⟩
    have I1 : Inv X pins σ (upd H T (.tup [.int (i : Nat), x])) { s with heap := h', toks := tk } :=
      I.turnedNew (ch := [e, it]) (fun b ob hb q => hk b ob hb q) hf hTn new
    refine ⟨.ref T, _, I1, rfl, ⟨T, x, rfl, I.hok.fresh hTn, rfl, fun ys hy => by rw [inv_inj I hy hq]; exact hx⟩, ⟨⟨old', ?_⟩, hit', hne, ha1, ha2⟩, fun b hb => ?_⟩
    · have e1 : (0 : Int) + ((i + 1 : Nat) : Int) = ((i + 1 : Nat) : Int) := by omega
      rw [← e1]; exact he'
    · have hb' : b < s.heap.objs.size := by
        have e' : b = e ∨ b = it := by simpa using hb
        rcases e' with z | z
        · rw [z]; exact hel
        · rw [z]; exact hil
      rw [upd_ne (Nat.ne_of_lt (Nat.lt_of_lt_of_le hb' hTn))]
      exact (hf b hb).1
  done := by
    intro X hP hw hK hc i pins s σ H E I hf st hg
    subst hP hw hK
    obtain ⟨⟨old, he⟩, hit, hne, ha1, ha2⟩ := st
    obtain ⟨xs, hq, hx⟩ := hg
    obtain ⟨its, rv, p, hz, hal⟩ := inv_seq I hq
    have hl := rv.length
    have hn : its.toArray.size = i := by simp; omega
    have W := GoesN.enumFrom (prog := X.prog) (w := X.w) (A := X.A) (elts := elts) (x1 := kk) (pos := tpos) 0 (draws_seq k (A := X.A.in1) (I.ok.hd hc) it a ha1 its.toArray) e hne (by simp [hne, Ne.symm ha2]) (by simp)
    refine W.stops s _ E ⟨⟨old, by rw [hn]; simpa using he⟩, by rw [hn]; exact hit, p⟩ fun h' tk hk htk => ?_
    exact I.turnedL (ch := [e, it]) (fun b o hb q => hk b o hb q) hf
  self := fun A i s Q E st h => let ⟨⟨_, he⟩, _⟩ := st; wpAny_pyIter_enum he h
theorem meets_enumerate_newB1 {v : Value} {o : Obj} {H : Heap → Prop} (B : Begins v o H) :
    Meets (Builtin.«enumerate.__new__» ⟨[.type "enumerate", v], []⟩) (fun _ R s => H s.heap ∧
      R (.ok (.ret (.ref (s.heap.push o).objs.size))) { s with heap := (s.heap.push o).push { cls := .type "enumerate", data := .fields #[.none, .bool false, .ref s.heap.objs.size, rawInt 0, .none, .none] } }) :=
  .of_wp fun prog w A R s h => by
    obtain ⟨hp, g, d, tk, os⟩ := s; obtain ⟨h1, h⟩ := h
    have hsub := sub_enumerate
    have q1 : ∀ {A' : Around} {E : Value → Shared → Prop} {Q : Value → Shared → Prop}, Q (.ref hp.objs.size) ⟨hp.push o, g, d, tk, os⟩ → wpAny (model prog w) A' (pyIter v) Q E ⟨hp, g, d, tk, os⟩ :=
      fun q => B.iter prog w _ _ ⟨hp, g, d, tk, os⟩ _ h1 q
    wp_walk using q1
    refine wpAny_stack_any fun st => wpAny_pure ?_
    split
    · rename_i c _ _ _ _ _
      cases (c == Value.type "enumerate")
      · wp_walk using q1
        exact ⟨_, rfl, h⟩
      · wp_walk using q1
        exact ⟨_, rfl, h⟩
    · wp_walk using q1
      exact ⟨_, rfl, h⟩

section
variable {prog : Program} {w : World} {A : Around} {E : Value → Shared → Prop} {s : Shared}
/-- enumerate(v): its two new cells -/
theorem enum_begins1 {v : Value} {o : Obj} {H : Heap → Prop} {Q : Value → Shared → Prop} (B : Begins v o H) (h1 : H s.heap)
    (h : ∀ h', IsEnum h' (s.heap.objs.size + 1) s.heap.objs.size 0 .none → h'.get? s.heap.objs.size = some o → h'.objs.size = s.heap.objs.size + 2 →
      (∀ b o, s.heap.get? b = some o → h'.get? b = some o) → Q (.ref (s.heap.objs.size + 1)) { s with heap := h' }) :
    wpAny (model prog w) A (call (.type "enumerate") [v]) Q E s := by
  refine callType_new F.called_enumerate (by decide) (F.typeCall_enumerate_1 _) (F.newCall_enumerate_1 _) (fun obj => F.args_object_init_2 obj _) F.entry_enumerate_new
    (meets_enumerate_newB1 B) ⟨h1, ?_⟩
  have hz : (s.heap.push o).objs.size = s.heap.objs.size + 1 := Heap.size_push ..
  show _ ∧ _
  rw [hz]
  have he : IsEnum ((s.heap.push o).push { cls := .type "enumerate", data := .fields #[.none, .bool false, .ref s.heap.objs.size, rawInt 0, .none, .none] }) (s.heap.objs.size + 1) s.heap.objs.size 0 .none := by
    have := Heap.get?_push_size (s.heap.push o) (o := { cls := .type "enumerate", data := .fields #[.none, .bool false, .ref s.heap.objs.size, rawInt 0, .none, .none] }) rfl
    rw [hz] at this; exact this
  refine ⟨⟨_, he, rfl⟩, h _ he (Heap.get?_push_of_some _ (Heap.get?_push_size _ B.free)) (by rw [Heap.size_push, hz]) fun b o x => Heap.get?_push_of_some _ (Heap.get?_push_of_some _ x)⟩
end
def iEnumK (K : PySem.W.Frag) (ta : TA) : TI := fun σ H R => ta σ H fun vs H1 => ∃ k a xs, vs = [.ref a] ∧ SqK k K H1 a xs ∧ R (IteK k K a) H1
theorem pi_enumK {X : Cx} {e : Expr} {ta : TA} {p pos tpos : Pos} {elts : List Expr} {kk : Nat} (hg : Gl X "enumerate") (hm : X.mg "enumerate" = none) (ha : PA X [e] ta) (hs : starEach [e] X.env = [(false, eval e X.env)]) :
    PI X (.Tuple elts kk tpos) (.Call (.Name "enumerate" p) [e] [] pos) (iEnumK X.K ta) := by
  refine ⟨fun pins s σ H R I h => ?_⟩
  refine Call_ (ld_blt I hg hm boot_enumerate (PyProof.Rows.callWith_type1 (thn (ha.run pos pins s σ H _ I h) fun us s1 ⟨vs, H1, I1, r1, q1⟩ => ?_) hs rfl))
  obtain ⟨k, a, xs, ex, hq, q⟩ := q1
  subst ex
  cases r1 with
  | cons r rr =>
    cases rr
    cases r
    obtain ⟨its, rv, p', hz, hal⟩ := inv_seq I1 hq
    refine enum_begins1 (begins_seq k a its.toArray) p' fun h' he hit hsz hk => wpAny_pyIter_enum he ?_
    have I2 : Inv X pins σ H1 { s1 with heap := h' } := I1.kept (t' := s1.toks) hk
    refine ⟨s1.heap.objs.size + 1, [s1.heap.objs.size + 1, s1.heap.objs.size], _, _, H1, rfl, I2, turn_enumK k a (s1.heap.objs.size + 1) s1.heap.objs.size,
      ⟨⟨.none, he⟩, itIs_new k _ _ _ hit, Nat.succ_ne_self _, Nat.ne_of_lt hal, Nat.ne_of_lt (Nat.lt_succ_of_lt hal)⟩, fun b hb => ?_, q⟩
    have e' : b = s1.heap.objs.size + 1 ∨ b = s1.heap.objs.size := by simpa using hb
    have hle : s1.heap.objs.size ≤ b := by
      rcases e' with z | z
      · rw [z]; exact Nat.le_add_right _ _
      · rw [z]; exact Nat.le_refl _
    exact I1.fpOk hle (I1.hok.fresh hle)

/-! ### zip of two -/
def ItzK (k k' : Sk) (K : PySem.W.Frag) (a b : Addr) : It :=
  ⟨fun i H => ∃ (xs ys : List V) (x y : V), SqK k K H a xs ∧ SqK k' K H b ys ∧ xs[i]? = some x ∧ ys[i]? = some y,
    fun i H v H' => ∃ T x y, v = .ref T ∧ H T = none ∧ H' = upd H T (.tup [x, y]) ∧ (∀ xs, SqK k K H a xs → xs[i]? = some x) ∧ ∀ ys, SqK k' K H b ys → ys[i]? = some y,
    fun i H => ∃ xs ys : List V, SqK k K H a xs ∧ SqK k' K H b ys ∧ i = min xs.length ys.length⟩
/-- how the cells of a zip lie -/
structure ZApart (z TI TO i1 i2 a b : Addr) : Prop where
  TIz : TI ≠ z
  TOz : TO ≠ z
  TITO : TI ≠ TO
  TIi1 : TI ≠ i1
  TIi2 : TI ≠ i2
  zi1 : z ≠ i1
  zi2 : z ≠ i2
  TOi1 : TO ≠ i1
  TOi2 : TO ≠ i2
  i12 : i1 ≠ i2
  az : a ≠ z
  aTO : a ≠ TO
  ai1 : a ≠ i1
  ai2 : a ≠ i2
  bz : b ≠ z
  bTO : b ≠ TO
  bi1 : b ≠ i1
  bi2 : b ≠ i2
theorem zapart_new (N a b : Nat) (ha : a < N) (hb : b < N) : ZApart (N + 4) (N + 2) (N + 3) N (N + 1) a b := by
  have ne : ∀ {x y : Nat}, x ≠ y → (x : Addr) ≠ (y : Addr) := fun h => h
  constructor <;> (apply ne; omega)
theorem ZApart.sep {z TI TO i1 i2 a b : Addr} (D : ZApart z TI TO i1 i2 a b) : ZipSep2 z TI TO i1 i2 [i1, a] [i2, b] :=
  ⟨D.TIz, D.TOz, D.TITO, D.TIi1, by simp, by simp [D.zi1, Ne.symm D.az], by simp [D.TOi1, Ne.symm D.aTO], D.TIi2, by simp, by simp [D.zi2, Ne.symm D.bz], by simp [D.TOi2, Ne.symm D.bTO],
    by simp [D.i12, Ne.symm D.bi1], by simp [Ne.symm D.i12, Ne.symm D.ai2]⟩
theorem turn_zipK {P : Program} {w : World} {K : PySem.W.Frag} {elts : List Expr} {kk : Nat} {tpos : Pos} (k k' : Sk) {a b z TI TO i1 i2 : Addr} (D : ZApart z TI TO i1 i2 a b) :
    Turn P w K (.Tuple elts kk tpos) (ItzK k k' K a b) [z, TI, TO, i1, i2] z (fun i h => IsZip h z TI TO .none ∧ IsTupOf2 h TI (.ref i1) (.ref i2) ∧ (∃ x y, IsTupOf2 h TO x y) ∧ ItIs k h i1 a i ∧ ItIs k' h i2 b i) where
  mem := by simp
  obj := fun i h st c hc => by
    obtain ⟨hz, hTI, ⟨x, y, hTO⟩, h1, h2⟩ := st
    have e' : c = z ∨ c = TI ∨ c = TO ∨ c = i1 ∨ c = i2 := by simpa using hc
    rcases e' with q | q | q | q | q
    · rw [q]; exact ⟨_, hz, fun v q => nomatch q⟩
    · rw [q]; exact ⟨_, hTI, fun v q => nomatch q⟩
    · rw [q]; exact ⟨_, hTO, fun v q => nomatch q⟩
    · rw [q]; exact itIs_obj h1
    · rw [q]; exact itIs_obj h2
  keep := fun i h h' st kp => by
    obtain ⟨hz, hTI, ⟨x, y, hTO⟩, h1, h2⟩ := st
    exact ⟨kp z (by simp) _ hz, kp TI (by simp) _ hTI, ⟨x, y, kp TO (by simp) _ hTO⟩, itIs_at h1 fun o q => kp i1 (by simp) o q, itIs_at h2 fun o q => kp i2 (by simp) o q⟩
  item := by
    intro X hP hw hK hc i pins s σ H E I hf st hg
    subst hP hw hK
    obtain ⟨hz, hTI, hTO, h1, h2⟩ := st
    obtain ⟨xs, ys, x, y, hqx, hqy, hx, hy⟩ := hg
    obtain ⟨its, rv, p, _, hal⟩ := inv_seq I hqx
    obtain ⟨its2, rv2, p2, _, hbl⟩ := inv_seq I hqy
    obtain ⟨u, hu, ru⟩ := rv.get hx
    obtain ⟨u2, hu2, ru2⟩ := rv2.get hy
    have hi : i < min its.toArray.size its2.toArray.size := by
      have q1 := (List.getElem?_eq_some_iff.mp hu).1
      have q2 := (List.getElem?_eq_some_iff.mp hu2).1
      simp only [List.size_toArray]; omega
    have old : ∀ c ∈ [z, TI, TO, i1, i2], c < s.heap.objs.size := fun c hc => by
      have e' : c = z ∨ c = TI ∨ c = TO ∨ c = i1 ∨ c = i2 := by simpa using hc
      obtain ⟨x0, y0, hTO'⟩ := hTO
      rcases e' with q | q | q | q | q
      · rw [q]; exact Heap.lt_size hz
      · rw [q]; exact Heap.lt_size hTI
      · rw [q]; exact Heap.lt_size hTO'
      · rw [q]; obtain ⟨_, e1, _⟩ := itIs_obj h1; exact Heap.lt_size e1
      · rw [q]; obtain ⟨_, e1, _⟩ := itIs_obj h2; exact Heap.lt_size e1
    have W := GoesN.zip2 (prog := X.prog) (w := X.w) (A := X.A) (elts := elts) (x1 := kk) (pos := tpos) D.sep (draws_seq k (A := X.A.in1) (I.ok.hd hc) i1 a D.ai1 its.toArray) (draws_seq k' (A := X.A.in1) (I.ok.hd hc) i2 b D.bi2 its2.toArray)
    refine W.goes i s _ E hi ⟨hz, hTI, hTO, ⟨h1, p⟩, ⟨h2, p2⟩⟩ fun v h' tk hY hst hk htk => ?_
    obtain ⟨T, u', u2', rfl, hTn, hP1, hP2, hT⟩ := hY
    obtain ⟨hz', hTI', hTO', ⟨h1', _⟩, ⟨h2', _⟩⟩ := hst
    have e1 : u' = u := by
      have q : its.toArray[i]? = some u := by simpa using hu
      rw [q] at hP1; exact (Option.some.inj hP1).symm
    have e2 : u2' = u2 := by
      have q : its2.toArray[i]? = some u2 := by simpa using hu2
      rw [q] at hP2; exact (Option.some.inj hP2).symm
    subst e1 e2
    have new : ObjOk X.prog X.w (upd H T (.tup [x, y])) h' T (.tup [x, y]) := by
      refine ⟨by show 2 ≤ sizeLine; decide, [u', u2'], .cons ru (.cons ru2 .nil), ?_⟩
      obtain ⟨o, e1, e2, n, e3⟩ := hT
      exact ⟨o, e1, e2, n, e3⟩
    have I1 : Inv X pins σ (upd H T (.tup [x, y])) { s with heap := h', toks := tk } :=
      I.turnedNew (ch := [z, TO, i1, i2]) (fun c ob hb q => hk c ob hb q) (fun c hc => hf c (by
        have e' : c = z ∨ c = TO ∨ c = i1 ∨ c = i2 := by simpa using hc
        rcases e' with q | q | q | q <;> simp [q])) hTn new
    refine ⟨.ref T, _, I1, rfl, ⟨T, x, y, rfl, I.hok.fresh hTn, rfl, fun l hl => by rw [inv_inj I hl hqx]; exact hx, fun l hl => by rw [inv_inj I hl hqy]; exact hy⟩, ⟨hz', hTI', hTO', h1', h2'⟩, fun c hcm => ?_⟩
    rw [upd_ne (Nat.ne_of_lt (Nat.lt_of_lt_of_le (old c hcm) hTn))]
    exact (hf c hcm).1
  done := by
    intro X hP hw hK hc i pins s σ H E I hf st hg
    subst hP hw hK
    obtain ⟨hz, hTI, hTO, h1, h2⟩ := st
    obtain ⟨xs, ys, hqx, hqy, hend⟩ := hg
    obtain ⟨its, rv, p, _, hal⟩ := inv_seq I hqx
    obtain ⟨its2, rv2, p2, _, hbl⟩ := inv_seq I hqy
    have l1 := rv.length
    have l2 := rv2.length
    have hn : min its.toArray.size its2.toArray.size = i := by simp only [List.size_toArray]; omega
    have W := GoesN.zip2 (prog := X.prog) (w := X.w) (A := X.A) (elts := elts) (x1 := kk) (pos := tpos) D.sep (draws_seq k (A := X.A.in1) (I.ok.hd hc) i1 a D.ai1 its.toArray) (draws_seq k' (A := X.A.in1) (I.ok.hd hc) i2 b D.bi2 its2.toArray)
    refine W.stops s _ E ⟨hz, hTI, hTO, ⟨by rw [hn]; exact h1, p⟩, ⟨by rw [hn]; exact h2, p2⟩⟩ fun h' tk hk htk => ?_
    exact I.turnedL (ch := [z, TO, i1, i2]) (fun c ob hb q => hk c ob hb q) (fun c hc => hf c (by
        have e' : c = z ∨ c = TO ∨ c = i1 ∨ c = i2 := by simpa using hc
        rcases e' with q | q | q | q <;> simp [q]))
  self := fun A i s Q E st h => wpAny_pyIter_zip st.1 h
def iZipK (K : PySem.W.Frag) (ta : TA) : TI := fun σ H R => ta σ H fun vs H1 => ∃ k k' a b xs ys, vs = [.ref a, .ref b] ∧ SqK k K H1 a xs ∧ SqK k' K H1 b ys ∧ R (ItzK k k' K a b) H1
theorem pi_zipK {X : Cx} {e e2 : Expr} {ta : TA} {p pos tpos : Pos} {elts : List Expr} {kk : Nat} (hg : Gl X "zip") (hm : X.mg "zip" = none) (ha : PA X [e, e2] ta)
    (hs : starEach [e, e2] X.env = (false, eval e X.env) :: starEach [e2] X.env) (hpl : (backTo pos (starEach [e2] X.env)).any (·.1) = false) :
    PI X (.Tuple elts kk tpos) (.Call (.Name "zip" p) [e, e2] [] pos) (iZipK X.K ta) := by
  refine ⟨fun pins s σ H R I h => ?_⟩
  refine Call_ (ld_blt I hg hm PyProof.Rows.boot_zip (PyProof.Rows.callWith_type1 (thn (ha.run pos pins s σ H _ I h) fun us s1 ⟨vs, H1, I1, r1, q1⟩ => ?_) hs hpl))
  obtain ⟨k, k', a, b, xs, ys, ex, hqx, hqy, q⟩ := q1
  subst ex
  cases r1 with
  | cons r rr =>
    cases rr with
    | cons r' rr =>
      cases rr
      cases r
      cases r'
      obtain ⟨its, rv, p1, _, hal⟩ := inv_seq I1 hqx
      obtain ⟨its2, rv2, p2, _, hbl⟩ := inv_seq I1 hqy
      refine zip_begins2 (begins_seq k a its.toArray) (begins_seq k' b its2.toArray) p1 p2 fun h' hz hTI hTO h1 h2 hsz hk => wpAny_pyIter_zip hz ?_
      have I2 : Inv X pins σ H1 { s1 with heap := h' } := I1.kept (t' := s1.toks) hk
      have D : ZApart (s1.heap.objs.size + 4) (s1.heap.objs.size + 2) (s1.heap.objs.size + 3) s1.heap.objs.size (s1.heap.objs.size + 1) a b := zapart_new _ _ _ hal hbl
      refine ⟨s1.heap.objs.size + 4, [s1.heap.objs.size + 4, s1.heap.objs.size + 2, s1.heap.objs.size + 3, s1.heap.objs.size, s1.heap.objs.size + 1], _, _, H1, rfl, I2, turn_zipK k k' D,
        ⟨hz, hTI, ⟨_, _, hTO⟩, itIs_new k _ _ _ h1, itIs_new k' _ _ _ h2⟩, fun c hcm => ?_, q⟩
      have e' : c = s1.heap.objs.size + 4 ∨ c = s1.heap.objs.size + 2 ∨ c = s1.heap.objs.size + 3 ∨ c = s1.heap.objs.size ∨ c = s1.heap.objs.size + 1 := by simpa using hcm
      have hle : s1.heap.objs.size ≤ c := by
        rcases e' with z | z | z | z | z
        · rw [z]; exact Nat.le_add_right _ _
        · rw [z]; exact Nat.le_add_right _ _
        · rw [z]; exact Nat.le_add_right _ _
        · rw [z]; exact Nat.le_refl _
        · rw [z]; exact Nat.le_add_right _ _
      exact I1.fpOk hle (I1.hok.fresh hle)

/-! ### a list, a tuple, a text -/
def iPlain (K : PySem.W.Frag) (tl : TE) : TI := fun σ H R => tl σ H fun x H1 => (∃ k a xs, x = .ref a ∧ SqK k K H1 a xs ∧ R (match k with | .L => Itl K a | .T => Itt K a) H1) ∨ ∃ z, x = .str z ∧ R (Its z) H1
theorem pi_plain {X : Cx} {tg l : Expr} {tl : TE} (hl : L2.PE X l tl) : PI X tg l (iPlain X.K tl) := by
  refine ⟨fun pins s σ H R I h => ?_⟩
  have lift : ∀ {t' : TI}, PI X tg l t' → t' σ H R → wpAny (model X.prog X.w) X.A (eval l X.env) (fun v s1 => wpAny (model X.prog X.w) X.A (pyIter v) (PIE X pins σ tg R) X.xe s1) X.xe s := fun p q => p.run pins s σ H R I q
  refine thn (hl.run pins s σ H _ I h) fun v s1 ⟨x, H1, I1, r1, q1⟩ => ?_
  have here : L2.PE X l (fun _ _ _ => True) → True := fun _ => trivial
  rcases q1 with ⟨k, a, xs, rfl, hq, q⟩ | ⟨z, rfl, q⟩
  · cases r1
    cases k with
    | L =>
      obtain ⟨its, rv, p, _⟩ := I1.list hq
      refine wpAny_pyIter_list p.isList ?_
      exact pi_one I1 _ (turn_list a s1.heap.objs.size) ⟨_, Heap.get?_push_size _ rfl, rfl, rfl⟩ q
    | T =>
      obtain ⟨its, rv, p, _⟩ := I1.tuple hq
      refine wpAny_pyIter_tuple (show s1.heap.IsTuple a its.toArray from p) ?_
      exact pi_one I1 _ (turn_tuple a s1.heap.objs.size) ⟨_, Heap.get?_push_size _ rfl, rfl, rfl⟩ q
  · obtain ⟨t, rfl⟩ := r1
    cases ha : z.cps.all (· < 128)
    · exact wpAny_pyIter_wide ha (pi_one I1 _ (turn_str s1.heap.objs.size z t "str_iterator" (.inr rfl)) ⟨_, Heap.get?_push_size _ rfl, rfl, rfl⟩ q)
    · exact wpAny_pyIter_ascii ha (pi_one I1 _ (turn_str s1.heap.objs.size z t "str_ascii_iterator" (.inl rfl)) ⟨_, Heap.get?_push_size _ rfl, rfl, rfl⟩ q)
end PL

set_option Elab.async false
set_option linter.all false
set_option maxRecDepth 100000
set_option maxHeartbeats 1000000
/-! PLE: calls of defs where no repr is under way, the shapes of the program's expressions, and the look that holds them against the small language. -/
namespace PL
open PySem PySem.Spec PyProof.Rows L2

/-! ### defs -/
structure FnOkG (P : Program) (w : World) (K : PySem.W.Frag) (mg : Str → Option Value) (base : Heap) (CX : CXT) (k : Nat) (f : Addr) (fd : FuncData) (ps : List Str) (sp : Sp) : Prop where
  len : ∀ vs H Q E, sp vs H Q E → vs.length = ps.length
  run : ∀ (A : Around) (outer : List PySem.Env) (s : Shared) (H : Hp) (args : Args) (us : List Value) (vs : List V) (Q : VK) (E : XK), A.guards = some [] → Room k A → Env0 P w K mg base A outer s H → BindsTo s fd args (ps.zip us) → Vals vs us → sp vs H Q E →
    codeAny (model P w) A (.call (.ref f) args) (CR CX outer P w H s Q E) s
section
variable {X : Cx} {CX : CXT} {k : Nat} {f : Addr} {fd : FuncData} {ps : List Str} {sp : Sp} {E : XK} {x : Str} {p pos : Pos} {e : Expr} {es : List Expr} {t : TA}
theorem run_fnG {pins : List (Addr × Obj)} {σ : L2.St} {H : Hp} {s : Shared} {Q : VK} {us ws : List Value} {kw : List (Str × Value)} {vs : List V} (F : FnOkG X.prog X.w X.K X.mg X.base CX k f fd ps sp) (hg : X.A.guards = some []) (hr : Room k X.A) (hx : Passes CX X E)
    (I : Inv X pins σ H s) (hb : BindsTo s fd ⟨us, kw⟩ (ps.zip ws)) (r : Vals vs ws) (h : sp vs H Q E) : wpAny (model X.prog X.w) X.A (call (.ref f) us kw) (EP X pins σ Q) X.xe s := by
  refine wpAny_call (codeAny_mono (F.run X.A X.stack s H ⟨us, kw⟩ ws vs Q E hg hr I.env0 hb r h) fun r s' hq => ?_)
  cases r with
  | error e => exact hx pins σ H s e s' I hq
  | ok fl =>
    cases fl with
    | ret u => exact I.after hq
    | next => exact False.elim hq
    | brk => exact False.elim hq
    | cont => exact False.elim hq
/-- how a def binds what is handed in -/
structure FnAt (X : Cx) (CX : CXT) (k : Nat) (x : Str) (ps : List Str) (kws : List (Nat × List Str × List Nat)) (sp : Sp) (f : Addr) (fd : FuncData) : Prop where
  mg : X.mg x = some (.ref f)
  keep : PySem.W.keepIn X.K (.ref f) = true
  bind : ∀ (s : Shared) (us : List Value), us.length = ps.length → BindsTo s fd ⟨us, []⟩ (ps.zip us)
  bindK : ∀ q ∈ kws, ∀ (s : Shared) (us ws : List Value), us.length = q.1 → ws.length = q.2.1.length → BindsTo s fd ⟨us, q.2.1.zip ws⟩ (ps.zip (q.2.2.map fun j => (us ++ ws).getD j .none))
  ok : FnOkG X.prog X.w X.K X.mg X.base CX k f fd ps sp
theorem pe_callG {kws : List (Nat × List Str × List Nat)} (F : FnAt X CX k x ps kws sp f fd) (hg : X.A.guards = some []) (hr : Room k X.A) (hgl : Gl X x) (hx : Passes CX X E)
    (ha : PA X (e :: es) t) (hdb : (x == ("__debug__" : Str)) = false) (he : starEach (e :: es) X.env = (false, eval e X.env) :: starEach es X.env) (hpl : (backTo pos (starEach es X.env)).any (·.1) = false) :
    L2.PE X (.Call (.Name x p) (e :: es) [] pos) (tCall sp [] E t) := by
  refine ⟨fun pins s σ H Q I h => ?_⟩
  refine wpAny_Call_Name_kw (ld_glob I hgl F.mg ?_ hdb)
  refine PySem.W.callWith_K (h₀ := X.base) I.ok.mod.kin F.keep (thn (ha.run pos pins s σ H _ I h) fun us s1 ⟨vs, H1, I1, r, q⟩ => ⟨I1.kIn, ?_⟩) he hpl
  have q' : sp vs H1 Q E := by simpa using q
  exact run_fnG F.ok hg hr hx I1 (F.bind s1 us (by rw [← r.length]; exact F.ok.len _ _ _ _ q')) r q'
theorem pe_callG0 {kws : List (Nat × List Str × List Nat)} (F : FnAt X CX k x ps kws sp f fd) (hg : X.A.guards = some []) (hr : Room k X.A) (hgl : Gl X x) (hx : Passes CX X E)
    (hdb : (x == ("__debug__" : Str)) = false) : L2.PE X (.Call (.Name x p) [] [] pos) (tCall sp [] E tNil) := by
  refine ⟨fun pins s σ H Q I h => ?_⟩
  refine wpAny_Call_Name_kw (ld_glob I hgl F.mg ?_ hdb)
  have q' : sp [] H Q E := by simpa [tCall, tNil] using h
  exact PySem.W.callWith_K0 I.kIn F.keep (run_fnG (us := []) (ws := []) F.ok hg hr hx I (F.bind s [] (F.ok.len _ _ _ _ q')) .nil q')
/-- what is handed in by place, then by names; put in the parameters' order -/
def tCallP (sp : Sp) (n m : Nat) (g : List Nat) (E : XK) (t tk : TA) : TE := fun σ H Q => t σ H fun vs H1 => tk σ H1 fun zs H2 => vs.length = n ∧ zs.length = m ∧ sp (g.map fun j => (vs ++ zs).getD j .non) H2 Q E
theorem vals_getD {vs : List V} {us : List Value} (r : Vals vs us) (j : Nat) : RelV (vs.getD j .non) (us.getD j .none) := by
  by_cases hj : j < vs.length
  · have h1 : vs[j]? = some vs[j] := List.getElem?_eq_getElem hj
    obtain ⟨u, h2, h3⟩ := r.get h1
    rw [List.getD_eq_getElem?_getD, List.getD_eq_getElem?_getD, h1, h2]
    exact h3
  · have h1 : vs[j]? = none := List.getElem?_eq_none (by omega)
    rw [List.getD_eq_getElem?_getD, List.getD_eq_getElem?_getD, h1, r.none_of h1]
    rfl
theorem vals_perm {vs : List V} {us : List Value} (r : Vals vs us) : ∀ g : List Nat, Vals (g.map fun j => vs.getD j .non) (g.map fun j => us.getD j .none)
  | [] => .nil
  | j :: g => .cons (vals_getD r j) (vals_perm r g)
theorem pe_callGK {kws : List (Nat × List Str × List Nat)} (F : FnAt X CX k x ps kws sp f fd) (hg : X.A.guards = some []) (hr : Room k X.A) (hgl : Gl X x) (hx : Passes CX X E) {q : Nat × List Str × List Nat} (hq : q ∈ kws)
    {kl : List Keyword} {tk : TA} (ha : PA X (e :: es) t) (hkw : PK X kl tk) (hall : (backToKw pos (keywordEach kl X.env)).all (·.1.isSome) = true) (hks : (backToKw pos (keywordEach kl X.env)).filterMap (·.1) = q.2.1)
    (hdb : (x == ("__debug__" : Str)) = false) (he : starEach (e :: es) X.env = (false, eval e X.env) :: starEach es X.env)
    (hpl : ((backTo pos (starEach (e :: es) X.env)).any (·.1) || (backToKw pos (keywordEach kl X.env)).any (·.1.isNone)) = false) :
    L2.PE X (.Call (.Name x p) (e :: es) kl pos) (tCallP sp q.1 q.2.1.length q.2.2 E t tk) := by
  refine ⟨fun pins s σ H Q I h => ?_⟩
  refine wpAny_Call_Name_kw (ld_glob I hgl F.mg ?_ hdb)
  refine PySem.W.callWith_KW (h₀ := X.base) I.ok.mod.kin F.keep hall (thn (ha.run pos pins s σ H _ I h) fun us s1 ⟨vs, H1, I1, r, q1⟩ => ?_) hpl he
  refine thn (hkw.run pos pins s1 σ H1 _ I1 q1) fun ws s2 ⟨zs, H2, I2, rz, l1, l2, q2⟩ => ⟨I2.kIn, ?_⟩
  rw [hks]
  exact run_fnG F.ok hg hr hx I2 (F.bindK q hq s2 us ws (r.length.symm.trans l1) (rz.length.symm.trans l2)) (vals_perm (r.append rz) _) q2
theorem pe_callGK0 {kws : List (Nat × List Str × List Nat)} (F : FnAt X CX k x ps kws sp f fd) (hg : X.A.guards = some []) (hr : Room k X.A) (hgl : Gl X x) (hx : Passes CX X E) {q : Nat × List Str × List Nat} (hq : q ∈ kws)
    {kl : List Keyword} {tk : TA} (hkw : PK X kl tk) (hall : (backToKw pos (keywordEach kl X.env)).all (·.1.isSome) = true) (hks : (backToKw pos (keywordEach kl X.env)).filterMap (·.1) = q.2.1)
    (hdb : (x == ("__debug__" : Str)) = false) (hpl : ((backTo pos (starEach [] X.env)).any (·.1) || (backToKw pos (keywordEach kl X.env)).any (·.1.isNone)) = false) :
    L2.PE X (.Call (.Name x p) [] kl pos) (tCallP sp q.1 q.2.1.length q.2.2 E tNil tk) := by
  refine ⟨fun pins s σ H Q I h => ?_⟩
  refine wpAny_Call_Name_kw (ld_glob I hgl F.mg ?_ hdb)
  refine PySem.W.callWith_KW0 (h₀ := X.base) I.ok.mod.kin F.keep hall ?_ hpl
  refine thn (hkw.run pos pins s σ H _ I h) fun ws s2 ⟨zs, H2, I2, rz, l1, l2, q2⟩ => ⟨I2.kIn, ?_⟩
  rw [hks]
  exact run_fnG F.ok hg hr hx I2 (F.bindK q hq s2 [] ws l1 (rz.length.symm.trans l2)) (vals_perm rz _) q2
end

/-! ### shapes -/
def asName : Expr → Option Str | .Name x _ => some x | _ => none
def asConst : Expr → Option Const | .Constant c _ _ => some c | _ => none
def asBin : Expr → Option (Expr × Operator × Expr) | .BinOp a o b _ => some (a, o, b) | _ => none
def asUn : Expr → Option (UnaryOp × Expr) | .UnaryOp o a _ => some (o, a) | _ => none
def asBool : Expr → Option (BoolOp × List Expr × Pos) | .BoolOp o l p => some (o, l, p) | _ => none
def asCmp : Expr → Option (Expr × List CmpOp × List Expr) | .Compare a o l _ => some (a, o, l) | _ => none
def asIf : Expr → Option (Expr × Expr × Expr) | .IfExp c a b _ => some (c, a, b) | _ => none
def asTup : Expr → Option (List Expr) | .Tuple l _ _ => some l | _ => none
def asLst : Expr → Option (List Expr) | .List l _ => some l | _ => none
def asDic : Expr → Option (List (Option Expr) × List Expr) | .Dict k v _ => some (k, v) | _ => none
def asCall : Expr → Option (Str × List Expr × List Keyword) | .Call (.Name x _) a k _ => some (x, a, k) | _ => none
def asMeth : Expr → Option (Expr × Str × Bool × List Expr) | .Call (.Attribute o m ap) a [] cp => some (o, m, ap.endLine == cp.line, a) | _ => none
def asSub : Expr → Option (Expr × Expr) | .Subscript a b _ => some (a, b) | _ => none
def asSlice : Expr → Option (Option Expr × Option Expr) | .Slice a b none _ => some (a, b) | _ => none
def asRev : Expr → Option Expr | .Subscript e (.Slice none none (some (.UnaryOp .USub (.Constant (.int 1) _ _) _)) _) _ => some e | _ => none
def asLc : Expr → Option (Expr × Expr × Expr × List Expr × Scope) | .ListComp e [⟨t, i, c, 0⟩] s _ => some (e, t, i, c, s) | _ => none
theorem asName_eq {e : Expr} {x : Str} (h : asName e = some x) : ∃ p, e = .Name x p := by cases e <;> simp [asName] at h; exact ⟨_, by rw [h]⟩
theorem asConst_eq {e : Expr} {c : Const} (h : asConst e = some c) : ∃ k p, e = .Constant c k p := by cases e <;> simp [asConst] at h; exact ⟨_, _, by rw [h]⟩
theorem asBin_eq {e a b : Expr} {o : Operator} (h : asBin e = some (a, o, b)) : ∃ p, e = .BinOp a o b p := by cases e <;> simp [asBin] at h; obtain ⟨rfl, rfl, rfl⟩ := h; exact ⟨_, rfl⟩
theorem asUn_eq {e a : Expr} {o : UnaryOp} (h : asUn e = some (o, a)) : ∃ p, e = .UnaryOp o a p := by cases e <;> simp [asUn] at h; obtain ⟨rfl, rfl⟩ := h; exact ⟨_, rfl⟩
theorem asBool_eq {e : Expr} {o : BoolOp} {l : List Expr} {p : Pos} (h : asBool e = some (o, l, p)) : e = .BoolOp o l p := by cases e <;> simp [asBool] at h; obtain ⟨rfl, rfl, rfl⟩ := h; rfl
theorem asCmp_eq {e a : Expr} {o : List CmpOp} {l : List Expr} (h : asCmp e = some (a, o, l)) : ∃ p, e = .Compare a o l p := by cases e <;> simp [asCmp] at h; obtain ⟨rfl, rfl, rfl⟩ := h; exact ⟨_, rfl⟩
theorem asIf_eq {e c a b : Expr} (h : asIf e = some (c, a, b)) : ∃ p, e = .IfExp c a b p := by cases e <;> simp [asIf] at h; obtain ⟨rfl, rfl, rfl⟩ := h; exact ⟨_, rfl⟩
theorem asTup_eq {e : Expr} {l : List Expr} (h : asTup e = some l) : ∃ k p, e = .Tuple l k p := by cases e <;> simp [asTup] at h; exact ⟨_, _, by rw [h]⟩
theorem asLst_eq {e : Expr} {l : List Expr} (h : asLst e = some l) : ∃ p, e = .List l p := by cases e <;> simp [asLst] at h; exact ⟨_, by rw [h]⟩
theorem asDic_eq {e : Expr} {k : List (Option Expr)} {v : List Expr} (h : asDic e = some (k, v)) : ∃ p, e = .Dict k v p := by cases e <;> simp [asDic] at h; obtain ⟨rfl, rfl⟩ := h; exact ⟨_, rfl⟩
theorem asCall_eq {e : Expr} {x : Str} {a : List Expr} {k : List Keyword} (h : asCall e = some (x, a, k)) : ∃ p pos, e = .Call (.Name x p) a k pos := by
  unfold asCall at h; split at h
  · cases h; exact ⟨_, _, rfl⟩
  · cases h
theorem asMeth_eq {e o : Expr} {m : Str} {b : Bool} {a : List Expr} (h : asMeth e = some (o, m, b, a)) : ∃ ap cp, e = .Call (.Attribute o m ap) a [] cp ∧ (ap.endLine == cp.line) = b := by
  unfold asMeth at h; split at h
  · cases h; exact ⟨_, _, rfl, rfl⟩
  · cases h
theorem asSub_eq {e a b : Expr} (h : asSub e = some (a, b)) : ∃ p, e = .Subscript a b p := by cases e <;> simp [asSub] at h; obtain ⟨rfl, rfl⟩ := h; exact ⟨_, rfl⟩
theorem asSlice_eq {e : Expr} {a b : Option Expr} (h : asSlice e = some (a, b)) : ∃ p, e = .Slice a b none p := by
  unfold asSlice at h; split at h
  · cases h; exact ⟨_, rfl⟩
  · cases h
theorem asRev_eq {e a : Expr} (h : asRev e = some a) : ∃ k p1 p2 p3 p, e = .Subscript a (.Slice none none (some (.UnaryOp .USub (.Constant (.int 1) k p1) p2)) p3) p := by
  unfold asRev at h; split at h
  · cases h; exact ⟨_, _, _, _, _, rfl⟩
  · cases h
theorem asLc_eq {e a t i : Expr} {c : List Expr} {s : Scope} (h : asLc e = some (a, t, i, c, s)) : ∃ p, e = .ListComp a [⟨t, i, c, 0⟩] s p := by
  unfold asLc at h; split at h
  · cases h; exact ⟨_, rfl⟩
  · cases h
/-- no star, no slice, no set, no comprehension -/
def noStar : Expr → Bool | .Starred _ _ => false | _ => true
def noSlice : Expr → Bool | .Slice _ _ _ _ => false | _ => true
def noSet : Expr → Bool | .Set _ _ _ => false | _ => true
def noComp : Expr → Bool | .ListComp _ _ _ _ => false | .SetComp _ _ _ _ => false | .DictComp _ _ _ _ _ => false | _ => true
def plainT : Expr → Bool | .UnaryOp .Not _ _ => false | .BoolOp _ _ _ => false | .IfExp _ _ _ _ => false | .Compare _ _ _ _ => false | _ => true
def noBase : Expr → Bool | .Call (.Name _ _) [] [] _ => false | _ => true
theorem star_cons {e : Expr} (h : noStar e = true) (es : List Expr) (env : PySem.Env) : starEach (e :: es) env = (false, eval e env) :: starEach es env := by
  cases e <;> first | rfl | cases h
theorem stars_plain {pos : Pos} {env : PySem.Env} : ∀ {es : List Expr}, es.all noStar = true → (backTo pos (starEach es env)).any (·.1) = false
  | [], _ => rfl
  | e :: es, h => by
    rw [List.all_cons, Bool.and_eq_true] at h
    rw [star_cons h.1]
    have := stars_plain (pos := pos) (env := env) h.2
    simpa [backTo] using this
theorem stars_all {pos : Pos} {env : PySem.Env} : ∀ {es : List Expr}, es.all noStar = true → (backTo pos (starEach es env)).all (fun x => !x.1) = true
  | [], _ => rfl
  | e :: es, h => by
    rw [List.all_cons, Bool.and_eq_true] at h
    rw [star_cons h.1]
    have := stars_all (pos := pos) (env := env) h.2
    simpa [backTo] using this
theorem noSlice_ix {e : Expr} (h : noSlice e = true) : PlainIx e := by
  intro o i
  cases e <;> first | rfl | cases h
theorem noSet_fold {e : Expr} (h : noSet e = true) (env : PySem.Env) : ∀ x, foldedSetIterable e env x = pure x := by
  intro x
  cases e <;> first | rfl | cases h
theorem noSet_marks {e : Expr} (h : noSet e = true) (op : CmpOp) : behindInMarks op e = false := by
  cases e <;> first | rfl | cases h
theorem plainT_is {e : Expr} (h : plainT e = true) (env : PySem.Env) : ∀ whole, isTrue e env whole = (do let v ← whole; standAt e.pos; holding [v] (truthy v)) := by
  intro whole
  cases e <;> first | rfl | (cases h; done) | skip
  rename_i op a p
  cases op <;> first | rfl | cases h
theorem noBase_is {o : Expr} (h : noBase o = true) (m : Str) (env : PySem.Env) (w : Sem Value) : attributeBase o m env w = w := by
  unfold attributeBase
  split
  · cases h
  · rfl
theorem noComp_sw {e : Expr} (h : noComp e = true) (t : Option Expr) (n : Nat) (env : PySem.Env) : swapsWith e t n env = pure false := by
  cases e <;> first | rfl | cases h
end PL

set_option Elab.async false
set_option linter.all false
set_option maxRecDepth 100000
set_option maxHeartbeats 2000000
/-! PLF: the look that holds the program's own syntax against the small language, and what it is good for: expressions. -/
namespace PL
open PySem PySem.Spec PyProof.Rows L2

structure Tab where
  fns : List (Str × List Str)
  kws : List (Nat × Nat × List Str × List Nat)
  free : List Str
  cons : List (Str × D)
def Tab.kwsOf (B : Tab) (i : Nat) : List (Nat × List Str × List Nat) := B.kws.filterMap fun q => if q.1 = i then some q.2 else none
def CXP : CXT := fun _ _ _ _ _ _ => False
theorem passP {X : Cx} {E : XK} : Passes CXP X E := fun _ _ _ _ _ _ _ h => h.elim
def spU (K : PySem.W.Frag) (m : List D → Sto → Res D) (n : Nat) : Sp := fun vs H Q _ => ∃ as st ds, Rel K as st H ∧ RVs K as H ds vs ∧ ds.length = n ∧ GE K Q as H (m ds st)
structure Ctx (B : Tab) (F : Nat → List D → Sto → Res D) (G : List D) (N : List Str) (sc : Scope) (k : Nat) (X : Cx) : Prop where
  fit : Fit X
  hN : X.N = N
  nd : N.Nodup
  sub : ∀ (x : Str) (q : NameKind), sc.names.lookup x = some q → ∃ q', X.env.scope.names.lookup x = some q' ∧ (q' = q ∨ (q = .free ∧ q' = .cell))
  fnc : ∀ x : Str, sc.names.lookup x = some .cell → X.fn x = true
  room : Room k X.A
  fns : ∀ (i : Nat) (x : Str) (ps : List Str), B.fns[i]? = some (x, ps) → ∃ f fd, FnAt X CXP k x ps (B.kwsOf i) (spU X.K (F i) ps.length) f fd
  free : ∀ x ∈ B.free, X.mg x = none
  con : ∀ (i : Nat) (x : Str) (d : D), B.cons[i]? = some (x, d) → G[i]? = some d ∧ ∃ u v, X.mg x = some u ∧ RelV v u ∧ ∀ as H, RV X.K as H d v

/-! ### the look -/
def dbgB (x : Str) : Bool := !(x == ("__debug__" : Str))
def visB (sc : Scope) (x : Str) : Bool := (match sc.names.lookup x with | some .local => true | some .cell => true | some .free => true | _ => false) && (dbgB x && !(x == ("__classdict__" : Str)))
def glB (sc : Scope) (x : Str) : Bool := (match sc.names.lookup x with | some .globalImplicit => true | _ => false) && dbgB x
def locB (sc : Scope) (x : Str) : Bool := match sc.names.lookup x with | some .local => true | some .cell => true | _ => false
def Blt.nm : Blt → Str
  | .len => "len" | .abs => "abs" | .int => "int" | .tuple => "tuple" | .list => "list" | .min2 => "min" | .max2 => "max" | .repr => "repr" | .strI => "str" | .isi _ => "isinstance" | .dictP => "dict"
def Ty.sn (t : Ty) : Str := Str.ofString t.nm
def Mt.nm : Mt → Str
  | .append => "append" | .pop0 => "pop" | .popAt => "pop" | .insert => "insert" | .extend => "extend"
def ItK.nm : ItK → Str
  | .plain => "" | .range1 => "range" | .range2 => "range" | .range3 => "range" | .enum => "enumerate" | .zip => "zip"
def keyB (k : Key) (e : Option Expr) : Bool := match e with
  | some e => (match asConst e, k with
    | some (.int j), .inl i => decide (i = j)
    | some (.str y), .inr x => decide (x = y)
    | _, _ => false)
  | none => false
def keysB : List Key → List (Option Expr) → Bool
  | [], [] => true
  | k :: ks, e :: es => keyB k e && keysB ks es
  | _, _ => false
def fnB (B : Tab) (f : Nat) (x : Str) (n : Nat) : Bool := match B.fns[f]? with
  | some (y, ps) => decide (x = y) && decide (n = ps.length)
  | none => false
def kwB (B : Tab) (f : Nat) (x : Str) (n : Nat) (kl : List Keyword) (g : List Nat) : Bool := (match B.fns[f]? with
  | some (y, ps) => decide (x = y) && decide (g.length = ps.length)
  | none => false) && (kl.all (·.arg.isSome) && decide ((f, n, kl.filterMap (·.arg), g) ∈ B.kws))
def conB (B : Tab) (i : Nat) (x : Str) : Bool := match B.cons[i]? with
  | some (y, _) => decide (x = y)
  | none => false
def freeB (B : Tab) (sc : Scope) (x y : Str) : Bool := decide (x = y) && (decide (y ∈ B.free) && glB sc x)
def tgOwn : Tg → List Nat → Bool
  | .name i, own => own.contains i
  | .tup ts, own => tgsOwn ts own
  | .sub _ _, _ => true
where tgsOwn : Tgs → List Nat → Bool
  | .nil, _ => true
  | .cons t ts, own => tgOwn t own && tgsOwn ts own
def isTup : Expr → Bool | .Tuple _ _ _ => true | _ => false

def isN : E → Bool | .cN => true | _ => false
def isYes : T → Bool | .yes => true | _ => false
def onlyIf (b : Bool) (l : List Expr) : Option (List Expr) := match b with | true => some l | false => none
theorem onlyIf_of {b : Bool} {l l' : List Expr} (h : onlyIf b l = some l') : b = true ∧ l = l' := by
  cases b
  · cases h
  · cases h; exact ⟨rfl, rfl⟩
/-- the arguments of a built-in that are looked at -/
def bltA (B : Tab) (sc : Scope) (b : Blt) (e : Expr) : Option (List Expr) := match asCall e with
  | some (x, args, []) => (match b, args with
    | .isi t, [a, c] => onlyIf (freeB B sc x "isinstance" && (match asName c with | some y => freeB B sc y t.sn | none => false)) [a]
    | .isi _, _ => none
    | .dictP, _ => none
    | b, a0 :: al => onlyIf (freeB B sc x b.nm) (a0 :: al)
    | _, _ => none)
  | _ => none
/-- what is walked: the arguments that are looked at -/
def itA (B : Tab) (sc : Scope) (k : ItK) (it tg : Expr) : Option (List Expr) := match k with
  | .plain => some [it]
  | k => match asCall it with
    | some (x, args, []) => onlyIf (freeB B sc x k.nm && (match k, args with
        | .range1, [_] => true
        | .range2, [_, _] => true
        | .range3, [_, _, _] => true
        | .enum, [_] => isTup tg
        | .zip, [_, _] => isTup tg
        | _, _ => false)) args
    | _ => none
section
variable (B : Tab) (N : List Str)
mutual
def chkE : E → Scope → Expr → Bool
  | .var i, sc, e => match asName e with | some x => decide (N[i]? = some x) && visB sc x | none => false
  | .cI i, _, e => match asConst e with | some (.int j) => decide (i = j) | _ => false
  | .cB b, _, e => match asConst e with | some (.bool c) => b == c | _ => false
  | .cS x, _, e => match asConst e with | some (.str y) => decide (x = y) | _ => false
  | .cN, _, e => match asConst e with | some .none => true | _ => false
  | .gcon i, sc, e => match asName e with | some x => conB B i x && glB sc x | none => false
  | .bin op a b, sc, e => match asBin e with | some (x, o, y) => decide (o = op.op) && (chkE a sc x && chkE b sc y) | none => false
  | .neg a, sc, e => match asUn e with | some (.USub, x) => chkE a sc x | _ => false
  | .notE a, sc, e => match asUn e with | some (.Not, x) => chkE a sc x | _ => false
  | .and1 a, sc, e => match asBool e with | some (.And, [x], _) => chkE a sc x | _ => false
  | .and2 a r, sc, e => match asBool e with | some (.And, x :: y :: l, p) => chkE a sc x && chkE r sc (.BoolOp .And (y :: l) p) | _ => false
  | .or1 a, sc, e => match asBool e with | some (.Or, [x], _) => chkE a sc x | _ => false
  | .or2 a r, sc, e => match asBool e with | some (.Or, x :: y :: l, p) => chkE a sc x && chkE r sc (.BoolOp .Or (y :: l) p) | _ => false
  | .cmp op a b, sc, e => match asCmp e with | some (x, [o], [y]) => decide (o = op.op) && (noSet y && (chkE a sc x && chkE b sc y)) | _ => false
  | .cmp2 op op' a b c, sc, e => match asCmp e with | some (x, [o, o'], [y, z]) => (decide (o = op.op) && decide (o' = op'.op)) && (noSet z && (chkE a sc x && (chkE b sc y && chkE c sc z))) | _ => false
  | .ife c a b, sc, e => match asIf e with | some (x, y, z) => chkT c sc x && (chkE a sc y && chkE b sc z) | none => false
  | .tup es, sc, e => match asTup e with | some l => chkEs es sc l | none => false
  | .lst es, sc, e => match asLst e with | some l => chkEs es sc l | none => false
  | .dic ks es, sc, e => match asDic e with | some (kl, vl) => (keysB ks kl && (decide (kl.length = vl.length) && (decide (kl.length ≤ 15) && !kl.isEmpty))) && chkEs es sc vl | none => false
  | .call f es, sc, e => match asCall e with | some (x, args, []) => (fnB B f x args.length && glB sc x) && chkEs es sc args | _ => false
  | .callK f es ks g, sc, e => match asCall e with | some (x, args, k0 :: kl) => (kwB B f x args.length (k0 :: kl) g && glB sc x) && (chkEs es sc args && chkEs ks sc ((k0 :: kl).map (·.value))) | _ => false
  | .blt b es, sc, e => match bltA B sc b e with | some l => chkEs es sc l | none => false
  | .meth m o es, sc, e => match asMeth e with | some (x, nm, ln, args) => (decide (nm = m.nm) && (ln && (noBase x && decide (args.length < 30)))) && (chkE o sc x && chkEs es sc args) | none => false
  | .idx a b, sc, e => match asSub e with | some (x, y) => noSlice y && (chkE a sc x && chkE b sc y) | none => false
  | .sl a lo hi, sc, e => match asSub e with
    | some (x, y) => (match asSlice y with
      | some (l, h) => chkE a sc x && ((match l with | some l => chkE lo sc l | none => isN lo) && (match h with | some h => chkE hi sc h | none => isN hi))
      | none => false)
    | none => false
  | .rev a, sc, e => match asRev e with | some x => chkE a sc x | none => false
  | .lc own elt t k es c, sc, e => match asLc e with
    | some (x, tg, it, ifs, sc') => (blkC N sc sc' (own.map fun j => (N.getD j "", j)) && (tgOwn t own && noSet it)) && ((match itA B sc k it tg with | some l => chkEs es sc l | none => false) && (chkTg t sc' tg && ((match ifs with | [] => isYes c | [y] => chkT c sc' y | _ => false) && chkE elt sc' x)))
    | none => false
def chkEs : Es → Scope → List Expr → Bool
  | .nil, _, [] => true
  | .cons e es, sc, x :: l => noStar x && (chkE e sc x && chkEs es sc l)
  | _, _, _ => false
def chkT : T → Scope → Expr → Bool
  | .val a, sc, e => plainT e && chkE a sc e
  | .vc op a b, sc, e => match asCmp e with | some (x, [o], [y]) => decide (o = op.op) && (noSet y && (chkE a sc x && chkE b sc y)) | _ => false
  | .vc2 op op' a b c, sc, e => match asCmp e with | some (x, [o, o'], [y, z]) => (decide (o = op.op) && decide (o' = op'.op)) && (noSet z && (chkE a sc x && (chkE b sc y && chkE c sc z))) | _ => false
  | .not a, sc, e => match asUn e with | some (.Not, x) => chkT a sc x | _ => false
  | .and1 a, sc, e => match asBool e with | some (.And, [x], _) => chkT a sc x | _ => false
  | .and2 a r, sc, e => match asBool e with | some (.And, x :: y :: l, p) => chkT a sc x && chkT r sc (.BoolOp .And (y :: l) p) | _ => false
  | .or1 a, sc, e => match asBool e with | some (.Or, [x], _) => chkT a sc x | _ => false
  | .or2 a r, sc, e => match asBool e with | some (.Or, x :: y :: l, p) => chkT a sc x && chkT r sc (.BoolOp .Or (y :: l) p) | _ => false
  | .yes, _, _ => false
def chkTg : Tg → Scope → Expr → Bool
  | .name i, sc, e => match asName e with | some x => decide (N[i]? = some x) && locB sc x | none => false
  | .tup ts, sc, e => match asTup e with | some l => chkTgs ts sc l | none => false
  | .sub o i, sc, e => match asSub e with | some (x, y) => noSlice y && (chkE o sc x && chkE i sc y) | none => false
def chkTgs : Tgs → Scope → List Expr → Bool
  | .nil, _, [] => true
  | .cons t ts, sc, x :: l => noStar x && (chkTg t sc x && chkTgs ts sc l)
  | _, _, _ => false
end
end
end PL

set_option Elab.async false
set_option linter.all false
set_option maxRecDepth 100000
set_option maxHeartbeats 2000000
/-! PLG: the small language's meanings as the layer's meanings; one lemma for each form of expression. -/
namespace PL
open PySem PySem.Spec PyProof.Rows L2

def tE (K : PySem.W.Frag) (m : Env → Sto → Res D) : TE := fun σ H Q => ∃ as st env, Rel K as st H ∧ REnv K as H env σ ∧ GE K Q as H (m env st)
def tT (K : PySem.W.Frag) (m : Env → Sto → Res Bool) : TT := fun σ H Q => ∃ as st env, Rel K as st H ∧ REnv K as H env σ ∧ Good K (fun b _ H' => Q b H') as H (m env st)
def tA (K : PySem.W.Frag) (m : Env → Sto → Res (List D)) : TA := fun σ H Q => ∃ as st env, Rel K as st H ∧ REnv K as H env σ ∧ Good K (PL' K Q) as H (m env st)
abbrev PG' (K : PySem.W.Frag) (own : List Nat → Bool) (σ : L2.St) (Q : L2.St → Hp → Prop) : Env → List Addr → Hp → Prop := fun env' as' H' => ∀ σ', REnv K as' H' env' σ' → (∀ vs, own vs = true → wipe σ' vs = wipe σ vs) → Q σ' H'
def tG (K : PySem.W.Frag) (own : List Nat → Bool) (m : D → Env → Sto → Res Env) : TG := fun v σ H Q => ∃ as st env d, Rel K as st H ∧ REnv K as H env σ ∧ RV K as H d v ∧ Good K (PG' K own σ Q) as H (m d env st)
def tGs (K : PySem.W.Frag) (own : List Nat → Bool) (m : List D → Env → Sto → Res Env) : TGs := fun vs σ H Q => ∃ as st env ds, Rel K as st H ∧ REnv K as H env σ ∧ RVs K as H ds vs ∧ Good K (PG' K own σ Q) as H (m ds env st)
theorem pe_imp {X : Cx} {e : Expr} {t t' : TE} (h : L2.PE X e t) (f : ∀ σ H Q, t' σ H Q → t σ H Q) : L2.PE X e t' := ⟨fun pins s σ H Q I q => h.run pins s σ H Q I (f σ H Q q)⟩
theorem pt_imp {X : Cx} {e : Expr} {t t' : TT} (h : L2.PT X e t) (f : ∀ σ H Q, t' σ H Q → t σ H Q) : L2.PT X e t' := ⟨fun pins s σ H Q I q => h.run pins s σ H Q I (f σ H Q q)⟩
theorem pw_imp {X : Cx} {e : Expr} {t t' : TT} (h : PW X e t) (f : ∀ σ H Q, t' σ H Q → t σ H Q) : PW X e t' := ⟨fun wh pins s σ H Q I q => h.run wh pins s σ H Q I (f σ H Q q)⟩
theorem pa_imp {X : Cx} {e : List Expr} {t t' : TA} (h : PA X e t) (f : ∀ σ H Q, t' σ H Q → t σ H Q) : PA X e t' := ⟨fun p pins s σ H Q I q => h.run p pins s σ H Q I (f σ H Q q)⟩
theorem pk_imp {X : Cx} {e : List Keyword} {t t' : TA} (h : PK X e t) (f : ∀ σ H Q, t' σ H Q → t σ H Q) : PK X e t' := ⟨fun p pins s σ H Q I q => h.run p pins s σ H Q I (f σ H Q q)⟩
theorem pg_imp {X : Cx} {e : Expr} {t t' : TG} (h : PG X e t) (f : ∀ v σ H Q, t' v σ H Q → t v σ H Q) : PG X e t' := ⟨fun pins s σ H v u Q I r q => h.run pins s σ H v u Q I r (f v σ H Q q)⟩
theorem pgs_imp {X : Cx} {e : List Expr} {t t' : TGs} (h : PGs X e t) (f : ∀ v σ H Q, t' v σ H Q → t v σ H Q) : PGs X e t' := ⟨fun pins s σ H v u Q I r q => h.run pins s σ H v u Q I r (f v σ H Q q)⟩
theorem pi_imp {X : Cx} {tg e : Expr} {t t' : TI} (h : PI X tg e t) (f : ∀ σ H R, t' σ H R → t σ H R) : PI X tg e t' := ⟨fun pins s σ H R I q => h.run pins s σ H R I (f σ H R q)⟩
theorem pg_or {X : Cx} {e : Expr} {t u : TG} (h : PG X e t) (h' : PG X e u) : PG X e (fun v σ H Q => t v σ H Q ∨ u v σ H Q) := ⟨fun pins s σ H v uu Q I r q => by
  rcases q with q | q
  · exact h.run pins s σ H v uu Q I r q
  · exact h'.run pins s σ H v uu Q I r q⟩

section
variable {K : PySem.W.Frag} {σ : L2.St} {H : Hp} {Q : VK}
variable {ma mb mc : Env → Sto → Res D}
/-- one value, then more -/
theorem one_of {β : Type} {P : β → List Addr → Hp → Prop} {as : List Addr} {st : Sto} {env : Env} {f : D → Sto → Res β} (rel : Rel K as st H) (re : REnv K as H env σ) (g : Good K P as H ((ma env st).bind f)) :
    tE K ma σ H fun v H1 => ∃ as1 st1 d, Ext K as H as1 H1 ∧ Rel K as1 st1 H1 ∧ REnv K as1 H1 env σ ∧ RV K as1 H1 d v ∧ Good K P as1 H1 (f d st1) :=
  ⟨as, st, env, rel, re, g.bind.imp fun d as1 H1 e1 ⟨st1, _, r1, g1⟩ v rv => ⟨as1, st1, d, e1, r1, re.mono e1, rv, g1⟩⟩
theorem two_of {β : Type} {P : β → List Addr → Hp → Prop} {as : List Addr} {st : Sto} {env : Env} {f : D → D → Sto → Res β} (rel : Rel K as st H) (re : REnv K as H env σ) (g : Good K P as H ((ma env st).bind fun x st1 => (mb env st1).bind fun y st2 => f x y st2)) :
    tE K ma σ H fun v H1 => tE K mb σ H1 fun u H2 => ∃ as2 st2 x y, Ext K as H as2 H2 ∧ Rel K as2 st2 H2 ∧ REnv K as2 H2 env σ ∧ RV K as2 H2 x v ∧ RV K as2 H2 y u ∧ Good K P as2 H2 (f x y st2) :=
  ⟨as, st, env, rel, re, g.bind.imp fun d as1 H1 e1 ⟨st1, _, r1, g1⟩ v rv => ⟨as1, st1, env, r1, re.mono e1, g1.bind.imp fun y as2 H2 e2 ⟨st2, _, r2, g2⟩ u ru => ⟨as2, st2, d, y, e1.trans e2, r2, re.mono (e1.trans e2), RV.mono e2 _ _ rv, ru, g2⟩⟩⟩
theorem GE.here' {as : List Addr} {st : Sto} {d : D} {v : V} (g : GE K Q as H (.ok d st)) (rel : Rel K as st H) (rv : RV K as H d v) : Q v H := g.here rel v rv
theorem tE_mono {m : Env → Sto → Res D} {Q' : VK} (h : tE K m σ H Q) (f : ∀ v H', Q v H' → Q' v H') : tE K m σ H Q' := by
  obtain ⟨as, st, env, rel, re, g⟩ := h
  exact ⟨as, st, env, rel, re, g.imp fun d _ _ _ q v rv => f _ _ (q v rv)⟩
theorem tT_mono {m : Env → Sto → Res Bool} {Q Q' : Bool → Hp → Prop} (h : tT K m σ H Q) (f : ∀ v H', Q v H' → Q' v H') : tT K m σ H Q' := by
  obtain ⟨as, st, env, rel, re, g⟩ := h
  exact ⟨as, st, env, rel, re, g.imp fun d _ _ _ q => f _ _ q⟩
theorem tA_mono {m : Env → Sto → Res (List D)} {Q Q' : List V → Hp → Prop} (h : tA K m σ H Q) (f : ∀ v H', Q v H' → Q' v H') : tA K m σ H Q' := by
  obtain ⟨as, st, env, rel, re, g⟩ := h
  exact ⟨as, st, env, rel, re, g.imp fun d _ _ _ q v rv => f _ _ (q v rv)⟩
theorem all_of {β : Type} {m : Env → Sto → Res (List D)} {P : β → List Addr → Hp → Prop} {as : List Addr} {st : Sto} {env : Env} {f : List D → Sto → Res β} (rel : Rel K as st H) (re : REnv K as H env σ) (g : Good K P as H ((m env st).bind f)) :
    tA K m σ H fun vs H1 => ∃ as1 st1 ds, Ext K as H as1 H1 ∧ Rel K as1 st1 H1 ∧ REnv K as1 H1 env σ ∧ RVs K as1 H1 ds vs ∧ Good K P as1 H1 (f ds st1) :=
  ⟨as, st, env, rel, re, g.bind.imp fun d as1 H1 e1 ⟨st1, _, r1, g1⟩ v rv => ⟨as1, st1, d, e1, r1, re.mono e1, rv, g1⟩⟩
theorem test_of {β : Type} {m : Env → Sto → Res Bool} {P : β → List Addr → Hp → Prop} {as : List Addr} {st : Sto} {env : Env} {f : Bool → Sto → Res β} (rel : Rel K as st H) (re : REnv K as H env σ) (g : Good K P as H ((m env st).bind f)) :
    tT K m σ H fun b H1 => ∃ as1 st1, Ext K as H as1 H1 ∧ Rel K as1 st1 H1 ∧ REnv K as1 H1 env σ ∧ Good K P as1 H1 (f b st1) :=
  ⟨as, st, env, rel, re, g.bind.imp fun d as1 H1 e1 ⟨st1, _, r1, g1⟩ => ⟨as1, st1, e1, r1, re.mono e1, g1⟩⟩
end

section
variable {X : Cx} {a b c : Expr} {ma mb mc : Env → Sto → Res D} {ta tb : Env → Sto → Res Bool} {pos : Pos}
theorem s_var {i : Nat} {x : Str} {p : Pos} (hN : X.N[i]? = some x) (hv : Vis X.env.scope x) (hd : (x == ("__debug__" : Str)) = false) (hcd : (x == ("__classdict__" : Str)) = false) :
    L2.PE X (.Name x p) (tE X.K fun env st => match env[i]? with | some (some d) => .ok d st | _ => .bad) := by
  refine pe_imp (pe_var hN hv hd hcd) fun σ H Q ⟨as, st, env, rel, re, g⟩ => ?_
  simp only [] at g
  split at g
  · rename_i d e
    obtain ⟨v, h1, h2⟩ := re.2 i d e
    exact ⟨v, h1, g.here rel _ h2⟩
  · exact g.elim
theorem s_c {e : Expr} {d : D} {v : V} (h : L2.PE X e (tC v)) (hd : ∀ as H, RV X.K as H d v) : L2.PE X e (tE X.K fun _ st => .ok d st) :=
  pe_imp h fun σ H Q ⟨as, st, env, rel, re, g⟩ => g.here rel _ (hd _ _)
theorem s_gcon {x : Str} {d : D} {u : Value} {v : V} {p : Pos} {G : List D} {i : Nat} (hg : Gl X x) (hm : X.mg x = some u) (r : RelV v u) (hdb : (x == ("__debug__" : Str)) = false) (hd : ∀ as H, RV X.K as H d v) (hG : G[i]? = some d) :
    L2.PE X (.Name x p) (tE X.K fun _ st => liftO G[i]? st) := by
  rw [hG]; exact s_c (pe_glob hg hm r hdb) hd
theorem s_bin {op : Bop} (ha : L2.PE X a (tE X.K ma)) (hb : L2.PE X b (tE X.K mb)) : L2.PE X (.BinOp a op.op b pos) (tE X.K fun env st => (ma env st).bind fun x st1 => (mb env st1).bind fun y st2 => binD op x y st2) :=
  pe_imp (pe_op (op_bin op) ha hb) fun σ H Q ⟨as, st, env, rel, re, g⟩ => tE_mono (two_of rel re g) fun v H1 h => tE_mono h fun u H2 ⟨as2, st2, x, y, _, r2, _, rx, ry, g2⟩ => ⟨as2, st2, x, y, r2, rx, ry, g2⟩
theorem s_neg (ha : L2.PE X a (tE X.K ma)) : L2.PE X (.UnaryOp .USub a pos) (tE X.K fun env st => (ma env st).bind fun x st1 => match x with | .int i => .ok (.int (-i)) st1 | _ => .bad) :=
  pe_imp (pe_un un_neg ha) fun σ H Q ⟨as, st, env, rel, re, g⟩ => tE_mono (one_of rel re g) fun v H1 ⟨as1, st1, d, _, r1, _, rv, g1⟩ => by
    split at g1
    · have rv : v = _ := rv
      exact ⟨_, rv, g1.here r1 _ rfl⟩
    · exact g1.elim
theorem s_not (ha : L2.PE X a (tE X.K ma)) : L2.PE X (.UnaryOp .Not a pos) (tE X.K fun env st => (ma env st).bind fun x st1 => liftO ((truth st1 x).map fun b => .bl (!b)) st1) :=
  pe_imp (pe_notT ha) fun σ H Q ⟨as, st, env, rel, re, g⟩ => tE_mono (one_of rel re g) fun v H1 ⟨as1, st1, d, _, r1, _, rv, g1⟩ => by
    obtain ⟨z, e, g2⟩ := g1.lift
    obtain ⟨k, e1, rfl⟩ := Option.map_eq_some_iff.mp e
    exact ⟨k, truV_of r1 e1 rv, g2.here r1 _ rfl⟩
theorem s_and {l : List Expr} (ha : L2.PE X a (tE X.K ma)) (hb : L2.PE X (.BoolOp .And (b :: l) pos) (tE X.K mb)) :
    L2.PE X (.BoolOp .And (a :: b :: l) pos) (tE X.K fun env st => (ma env st).bind fun x st1 => match truth st1 x with | some true => mb env st1 | some false => .ok x st1 | none => .bad) :=
  pe_imp (pe_andT ha hb) fun σ H Q ⟨as, st, env, rel, re, g⟩ => tE_mono (one_of rel re g) fun v H1 ⟨as1, st1, d, e1, r1, re1, rv, g1⟩ => by
    split at g1
    · rename_i e; exact ⟨true, truV_of r1 e rv, by rw [if_pos rfl]; exact ⟨as1, st1, env, r1, re1, g1⟩⟩
    · rename_i e; exact ⟨false, truV_of r1 e rv, by rw [if_neg (by simp)]; exact g1.here r1 _ rv⟩
    · exact g1.elim
theorem s_or {l : List Expr} (ha : L2.PE X a (tE X.K ma)) (hb : L2.PE X (.BoolOp .Or (b :: l) pos) (tE X.K mb)) :
    L2.PE X (.BoolOp .Or (a :: b :: l) pos) (tE X.K fun env st => (ma env st).bind fun x st1 => match truth st1 x with | some true => .ok x st1 | some false => mb env st1 | none => .bad) :=
  pe_imp (pe_orT ha hb) fun σ H Q ⟨as, st, env, rel, re, g⟩ => tE_mono (one_of rel re g) fun v H1 ⟨as1, st1, d, e1, r1, re1, rv, g1⟩ => by
    split at g1
    · rename_i e; exact ⟨true, truV_of r1 e rv, by rw [if_pos rfl]; exact g1.here r1 _ rv⟩
    · rename_i e; exact ⟨false, truV_of r1 e rv, by rw [if_neg (by simp)]; exact ⟨as1, st1, env, r1, re1, g1⟩⟩
    · exact g1.elim
def mCmp (op : Cop) (ma mb : Env → Sto → Res D) : Env → Sto → Res D := fun env st => (ma env st).bind fun x st1 => (mb env st1).bind fun y st2 => liftO ((cmpD op x y st2).map .bl) st2
def mCmp2 (op op' : Cop) (ma mb mc : Env → Sto → Res D) : Env → Sto → Res D := fun env st => (ma env st).bind fun x st1 => (mb env st1).bind fun y st2 => match cmpD op x y st2 with
    | some true => (mc env st2).bind fun z st3 => liftO ((cmpD op' y z st3).map .bl) st3
    | some false => .ok (.bl false) st2
    | none => .bad
def mVal (m : Env → Sto → Res D) : Env → Sto → Res Bool := fun env st => (m env st).bind fun x st1 => liftO (truth st1 x) st1
def mTc (op : Cop) (ma mb : Env → Sto → Res D) : Env → Sto → Res Bool := fun env st => (ma env st).bind fun x st1 => (mb env st1).bind fun y st2 => liftO (cmpD op x y st2) st2
def mTc2 (op op' : Cop) (ma mb mc : Env → Sto → Res D) : Env → Sto → Res Bool := fun env st => (ma env st).bind fun x st1 => (mb env st1).bind fun y st2 => match cmpD op x y st2 with
    | some true => (mc env st2).bind fun z st3 => liftO (cmpD op' y z st3) st3
    | some false => .ok false st2
    | none => .bad
theorem cmp_of {op : Cop} {σ : L2.St} {H : Hp} {Q : VK} (h : tE X.K (mCmp op ma mb) σ H Q) : tOp (rC2 X.K op) (tE X.K ma) (tE X.K mb) σ H Q := by
  obtain ⟨as, st, env, rel, re, g⟩ := h
  refine tE_mono (two_of rel re g) fun v H1 h => tE_mono h fun u H2 ⟨as2, st2, x, y, _, r2, _, rx, ry, g2⟩ => ?_
  obtain ⟨z, e, g3⟩ := g2.lift
  obtain ⟨k, e1, rfl⟩ := Option.map_eq_some_iff.mp e
  exact ⟨as2, st2, x, y, k, r2, rx, ry, e1, g3.here r2 _ rfl⟩
theorem cmp2_of {op op' : Cop} {σ : L2.St} {H : Hp} {Q : VK} (h : tE X.K (mCmp2 op op' ma mb mc) σ H Q) : tChain (rC2 X.K op) (rC2 X.K op') (tE X.K ma) (tE X.K mb) (tE X.K mc) σ H Q := by
  obtain ⟨as, st, env, rel, re, g⟩ := h
  refine tE_mono (two_of rel re g) fun v H1 h => tE_mono h fun u H2 ⟨as2, st2, x, y, _, r2, re2, rx, ry, g2⟩ => ?_
  split at g2
  · rename_i e
    refine ⟨as2, st2, x, y, true, r2, rx, ry, e, true, rfl, ?_⟩
    rw [if_pos rfl]
    refine tE_mono (one_of r2 re2 g2) fun w H3 ⟨as3, st3, z, e3, r3, _, rz, g3⟩ => ?_
    obtain ⟨q, e4, g4⟩ := g3.lift
    obtain ⟨k, e5, rfl⟩ := Option.map_eq_some_iff.mp e4
    exact ⟨as3, st3, y, z, k, r3, RV.mono e3 _ _ ry, rz, e5, g4.here r3 _ rfl⟩
  · rename_i e
    exact ⟨as2, st2, x, y, false, r2, rx, ry, e, false, rfl, by rw [if_neg (by simp)]; exact g2.here r2 _ rfl⟩
  · exact g2.elim
theorem s_cmp (fx : Fit X) {op : Cop} (ha : L2.PE X a (tE X.K ma)) (hb : L2.PE X b (tE X.K mb)) (hs : noSet b = true) : L2.PE X (.Compare a [op.op] [b] pos) (tE X.K (mCmp op ma mb)) :=
  pe_imp (pe_cmpR (op_cmp (by have := fx.hu; omega) op) ha hb (noSet_marks hs _)) fun σ H Q h => cmp_of h
theorem lastM {op op' : CmpOp} {b c : Expr} (h : noSet c = true) : lastMarks [op, op'] [b, c] = false := by
  have := noSet_marks h op'
  simpa [lastMarks] using this
theorem s_cmp2 (fx : Fit X) {op op' : Cop} (ha : L2.PE X a (tE X.K ma)) (hb : L2.PE X b (tE X.K mb)) (hc : L2.PE X c (tE X.K mc)) (hs : noSet c = true) : L2.PE X (.Compare a [op.op, op'.op] [b, c] pos) (tE X.K (mCmp2 op op' ma mb mc)) :=
  pe_imp (pe_chain (op_cmp (by have := fx.hu; omega) op) (op_cmp (by have := fx.hu; omega) op') ha hb hc (lastM hs)) fun σ H Q h => cmp2_of h
theorem bind_ok {α β : Type} {r : Res α} {k : α → Sto → Res β} {b : β} {st' : Sto} (h : r.bind k = .ok b st') : ∃ a st1, r = .ok a st1 ∧ k a st1 = .ok b st' := by
  cases r with
  | ok a st1 => exact ⟨a, st1, rfl, h⟩
  | exc _ _ _ => cases h
  | bad => cases h
theorem lift_ok {α : Type} {o : Option α} {st st' : Sto} {a : α} (h : liftO o st = .ok a st') : o = some a ∧ st = st' := by
  cases o with
  | some b => cases h; exact ⟨rfl, rfl⟩
  | none => cases h
theorem s_tcmp (fx : Fit X) {op : Cop} (ha : L2.PE X a (tE X.K ma)) (hb : L2.PE X b (tE X.K mb)) (hs : noSet b = true) : L2.PT X (.Compare a [op.op] [b] pos) (tT X.K (mTc op ma mb)) :=
  pt_imp (pt_cmpR (op_cmp (by have := fx.hu; omega) op) ha hb (noSet_marks hs _)) fun σ H Q ⟨as, st, env, rel, re, g⟩ => tE_mono (two_of rel re g) fun v H1 h => tE_mono h fun u H2 ⟨as2, st2, x, y, _, r2, _, rx, ry, g2⟩ => by
    obtain ⟨z, e, g3⟩ := g2.lift
    exact ⟨as2, st2, x, y, z, r2, rx, ry, e, z, rfl, g3.here r2⟩
theorem s_tcmp2 (fx : Fit X) {op op' : Cop} (ha : L2.PE X a (tE X.K ma)) (hb : L2.PE X b (tE X.K mb)) (hc : L2.PE X c (tE X.K mc)) (hs : noSet c = true) : L2.PT X (.Compare a [op.op, op'.op] [b, c] pos) (tT X.K (mTc2 op op' ma mb mc)) :=
  pt_imp (pt_chain (op_cmp (by have := fx.hu; omega) op) (op_cmp (by have := fx.hu; omega) op') ha hb hc (lastM hs)) fun σ H Q ⟨as, st, env, rel, re, g⟩ => tE_mono (two_of rel re g) fun v H1 h => tE_mono h fun u H2 ⟨as2, st2, x, y, _, r2, re2, rx, ry, g2⟩ => by
    split at g2
    · rename_i e
      refine ⟨as2, st2, x, y, true, r2, rx, ry, e, true, rfl, ?_⟩
      rw [if_pos rfl]
      refine tE_mono (one_of r2 re2 g2) fun w H3 ⟨as3, st3, z, e3, r3, _, rz, g3⟩ => ?_
      obtain ⟨q, e4, g4⟩ := g3.lift
      exact ⟨as3, st3, y, z, q, r3, RV.mono e3 _ _ ry, rz, e4, q, rfl, g4.here r3⟩
    · rename_i e
      exact ⟨as2, st2, x, y, false, r2, rx, ry, e, false, rfl, by rw [if_neg (by simp)]; exact ⟨false, rfl, g2.here r2⟩⟩
    · exact g2.elim
theorem s_tval (ha : L2.PE X a (tE X.K ma)) (h : plainT a = true) : L2.PT X a (tT X.K (mVal ma)) :=
  pt_imp (pt_truth ha (plainT_is h _)) fun σ H Q ⟨as, st, env, rel, re, g⟩ => tE_mono (one_of rel re g) fun v H1 ⟨as1, st1, d, _, r1, _, rv, g1⟩ => by
    obtain ⟨k, e, g2⟩ := g1.lift
    exact ⟨k, truV_of r1 e rv, g2.here r1⟩
theorem s_tnot (ha : L2.PT X a (tT X.K ta)) : L2.PT X (.UnaryOp .Not a pos) (tT X.K fun env st => (ta env st).bind fun b st1 => .ok (!b) st1) :=
  pt_imp (pt_not ha) fun σ H Q ⟨as, st, env, rel, re, g⟩ => tT_mono (test_of rel re g) fun b H1 ⟨as1, st1, _, r1, _, g1⟩ => g1.here r1
theorem s_tand {l : List Expr} (ha : L2.PT X a (tT X.K ta)) (hb : PW X (.BoolOp .And (b :: l) pos) (tT X.K tb)) :
    PW X (.BoolOp .And (a :: b :: l) pos) (tT X.K fun env st => (ta env st).bind fun b st1 => if b then tb env st1 else .ok false st1) :=
  pw_imp (pw_and ha hb) fun σ H Q ⟨as, st, env, rel, re, g⟩ => tT_mono (test_of rel re g) fun b H1 ⟨as1, st1, _, r1, re1, g1⟩ => by
    cases b with
    | true => rw [if_pos rfl]; exact ⟨as1, st1, env, r1, re1, g1⟩
    | false => rw [if_neg (by simp)]; exact g1.here r1
theorem s_tor {l : List Expr} (ha : L2.PT X a (tT X.K ta)) (hb : PW X (.BoolOp .Or (b :: l) pos) (tT X.K tb)) :
    PW X (.BoolOp .Or (a :: b :: l) pos) (tT X.K fun env st => (ta env st).bind fun b st1 => if b then .ok true st1 else tb env st1) :=
  pw_imp (pw_or ha hb) fun σ H Q ⟨as, st, env, rel, re, g⟩ => tT_mono (test_of rel re g) fun b H1 ⟨as1, st1, _, r1, re1, g1⟩ => by
    cases b with
    | true => rw [if_pos rfl]; exact g1.here r1
    | false => rw [if_neg (by simp)]; exact ⟨as1, st1, env, r1, re1, g1⟩
theorem s_ife (hc : L2.PT X c (tT X.K ta)) (ha : L2.PE X a (tE X.K ma)) (hb : L2.PE X b (tE X.K mb)) : L2.PE X (.IfExp c a b pos) (tE X.K fun env st => (ta env st).bind fun k st1 => if k then ma env st1 else mb env st1) :=
  pe_imp (pe_ifExp hc ha hb) fun σ H Q ⟨as, st, env, rel, re, g⟩ => tT_mono (test_of rel re g) fun b H1 ⟨as1, st1, _, r1, re1, g1⟩ => by
    cases b with
    | true => rw [if_pos rfl]; exact ⟨as1, st1, env, r1, re1, g1⟩
    | false => rw [if_neg (by simp)]; exact ⟨as1, st1, env, r1, re1, g1⟩
variable {es : List Expr} {m m' : Env → Sto → Res (List D)}
theorem s_nil : PA X [] (tA X.K fun _ st => .ok [] st) := pa_imp pa_nil fun σ H Q ⟨as, st, env, rel, re, g⟩ => g.here rel _ rfl
theorem s_cons (ha : L2.PE X a (tE X.K ma)) (hr : PA X es (tA X.K m)) (hs : noStar a = true) : PA X (a :: es) (tA X.K fun env st => (ma env st).bind fun d st1 => (m env st1).bind fun ds st2 => .ok (d :: ds) st2) :=
  pa_imp (pa_cons ha hr (star_cons hs _ _)) fun σ H Q ⟨as, st, env, rel, re, g⟩ => tE_mono (one_of rel re g) fun v H1 ⟨as1, st1, d, _, r1, re1, rv, g1⟩ => tA_mono (all_of r1 re1 g1) fun vs H2 ⟨as2, st2, ds, e2, r2, _, rvs, g2⟩ =>
    g2.here r2 _ ⟨v, vs, rfl, RV.mono e2 _ _ rv, rvs⟩
theorem s_tup {k : Nat} (h : PA X es (tA X.K m)) : L2.PE X (.Tuple es k pos) (tE X.K fun env st => (m env st).bind fun ds st1 => if ds.length ≤ sizeLine then .ok (.tup ds) st1 else .bad) :=
  pe_imp (pe_tup h) fun σ H Q ⟨as, st, env, rel, re, g⟩ => tA_mono (all_of rel re g) fun vs H1 ⟨as1, st1, ds, _, r1, _, rvs, g1⟩ => by
    split at g1
    · rename_i hl; exact ⟨by rw [← rvs.length]; exact hl, GE.newT g1 r1 rvs⟩
    · exact g1.elim
theorem s_lst (h : PA X es (tA X.K m)) : L2.PE X (.List es pos) (tE X.K fun env st => (m env st).bind fun ds st1 => if ds.length ≤ sizeLine then .ok (.ref st1.length) (st1 ++ [.lst ds]) else .bad) :=
  pe_imp (pe_lst h) fun σ H Q ⟨as, st, env, rel, re, g⟩ => tA_mono (all_of rel re g) fun vs H1 ⟨as1, st1, ds, _, r1, _, rvs, g1⟩ => by
    split at g1
    · rename_i hl; exact ⟨by rw [← rvs.length]; exact hl, GE.newL g1 r1 rvs⟩
    · exact g1.elim
theorem s_idx (fx : Fit X) (ha : L2.PE X a (tE X.K ma)) (hb : L2.PE X b (tE X.K mb)) (hs : noSlice b = true) : L2.PE X (.Subscript a b pos) (tE X.K fun env st => (ma env st).bind fun x st1 => (mb env st1).bind fun y st2 => idxD x y st2) :=
  pe_imp (pe_ix (ix_all (by have := fx.hu; omega)) ha hb (noSlice_ix hs)) fun σ H Q ⟨as, st, env, rel, re, g⟩ => tE_mono (two_of rel re g) fun v H1 h => tE_mono h fun u H2 ⟨as2, st2, x, y, _, r2, _, rx, ry, g2⟩ => ⟨as2, st2, x, y, r2, rx, ry, g2⟩
theorem s_rev {k : Nat} {p1 p2 p3 : Pos} (ha : L2.PE X a (tE X.K ma)) : L2.PE X (.Subscript a (.Slice none none (some (.UnaryOp .USub (.Constant (.int 1) k p1) p2)) p3) pos) (tE X.K fun env st => (ma env st).bind fun x st1 => revD x st1) :=
  pe_imp (pe_revL ha) fun σ H Q ⟨as, st, env, rel, re, g⟩ => tE_mono (one_of rel re g) fun v H1 ⟨as1, st1, d, _, r1, _, rv, g1⟩ => by
    unfold revD at g1
    split at g1
    · obtain ⟨a, vs, rfl, h1, h2⟩ := rv
      exact ⟨a, vs, rfl, h1.l, GE.newL g1 r1 h2.reverse⟩
    · split at g1
      · rename_i e
        obtain ⟨a, rfl, _, hro⟩ := r1.of_ref e rv
        obtain ⟨vs, h1, h2⟩ := ro_seq hro rfl
        exact ⟨a, vs, rfl, h1, GE.newL g1 r1 h2.reverse⟩
      · exact g1.elim
    · exact g1.elim
theorem s_noPart : PO X none (tPartA (tE X.K fun _ st => .ok .non st)) := ⟨fun pins s σ H Q I ⟨as, st, env, rel, re, g⟩ => po_none.run pins s σ H Q I (by
  rcases GE.here' g rel rfl with ⟨i, e, _⟩ | ⟨_, q⟩
  · cases e
  · exact q)⟩
theorem part_ok {mh : Env → Sto → Res D} {x l : D} {env : Env} {st : Sto} {P : D → List Addr → Hp → Prop} {as : List Addr} {H : Hp} (g : Good X.K P as H ((mh env st).bind fun h st3 => slD x l h st3)) : ∃ o, partD l = some o := by
  cases e : mh env st with
  | ok h st3 =>
    rw [e] at g
    obtain ⟨o, _, e1, _⟩ := slD_eq g
    exact ⟨o, e1⟩
  | exc _ _ _ => rw [e] at g; exact g.elim
  | bad => rw [e] at g; exact g.elim
theorem part_rv {l : D} {o : Option Int} {as : List Addr} {H : Hp} {v : V} {Q : Option Int → Hp → Prop} (e : partD l = some o) (rv : RV X.K as H l v) (q : Q o H) : (∃ i, v = .int i ∧ Q (some i) H) ∨ (v = .non ∧ Q none H) := by
  unfold partD at e
  split at e
  · cases e; exact .inr ⟨rv, q⟩
  · cases e; exact .inl ⟨_, rv, q⟩
  · cases e
theorem s_sl {ml mh : Env → Sto → Res D} {lo hi : Option Expr} {p2 : Pos} (ha : L2.PE X a (tE X.K ma)) (hl : PO X lo (tPartA (tE X.K ml))) (hh : PO X hi (tPartA (tE X.K mh))) :
    L2.PE X (.Subscript a (.Slice lo hi none p2) pos) (tE X.K fun env st => (ma env st).bind fun x st1 => (ml env st1).bind fun l st2 => (mh env st2).bind fun h st3 => slD x l h st3) :=
  pe_imp (pe_slice sl_all ha hl hh) fun σ H Q ⟨as, st, env, rel, re, g⟩ => tE_mono (one_of rel re g) fun v H1 ⟨as1, st1, x, e1, r1, re1, rv, g1⟩ => by
    refine tE_mono (one_of r1 re1 g1) fun vl H2 ⟨as2, st2, l, e2, r2, re2, rl, g2⟩ => ?_
    obtain ⟨ol, hol⟩ := part_ok g2
    refine part_rv (Q := fun l H2 => tPartA (tE X.K mh) σ H2 fun u H3 => rSlU X.K v l u H3 Q) hol rl ?_
    refine tE_mono (one_of r2 re2 g2) fun vh H3 ⟨as3, st3, h, e3, r3, re3, rh, g3⟩ => ?_
    obtain ⟨ol', oh, h1, h2, g4⟩ := slD_eq g3
    rw [hol] at h1; cases h1
    exact part_rv (Q := fun u H3 => rSlU X.K v ol u H3 Q) h2 rh ⟨as3, st3, x, r3, RV.mono e3 _ _ (RV.mono e2 _ _ rv), g4⟩
end
end PL

set_option Elab.async false
set_option linter.all false
set_option maxRecDepth 100000
set_option maxHeartbeats 2000000
/-! PLH: calls, displays of dicts, methods, targets. -/
namespace PL
open PySem PySem.Spec PyProof.Rows L2

def Es.len : Es → Nat
  | .nil => 0
  | .cons _ es => es.len + 1
def Tgs.len : Tgs → Nat
  | .nil => 0
  | .cons _ es => es.len + 1
section
variable {α β : Type} {K : PySem.W.Frag} {as : List Addr} {H : Hp}
theorem Good.bindE {P : β → List Addr → Hp → Prop} {r : Res α} {k : α → Sto → Res β} (h : Good K P as H (r.bind k)) :
    Good K (fun a as1 H1 => ∃ st1, r = .ok a st1 ∧ Ext K as H as1 H1 ∧ Rel K as1 st1 H1 ∧ Good K P as H (k a st1)) as H r := by
  cases r with
  | ok a st' => exact fun as1 H1 e r => ⟨st', rfl, e, r, h⟩
  | exc _ _ _ => exact h
  | bad => exact h
theorem Res.bind_assoc {γ : Type} (r : Res α) (f : α → Sto → Res β) (g : β → Sto → Res γ) : (r.bind f).bind g = r.bind fun a st => (f a st).bind g := by
  cases r <;> rfl
end
section
variable (F : Nat → List D → Sto → Res D) (G : List D)
theorem evs_len : ∀ (es : Es) (env : Env) (st : Sto) (ds : List D) (st' : Sto), evs F G es env st = .ok ds st' → ds.length = es.len
  | .nil, _, _, ds, _, h => by rw [evs] at h; cases h; rfl
  | .cons e es, env, st, ds, st', h => by
    rw [evs] at h
    obtain ⟨d, s1, _, h⟩ := bind_ok h
    obtain ⟨r, s2, h2, h⟩ := bind_ok h
    have := evs_len es env s1 r s2 h2
    cases h
    rw [List.length_cons, this]; rfl
/-- each of them -/
def PAll (X : Cx) : Es → List Expr → Prop
  | .nil, [] => True
  | .cons e es, x :: l => noStar x = true ∧ L2.PE X x (tE X.K (ev F G e)) ∧ PAll X es l
  | _, _ => False
variable {F G} {X : Cx}
theorem PAll.len : ∀ {es : Es} {l : List Expr}, PAll F G X es l → l.length = es.len
  | .nil, [], _ => rfl
  | .cons e es, x :: l, h => by rw [List.length_cons, PAll.len h.2.2]; rfl
  | .nil, _ :: _, h => h.elim
  | .cons _ _, [], h => h.elim
theorem PAll.stars : ∀ {es : Es} {l : List Expr}, PAll F G X es l → l.all noStar = true
  | .nil, [], _ => rfl
  | .cons e es, x :: l, h => by rw [List.all_cons, h.1, PAll.stars h.2.2]; rfl
  | .nil, _ :: _, h => h.elim
  | .cons _ _, [], h => h.elim
theorem evs_nil : (fun (_ : Env) (st : Sto) => (Res.ok ([] : List D) st)) = evs F G .nil := by funext env st; rw [evs]
theorem evs_cons (e : E) (es : Es) : (fun (env : Env) (st : Sto) => (ev F G e env st).bind fun d st1 => (evs F G es env st1).bind fun ds st2 => .ok (d :: ds) st2) = evs F G (.cons e es) := by funext env st; rw [evs]
theorem evs_nilE (env : Env) (st : Sto) : evs F G .nil env st = .ok [] st := by rw [evs]
theorem evs_consE (e : E) (es : Es) (env : Env) (st : Sto) : evs F G (.cons e es) env st = (ev F G e env st).bind fun d st1 => (evs F G es env st1).bind fun ds st2 => .ok (d :: ds) st2 := by rw [evs]
theorem PAll.pa : ∀ {es : Es} {l : List Expr}, PAll F G X es l → PA X l (tA X.K (evs F G es))
  | .nil, [], _ => by rw [← evs_nil]; exact s_nil
  | .cons e es, x :: l, h => by rw [← evs_cons]; exact s_cons h.2.1 (PAll.pa h.2.2) h.1
  | .nil, _ :: _, h => h.elim
  | .cons _ _, [], h => h.elim
theorem PAll.pk : ∀ {es : Es} {kl : List Keyword}, PAll F G X es (kl.map (·.value)) → PK X kl (tA X.K (evs F G es))
  | .nil, [], _ => by
    rw [← evs_nil]
    exact pk_imp pk_nil fun σ H Q ⟨as, st, env, rel, re, g⟩ => g.here rel _ rfl
  | .cons e es, ⟨nm, x, kp⟩ :: l, h => by
    rw [← evs_cons]
    exact pk_imp (pk_cons h.2.1 (PAll.pk h.2.2)) fun σ H Q ⟨as, st, env, rel, re, g⟩ => tE_mono (one_of rel re g) fun v H1 ⟨as1, st1, d, _, r1, re1, rv, g1⟩ => tA_mono (all_of r1 re1 g1) fun vs H2 ⟨as2, st2, ds, e2, r2, _, rvs, g2⟩ =>
      g2.here r2 _ ⟨v, vs, rfl, RV.mono e2 _ _ rv, rvs⟩
  | .nil, _ :: _, h => h.elim
  | .cons _ _, [], h => h.elim
/-- all of them, with their number -/
theorem evs_of {β : Type} {es : Es} {P : β → List Addr → Hp → Prop} {as : List Addr} {st : Sto} {env : Env} {σ : L2.St} {H : Hp} {f : List D → Sto → Res β} (rel : Rel X.K as st H) (re : REnv X.K as H env σ) (g : Good X.K P as H ((evs F G es env st).bind f)) :
    tA X.K (evs F G es) σ H fun vs H1 => ∃ as1 st1 ds, Ext X.K as H as1 H1 ∧ Rel X.K as1 st1 H1 ∧ REnv X.K as1 H1 env σ ∧ RVs X.K as1 H1 ds vs ∧ ds.length = es.len ∧ Good X.K P as1 H1 (f ds st1) :=
  ⟨as, st, env, rel, re, g.bindE.imp fun ds as1 H1 e1 ⟨st1, eq, _, r1, g1⟩ v rv => ⟨as1, st1, ds, e1, r1, re.mono e1, rv, evs_len F G es env st ds st1 eq, g1.mono e1⟩⟩

/-! ### calls -/
theorem s_call {k : Nat} {x : Str} {p pos : Pos} {ps : List Str} {kws : List (Nat × List Str × List Nat)} {Ff : List D → Sto → Res D} {f : Addr} {fd : FuncData} {es : Es} {l : List Expr}
    (Fa : FnAt X CXP k x ps kws (spU X.K Ff ps.length) f fd) (fx : Fit X) (hr : Room k X.A) (hgl : Gl X x) (hdb : (x == ("__debug__" : Str)) = false) (h : PAll F G X es l) (hn : l.length = ps.length) :
    L2.PE X (.Call (.Name x p) l [] pos) (tE X.K fun env st => (evs F G es env st).bind fun ds st1 => Ff ds st1) := by
  have core : ∀ σ H Q, tE X.K (fun env st => (evs F G es env st).bind fun ds st1 => Ff ds st1) σ H Q → tCall (spU X.K Ff ps.length) [] (fun _ _ _ => False) (tA X.K (evs F G es)) σ H Q := fun σ H Q ⟨as, st, env, rel, re, g⟩ =>
    tA_mono (evs_of rel re g) fun vs H1 ⟨as1, st1, ds, _, r1, _, rvs, hl, g1⟩ => ⟨as1, st1, ds, r1, by rw [List.append_nil]; exact rvs, by rw [hl, ← h.len, hn], g1⟩
  cases es with
  | nil => cases l with
    | nil =>
      refine pe_imp (pe_callG0 (E := fun _ _ _ => False) Fa fx.hg hr hgl passP hdb) fun σ H Q ht => ?_
      obtain ⟨as, st, env, rel, re, g⟩ := core σ H Q ht
      rw [evs_nilE] at g
      exact g.here rel _ rfl
    | cons _ _ => exact h.elim
  | cons e es => cases l with
    | nil => exact h.elim
    | cons y l => exact pe_imp (pe_callG (E := fun _ _ _ => False) Fa fx.hg hr hgl passP h.pa hdb (star_cons h.1 _ _) (stars_plain (PAll.stars h.2.2))) core
theorem kw_all {env : PySem.Env} {pos : Pos} : ∀ {kl : List Keyword}, kl.all (·.arg.isSome) = true → (backToKw pos (keywordEach kl env)).all (·.1.isSome) = true
  | [], _ => rfl
  | ⟨nm, e, p⟩ :: kl, h => by
    rw [List.all_cons, Bool.and_eq_true] at h
    have ih := kw_all (env := env) (pos := pos) h.2
    simp only [keywordEach, backToKw, List.map_cons, List.all_cons, Bool.and_eq_true] at ih ⊢
    exact ⟨h.1, ih⟩
theorem kw_none {env : PySem.Env} {pos : Pos} : ∀ {kl : List Keyword}, kl.all (·.arg.isSome) = true → (backToKw pos (keywordEach kl env)).any (·.1.isNone) = false
  | [], _ => rfl
  | ⟨nm, e, p⟩ :: kl, h => by
    rw [List.all_cons, Bool.and_eq_true] at h
    have ih := kw_none (env := env) (pos := pos) h.2
    simp only [keywordEach, backToKw, List.map_cons, List.any_cons, Bool.or_eq_false_iff] at ih ⊢
    refine ⟨?_, ih⟩
    have := h.1
    cases nm <;> simp_all
theorem kw_names {env : PySem.Env} {pos : Pos} : ∀ {kl : List Keyword}, (backToKw pos (keywordEach kl env)).filterMap (·.1) = kl.filterMap (·.arg)
  | [] => rfl
  | ⟨nm, e, p⟩ :: kl => by
    have ih := kw_names (env := env) (pos := pos) (kl := kl)
    simp only [keywordEach, backToKw, List.map_cons, List.filterMap_cons] at ih ⊢
    rw [ih]
theorem RVs.getD {K : PySem.W.Frag} {as : List Addr} {H : Hp} {ds : List D} {vs : List V} (h : RVs K as H ds vs) (j : Nat) : RV K as H (ds.getD j .non) (vs.getD j .non) := by
  cases e : ds[j]? with
  | none => rw [List.getD_eq_getElem?_getD, List.getD_eq_getElem?_getD, e, h.none_of e]; rfl
  | some d =>
    obtain ⟨v, e1, r⟩ := h.get e
    rw [List.getD_eq_getElem?_getD, List.getD_eq_getElem?_getD, e, e1]; exact r
theorem RVs.perm {K : PySem.W.Frag} {as : List Addr} {H : Hp} {ds : List D} {vs : List V} (h : RVs K as H ds vs) : ∀ g : List Nat, RVs K as H (g.map fun j => ds.getD j .non) (g.map fun j => vs.getD j .non)
  | [] => rfl
  | j :: g => ⟨_, _, rfl, h.getD j, RVs.perm h g⟩
theorem s_callK {k : Nat} {x : Str} {p pos : Pos} {ps : List Str} {kws : List (Nat × List Str × List Nat)} {Ff : List D → Sto → Res D} {f : Addr} {fd : FuncData} {es ks : Es} {l : List Expr} {kl : List Keyword} {g : List Nat}
    (Fa : FnAt X CXP k x ps kws (spU X.K Ff ps.length) f fd) (fx : Fit X) (hr : Room k X.A) (hgl : Gl X x) (hdb : (x == ("__debug__" : Str)) = false) (h : PAll F G X es l) (hk : PAll F G X ks (kl.map (·.value)))
    (hall : kl.all (·.arg.isSome) = true) (hq : (l.length, kl.filterMap (·.arg), g) ∈ kws) (hg : g.length = ps.length) :
    L2.PE X (.Call (.Name x p) l kl pos) (tE X.K fun env st => (evs F G es env st).bind fun ds st1 => (evs F G ks env st1).bind fun zs st2 => Ff (g.map fun j => (ds ++ zs).getD j .non) st2) := by
  have hlen : (kl.filterMap (·.arg)).length = kl.length := by
    clear hk hq
    induction kl with
    | nil => rfl
    | cons q kl ih =>
      rw [List.all_cons, Bool.and_eq_true] at hall
      obtain ⟨nm, hnm⟩ := Option.isSome_iff_exists.mp hall.1
      rw [List.filterMap_cons, hnm]
      simp [ih hall.2]
  have hkl : kl.length = ks.len := by rw [← hk.len, List.length_map]
  have core : ∀ σ H Q, tE X.K (fun env st => (evs F G es env st).bind fun ds st1 => (evs F G ks env st1).bind fun zs st2 => Ff (g.map fun j => (ds ++ zs).getD j .non) st2) σ H Q →
      tCallP (spU X.K Ff ps.length) l.length (kl.filterMap (·.arg)).length g (fun _ _ _ => False) (tA X.K (evs F G es)) (tA X.K (evs F G ks)) σ H Q := fun σ H Q ⟨as, st, env, rel, re, gg⟩ =>
    tA_mono (evs_of rel re gg) fun vs H1 ⟨as1, st1, ds, _, r1, re1, rvs, hl, g1⟩ => tA_mono (evs_of r1 re1 g1) fun zs H2 ⟨as2, st2, es2, e2, r2, _, rvz, hl2, g2⟩ =>
      ⟨by rw [← rvs.length, hl, h.len], by rw [← rvz.length, hl2, hlen, hkl], as2, st2, _, r2, ((RVs.mono e2 _ _ rvs).append rvz).perm g, by rw [List.length_map, hg], g2⟩
  cases es with
  | nil => cases l with
    | nil =>
      refine pe_imp (pe_callGK0 (E := fun _ _ _ => False) Fa fx.hg hr hgl passP hq hk.pk (kw_all hall) kw_names hdb ?_) fun σ H Q ht => ?_
      · rw [kw_none hall, Bool.or_false]; rfl
      · obtain ⟨as, st, env, rel, re, gg⟩ := core σ H Q ht
        rw [evs_nilE] at gg
        exact gg.here rel _ rfl
    | cons _ _ => exact h.elim
  | cons e es => cases l with
    | nil => exact h.elim
    | cons y l =>
      refine pe_imp (pe_callGK (E := fun _ _ _ => False) Fa fx.hg hr hgl passP hq h.pa hk.pk (kw_all hall) kw_names hdb (star_cons h.1 _ _) ?_) core
      rw [kw_none hall, Bool.or_false]
      exact stars_plain h.stars

/-! ### built-ins -/
theorem boot_of (b : Blt) (hb : b.plain = true) : bootBuiltins b.nm = some b.val := by
  cases b <;> first | (cases hb; done) | decide +kernel
theorem s_blt {b : Blt} (hb : b.plain = true) (fx : Fit X) {es : Es} {l : List Expr} {p pos : Pos} (hgl : Gl X b.nm) (hm : X.mg b.nm = none) (h : PAll F G X es l) (h0 : l ≠ []) :
    L2.PE X (.Call (.Name b.nm p) l [] pos) (tE X.K fun env st => (evs F G es env st).bind fun ds st1 => bltD b ds st1) := by
  have core : ∀ σ H Q, tE X.K (fun env st => (evs F G es env st).bind fun ds st1 => bltD b ds st1) σ H Q → tCB (rCallU X.K b) (tA X.K (evs F G es)) σ H Q := fun σ H Q ⟨as, st, env, rel, re, g⟩ =>
    tA_mono (all_of rel re g) fun vs H1 ⟨as1, st1, ds, _, r1, _, rvs, g1⟩ => ⟨as1, st1, ds, r1, rvs, g1⟩
  have hn : b.nm ≠ ("__name__" : Str) := by cases b <;> first | (cases hb; done) | decide
  have hdb : (b.nm == ("__debug__" : Str)) = false := by cases b <;> first | (cases hb; done) | decide
  have hc := call_all fx b hb
  have hv := boot_of b hb
  cases l with
  | nil => exact absurd rfl h0
  | cons y l => cases es with
    | nil => exact h.elim
    | cons e es =>
      refine pe_imp ?_ core
      cases b <;> first
        | (cases hb; done)
        | exact pe_callB hc hgl hm hv h.pa hn hdb (star_cons h.1 _ _) (stars_plain (PAll.stars h.2.2))
        | exact pe_callTy hc hgl hm hv h.pa hn hdb (star_cons h.1 _ _) (stars_plain (PAll.stars h.2.2))
theorem boot_ty (t : Ty) : bootBuiltins t.sn = some (.type t.nm) := by cases t <;> decide +kernel
theorem s_isi {t : Ty} {e : E} {a : Expr} {p pos py : Pos} (hgl : Gl X "isinstance") (hm : X.mg "isinstance" = none) (hgy : Gl X t.sn) (hmy : X.mg t.sn = none) (ha : L2.PE X a (tE X.K (ev F G e))) (hs : noStar a = true) :
    L2.PE X (.Call (.Name "isinstance" p) [a, .Name t.sn py] [] pos) (tE X.K fun env st => (evs F G (.cons e .nil) env st).bind fun ds st1 => bltD (.isi t) ds st1) := by
  have hty : L2.PE X (.Name t.sn py) (tC (.ty t.nm)) := pe_bltn hgy hmy (boot_ty t) rfl (by cases t <;> decide) (by cases t <;> decide)
  have hc : CallR X (.builtin "isinstance") (fun vs H Q => ∃ as st v d b, vs = [v, .ty t.nm] ∧ Rel X.K as st H ∧ RV X.K as H d v ∧ isiD st t d = some b ∧ Q (.bl b) H) := by
    intro pins s σ H vs us Q I r h
    obtain ⟨as, st, v, d, b, rfl, rel, rv, eq, q⟩ := h
    exact isi_run I r rel rv eq q
  refine pe_imp (pe_callB (x := "isinstance") hc hgl hm (by decide +kernel) (pa_cons ha (pa_cons hty pa_nil) (star_cons hs _ _)) (by decide) (by decide) (star_cons hs _ _)) fun σ H Q ⟨as, st, env, rel, re, g⟩ => ?_
  have g : Good X.K (PE' X.K Q) as H ((evs F G (.cons e .nil) env st).bind fun ds st1 => bltD (.isi t) ds st1) := g
  simp only [evs_consE, evs_nilE, Res.bind_assoc, Res.bind_ok] at g
  show tCons (tE X.K (ev F G e)) (tCons (tC (.ty t.nm)) tNil) σ H _
  refine tE_mono (one_of rel re g) fun v H1 ⟨as1, st1, d, _, r1, re1, rv, g1⟩ => ?_
  obtain ⟨z, e1, g2⟩ := Good.lift (o := (isiD st1 t d).map D.bl) g1
  obtain ⟨b, e2, rfl⟩ := Option.map_eq_some_iff.mp e1
  exact ⟨as1, st1, v, d, b, rfl, r1, rv, e2, g2.here r1 _ rfl⟩

/-! ### methods of lists -/
theorem s_meth {m : Mt} {e : E} {es : Es} {o : Expr} {l : List Expr} {ap cp : Pos} (ho : L2.PE X o (tE X.K (ev F G e))) (h : PAll F G X es l) (hb : noBase o = true) (hl : (ap.endLine == cp.line) = true) (h30 : l.length < 30) :
    L2.PE X (.Call (.Attribute o m.nm ap) l [] cp) (tE X.K fun env st => (ev F G e env st).bind fun x st1 => if isLst x st1 = true then (evs F G es env st1).bind fun ds st2 => methD m x ds st2 else .bad) := by
  have core : ∀ σ H Q, tE X.K (fun env st => (ev F G e env st).bind fun x st1 => if isLst x st1 = true then (evs F G es env st1).bind fun ds st2 => methD m x ds st2 else .bad) σ H Q →
      tBM X.K "list" (rMtU X.K m) (tE X.K (ev F G e)) (tA X.K (evs F G es)) σ H Q := fun σ H Q ⟨as, st, env, rel, re, g⟩ =>
    tE_mono (one_of rel re g) fun v H1 ⟨as1, st1, d, _, r1, re1, rv, g1⟩ => by
      split at g1
      · rename_i hi
        refine ⟨?_, tA_mono (all_of r1 re1 g1) fun vs H2 ⟨as2, st2, ds, e2, r2, _, rvs, g2⟩ => ⟨as2, st2, d, ds, r2, RV.mono e2 _ _ rv, rvs, g2⟩⟩
        unfold isLst at hi
        split at hi
        · split at hi
          · rename_i e
            obtain ⟨a, rfl, _, hro⟩ := r1.of_ref e rv
            obtain ⟨vs, h1, _⟩ := ro_seq hro rfl
            exact .inl ⟨rfl, vs, h1⟩
          · cases hi
        · cases hi
      · exact g1.elim
  have hslot : Slot "list" m.nm m.id := by
    cases m
    · exact PySem.F.slot_list_append
    · exact PySem.F.slot_list_pop
    · exact PySem.F.slot_list_pop
    · exact PySem.F.slot_list_insert
    · exact PySem.F.slot_list_extend
  have hty : typeOf (.builtin m.id) = pure (.type "method_descriptor") := by
    cases m
    · exact PySem.F.type_list_append
    · exact PySem.F.type_list_pop
    · exact PySem.F.type_list_pop
    · exact PySem.F.type_list_insert
    · exact PySem.F.type_list_extend
  cases es with
  | nil => cases l with
    | nil =>
      refine pe_imp (pe_bm0 PySem.F.plainAttrs_list hslot hty (mt_all m) ho (noBase_is hb _ _ _) hl) fun σ H Q ht => ?_
      refine tE_mono (core σ H Q ht) fun v H1 ⟨h1, as1, st1, env1, r1, re1, g1⟩ => ⟨h1, ?_⟩
      rw [evs_nilE] at g1
      exact g1.here r1 _ rfl
    | cons _ _ => exact h.elim
  | cons e' es => cases l with
    | nil => exact h.elim
    | cons y l =>
      refine pe_imp (pe_bm PySem.F.plainAttrs_list hslot hty (mt_all m) ho h.pa (noBase_is hb _ _ _) ?_ hl (star_cons h.1 _ _) (stars_plain (PAll.stars h.2.2))) core
      rw [stars_all h.stars]
      simpa [keywordEach, backToKw] using h30

/-! ### displays of dicts -/
section
variable {β : Type} {K : PySem.W.Frag} {P : β → List Addr → Hp → Prop} {as0 as : List Addr} {H0 H : Hp} {st : Sto} {env : Env} {σ : L2.St}
/-- as one_of; what is to come is told from an elder place -/
theorem one_ofE {ma : Env → Sto → Res D} {f : D → Sto → Res β} (e : Ext K as0 H0 as H) (rel : Rel K as st H) (re : REnv K as H env σ) (g : Good K P as0 H0 ((ma env st).bind f)) :
    tE K ma σ H fun v H1 => ∃ as1 st1 d, Ext K as H as1 H1 ∧ Rel K as1 st1 H1 ∧ REnv K as1 H1 env σ ∧ RV K as1 H1 d v ∧ Good K P as0 H0 (f d st1) :=
  ⟨as, st, env, rel, re, (g.bindE.mono e).imp fun d as1 H1 e1 ⟨st1, _, _, r1, g1⟩ v rv => ⟨as1, st1, d, e1, r1, re.mono e1, rv, g1⟩⟩
theorem test_ofE {m : Env → Sto → Res Bool} {f : Bool → Sto → Res β} (e : Ext K as0 H0 as H) (rel : Rel K as st H) (re : REnv K as H env σ) (g : Good K P as0 H0 ((m env st).bind f)) :
    tT K m σ H fun b H1 => ∃ as1 st1, Ext K as H as1 H1 ∧ Rel K as1 st1 H1 ∧ REnv K as1 H1 env σ ∧ Good K P as0 H0 (f b st1) :=
  ⟨as, st, env, rel, re, (g.bindE.mono e).imp fun d as1 H1 e1 ⟨st1, _, _, r1, g1⟩ => ⟨as1, st1, e1, r1, re.mono e1, g1⟩⟩
theorem tg_ofE {own : List Nat → Bool} {m : D → Env → Sto → Res Env} {f : Env → Sto → Res β} {d : D} {v : V} (e : Ext K as0 H0 as H) (rel : Rel K as st H) (re : REnv K as H env σ) (rv : RV K as H d v) (g : Good K P as0 H0 ((m d env st).bind f)) :
    tG K own m v σ H fun σ' H1 => ∃ as1 st1 env1, Ext K as H as1 H1 ∧ Rel K as1 st1 H1 ∧ REnv K as1 H1 env1 σ' ∧ (∀ vs, own vs = true → wipe σ' vs = wipe σ vs) ∧ Good K P as0 H0 (f env1 st1) :=
  ⟨as, st, env, d, rel, re, rv, (g.bindE.mono e).imp fun env1 as1 H1 e1 ⟨st1, _, _, r1, g1⟩ σ' re1 hw => ⟨as1, st1, env1, e1, r1, re1, hw, g1⟩⟩
end
def prs (K : PySem.W.Frag) (F : Nat → List D → Sto → Res D) (G : List D) : List Key → Es → List (TE × TE)
  | k :: ks, .cons e es => (tC (kV k), tE K (ev F G e)) :: prs K F G ks es
  | _, _ => []
theorem key_pe {k : Key} {e : Option Expr} (h : keyB k e = true) : ∃ x, e = some x ∧ L2.PE X x (tC (kV k)) := by
  cases e with
  | none => cases h
  | some x =>
    refine ⟨x, rfl, ?_⟩
    unfold keyB at h
    simp only [] at h
    split at h
    · rename_i j i e
      obtain ⟨_, _, rfl⟩ := asConst_eq e
      cases of_decide_eq_true h
      exact pe_int
    · rename_i y z e
      obtain ⟨_, _, rfl⟩ := asConst_eq e
      cases of_decide_eq_true h
      exact pe_str
    · cases h
theorem pps_of {pos : Pos} : ∀ {ks : List Key} {es : Es} {kl : List (Option Expr)} {vl : List Expr}, keysB ks kl = true → kl.length = vl.length → PAll F G X es vl → PPs X pos kl vl (prs X.K F G ks es)
  | [], .nil, [], [], _, _, _ => pps_nil
  | k :: ks, .cons e es, x :: kl, v :: vl, hk, hl, h => by
    unfold keysB at hk
    rw [Bool.and_eq_true] at hk
    obtain ⟨y, rfl, hy⟩ := key_pe (X := X) hk.1
    exact pps_cons hy h.2.1 (pps_of hk.2 (by simpa using hl) h.2.2)
  | [], _, _ :: _, _, hk, _, _ => by cases hk
  | _ :: _, _, [], _, hk, _, _ => by cases hk
  | [], _, [], _ :: _, _, hl, _ => by cases hl
  | _ :: _, _, _ :: _, [], _, hl, _ => by cases hl
  | _, .nil, _, _ :: _, _, _, h => h.elim
  | _, .cons _ _, _, [], _, _, h => h.elim
theorem key_some {k : Key} {e : Option Expr} (h : keyB k e = true) : e.isSome = true := by
  cases e with
  | none => cases h
  | some x => rfl
theorem keysB_all : ∀ {ks : List Key} {kl : List (Option Expr)}, keysB ks kl = true → kl.all (·.isSome) = true ∧ ks.length = kl.length
  | [], [], _ => ⟨rfl, rfl⟩
  | k :: ks, x :: kl, h => by
    unfold keysB at h
    rw [Bool.and_eq_true] at h
    obtain ⟨h1, h2⟩ := keysB_all h.2
    exact ⟨by rw [List.all_cons, h1, key_some h.1]; rfl, by rw [List.length_cons, List.length_cons, h2]⟩
  | [], _ :: _, h => by cases h
  | _ :: _, [], h => by cases h
theorem prs_run {K : PySem.W.Frag} {σ : L2.St} {β : Type} {P : β → List Addr → Hp → Prop} {env : Env} {as0 : List Addr} {H0 : Hp} : ∀ {ks : List Key} {es : Es} {as : List Addr} {st : Sto} {H : Hp} {f : List D → Sto → Res β} {Q : List (V × V) → Hp → Prop}, ks.length = es.len →
    Ext K as0 H0 as H → Rel K as st H → REnv K as H env σ → Good K P as0 H0 ((evs F G es env st).bind f) →
    (∀ (as' : List Addr) (st' : Sto) (H' : Hp) (ds : List D) (vs : List V), Ext K as H as' H' → Rel K as' st' H' → RVs K as' H' ds vs → ds.length = ks.length → Good K P as0 H0 (f ds st') → Q ((ks.zip vs).map fun kv => (kV kv.1, kv.2)) H') →
    tPairs (prs K F G ks es) σ H Q
  | [], .nil, as, st, H, f, Q, _, e, rel, re, g, hq => by
    rw [evs_nilE] at g
    exact hq as st H [] [] Ext.refl rel rfl rfl g
  | k :: ks, .cons x es, as, st, H, f, Q, hl, e, rel, re, g, hq => by
    simp only [evs_consE, Res.bind_assoc, Res.bind_ok] at g
    show tE K (ev F G x) σ H _
    refine tE_mono (one_ofE e rel re g) fun v H1 ⟨as1, st1, d, e1, r1, re1, rv, g1⟩ => ?_
    refine prs_run (Nat.succ.inj hl) (e.trans e1) r1 re1 g1 fun as' st' H' ds vs e2 r2 rvs hl2 g2 => ?_
    exact hq as' st' H' (d :: ds) (v :: vs) (e1.trans e2) r2 ⟨v, vs, rfl, RV.mono e2 _ _ rv, rvs⟩ (by rw [List.length_cons, List.length_cons, hl2]) g2
  | [], .cons _ _, _, _, _, _, _, hl, _, _, _, _, _ => by cases hl
  | _ :: _, .nil, _, _, _, _, _, hl, _, _, _, _, _ => by cases hl
theorem merge_of {K : PySem.W.Frag} {as : List Addr} {H : Hp} : ∀ {ks : List Key} {ds : List D} {vs : List V} {acc : List (Key × D)} {acv : List (Key × V)}, RVs K as H ds vs → RKV K as H acc acv →
    RKV K as H ((ks.zip ds).foldl (fun acc kv => putKV acc kv.1 kv.2) acc) (mergeK acv (ks.zip vs))
  | [], _, _, _, _, _, r => r
  | k :: ks, [], _, _, _, h, r => by have h : _ = [] := h; subst h; exact r
  | k :: ks, d :: ds, _, _, _, h, r => by
    obtain ⟨v, vs, rfl, h1, h2⟩ := h
    exact merge_of (ks := ks) (ds := ds) (vs := vs) h2 (putKV_of r h1)
theorem s_dic {ks : List Key} {es : Es} {kl : List (Option Expr)} {vl : List Expr} {pos : Pos} (hk : keysB ks kl = true) (hl : kl.length = vl.length) (h15 : kl.length ≤ 15) (h : PAll F G X es vl) (h0 : kl ≠ []) :
    L2.PE X (.Dict kl vl pos) (tE X.K fun env st => (evs F G es env st).bind fun ds st1 => if ks.length = ds.length ∧ ks.length ≤ 15 then
      .ok (.ref st1.length) (st1 ++ [.dct ((ks.zip ds).foldl (fun acc kv => putKV acc kv.1 kv.2) [])]) else .bad) := by
  obtain ⟨ha, hl2⟩ := keysB_all hk
  refine pe_imp (pe_disp (pps_of hk hl h) ha hl h0 h15) fun σ H Q ⟨as, st, env, rel, re, g⟩ => ?_
  intro p hp
  have e0 : Ext X.K as H as (upd H p (.dK [])) := Ext.laid hp
  have hpa : p ∉ as := rel.out hp
  refine prs_run (as0 := as) (H0 := H) (by rw [hl2, hl, h.len]) e0 (rel.laid hp) (re.mono e0) g fun as' st' H' ds vs e1 r1 rvs hl3 g1 => ?_
  have hp1 : H' p = some (.dK []) := e1.frm p _ hpa upd_same
  refine ⟨hp1, ks.zip vs, rfl, ?_, ?_⟩
  · have := List.length_zip (l₁ := ks) (l₂ := vs); omega
  · split at g1
    · have hm : (∀ vs : List V, (HO.dK []) ≠ .tup vs) ∧ ∀ o w, (HO.dK []) ≠ .frz o w := ⟨fun _ z => (by cases z), fun _ _ z => (by cases z)⟩
      have hpa' : p ∉ as' := e1.out upd_same hpa
      have ew : Ext X.K as H as' (upd H' p (.dK (mergeK [] (ks.zip vs)))) := (e0.trans e1).side hp hp1 hm
      have ea := ew.adopt hp
      have rs : Rel X.K as' st' (upd H' p (.dK (mergeK [] (ks.zip vs)))) := r1.side hpa' hp1 hm
      have hro : RO X.K (as' ++ [p]) (upd H' p (.dK (mergeK [] (ks.zip vs)))) (.dct ((ks.zip ds).foldl (fun acc kv => putKV acc kv.1 kv.2) [])) p :=
        ⟨_, upd_same, RKV.monoW Wk.snoc _ _ (RKV.monoW (Wk.side hp1 hm) _ _ (merge_of rvs rfl))⟩
      have ra := rs.adopt hpa' hro
      exact g1 _ _ ea ra _ ⟨p, rfl, by rw [List.getElem?_append_right (by rw [r1.len]; exact Nat.le_refl _), r1.len]; simp⟩
    · exact g1.elim
end
end PL

set_option Elab.async false
set_option linter.all false
set_option maxRecDepth 100000
set_option maxHeartbeats 2000000
/-! PLJ: targets, what is walked, list comprehensions. -/
namespace PL
open PySem PySem.Spec PyProof.Rows L2

section
variable {F : Nat → List D → Sto → Res D} {G : List D} {X : Cx}
/-! ### targets -/
theorem wipe_set {σ : L2.St} {i : Nat} {x : Option V} : ∀ {vs : List Nat}, vs.contains i = true → wipe (σ.set i x) vs = wipe σ vs
  | [], h => by cases h
  | v :: vs, h => by
    unfold L2.wipe
    by_cases hv : v = i
    · subst hv
      have aux : ∀ us : List Nat, (wipe (σ.set v x) us).set v none = (wipe σ us).set v none := by
        intro us
        induction us with
        | nil => unfold L2.wipe; rw [List.set_set]
        | cons u us ih =>
          unfold L2.wipe
          by_cases hu : u = v
          · subst hu; rw [List.set_set, List.set_set]; exact ih
          · rw [List.set_comm _ _ hu, List.set_comm _ _ hu, ih]
      exact aux vs
    · have h' : vs.contains i = true := by
        rw [List.contains_cons] at h
        simpa [show (i == v) = false from by simpa using fun z => hv z.symm] using h
      rw [wipe_set h']
theorem s_name {i : Nat} {x : Str} {p : Pos} (hN : X.N.Nodup) (hi : X.N[i]? = some x) (hx : Loc X.env.scope x) (hf : X.fn x = true ∨ X.env.scope.names.lookup x = some .local) :
    PG X (.Name x p) (tG X.K (tgOwn (.name i)) fun d env st => .ok (env.set i (some d)) st) :=
  pg_imp (pg_name hN hi hx hf) fun v σ H Q ⟨as, st, env, d, rel, re, rv, g⟩ => g.here rel _ (re.set rv i) fun vs h => wipe_set h
/-- each of the targets -/
def PGAll (F : Nat → List D → Sto → Res D) (G : List D) (X : Cx) : Tgs → List Expr → Prop
  | .nil, [] => True
  | .cons t ts, x :: l => noStar x = true ∧ PG X x (tG X.K (tgOwn t) (asg F G t)) ∧ PGAll F G X ts l
  | _, _ => False
theorem PGAll.len : ∀ {ts : Tgs} {l : List Expr}, PGAll F G X ts l → l.length = ts.len
  | .nil, [], _ => rfl
  | .cons e es, x :: l, h => by rw [List.length_cons, PGAll.len h.2.2]; rfl
  | .nil, _ :: _, h => h.elim
  | .cons _ _, [], h => h.elim
theorem assign_cons {e : Expr} (h : noStar e = true) (es : List Expr) (env : PySem.Env) : assignEach (e :: es) env = (false, assign e env) :: assignEach es env := by
  cases e <;> first | rfl | cases h
theorem PGAll.each : ∀ {ts : Tgs} {l : List Expr}, PGAll F G X ts l → (assignEach l X.env).length = l.length ∧ (assignEach l X.env).findIdx? (·.1) = none
  | .nil, [], _ => ⟨rfl, rfl⟩
  | .cons e es, x :: l, h => by
    obtain ⟨h1, h2⟩ := PGAll.each h.2.2
    rw [assign_cons h.1, List.length_cons, List.length_cons, h1]
    exact ⟨rfl, by rw [List.findIdx?_cons]; simp [h2]⟩
  | .nil, _ :: _, h => h.elim
  | .cons _ _, [], h => h.elim
theorem asgs_nilE (env : Env) (st : Sto) : asgs F G .nil [] env st = .ok env st := by rw [asgs]
theorem asgs_consE (t : Tg) (ts : Tgs) (d : D) (ds : List D) (env : Env) (st : Sto) : asgs F G (.cons t ts) (d :: ds) env st = (asg F G t d env st).bind fun env1 st1 => asgs F G ts ds env1 st1 := by rw [asgs]
theorem asgs_bad1 (t : Tg) (ts : Tgs) (env : Env) (st : Sto) : asgs F G (.cons t ts) [] env st = .bad := by rw [asgs] <;> simp
theorem asgs_bad2 (d : D) (ds : List D) (env : Env) (st : Sto) : asgs F G .nil (d :: ds) env st = .bad := by rw [asgs] <;> simp
theorem asgs_len {K : PySem.W.Frag} : ∀ {ts : Tgs} {ds : List D} {env : Env} {st : Sto} {P : Env → List Addr → Hp → Prop} {as : List Addr} {H : Hp}, Good K P as H (asgs F G ts ds env st) → ds.length = ts.len
  | .nil, [], _, _, _, _, _, _ => rfl
  | .nil, _ :: _, _, _, _, _, _, g => by rw [asgs_bad2] at g; exact g.elim
  | .cons _ _, [], _, _, _, _, _, g => by rw [asgs_bad1] at g; exact g.elim
  | .cons t ts, d :: ds, env, st, P, as, H, g => by
    rw [asgs_consE] at g
    cases e : asg F G t d env st with
    | ok env1 st1 => rw [e] at g; rw [List.length_cons, asgs_len (K := K) (P := P) (as := as) (H := H) g]; rfl
    | exc _ _ _ => rw [e] at g; exact g.elim
    | bad => rw [e] at g; exact g.elim
theorem PGAll.pgs : ∀ {ts : Tgs} {l : List Expr}, PGAll F G X ts l → PGs X l (tGs X.K (tgOwn.tgsOwn ts) (asgs F G ts))
  | .nil, [], _ => pgs_imp pgs_nil fun vs σ H Q ⟨as, st, env, ds, rel, re, rv, g⟩ => by
    have hl := asgs_len g
    cases ds with
    | cons _ _ => cases hl
    | nil =>
      have rv : vs = [] := rv
      rw [asgs_nilE] at g
      exact ⟨rv, g.here rel _ re fun _ _ => rfl⟩
  | .cons t ts, x :: l, h => pgs_imp (pgs_cons h.2.1 (PGAll.pgs h.2.2) (by rw [assign_cons h.1]; rfl)) fun vs σ H Q ⟨as, st, env, ds, rel, re, rv, g⟩ => by
    have hl := asgs_len g
    cases ds with
    | nil => cases hl
    | cons d ds =>
      obtain ⟨v, r, rfl, r1, r2⟩ := rv
      rw [asgs_consE] at g
      refine ⟨v, r, rfl, as, st, env, d, rel, re, r1, g.bind.imp fun env1 as1 H1 e1 ⟨st1, _, rel1, g1⟩ σ1 re1 hw => ?_⟩
      refine ⟨as1, st1, env1, ds, rel1, re1, RVs.mono e1 _ _ r2, g1.imp fun env2 as2 H2 e2 q σ2 re2 hw2 => q σ2 re2 fun own ho => ?_⟩
      have ho : (tgOwn t own && tgOwn.tgsOwn ts own) = true := ho
      rw [Bool.and_eq_true] at ho
      rw [hw2 own ho.2, hw own ho.1]
  | .nil, _ :: _, h => h.elim
  | .cons _ _, [], h => h.elim
theorem s_tgtup (fx : Fit X) {ts : Tgs} {l : List Expr} {k : Nat} {p : Pos} (h : PGAll F G X ts l) : PG X (.Tuple l k p) (tG X.K (tgOwn (.tup ts)) fun d env st => match partsOf d st with
    | some ds => asgs F G ts ds env st
    | none => .bad) := by
  obtain ⟨h1, h2⟩ := h.each
  refine pg_imp (pg_or (pg_tup fx.hc h.pgs h1 h2) (pg_unl fx.hc h.pgs h1 h2)) fun v σ H Q ⟨as, st, env, d, rel, re, rv, g⟩ => ?_
  simp only [] at g
  split at g
  · rename_i ds e
    unfold partsOf at e
    split at e
    · cases e
      obtain ⟨a, vs, rfl, q1, q2⟩ := rv
      exact .inl ⟨a, vs, rfl, q1, by rw [← q2.length, asgs_len g, h.len], as, st, env, _, rel, re, q2, g⟩
    · cases e
      obtain ⟨a, vs, rfl, q1, q2⟩ := rv
      exact .inr ⟨a, vs, rfl, q1.l, by rw [← q2.length, asgs_len g, h.len], as, st, env, _, rel, re, q2, g⟩
    · split at e
      · rename_i e'
        cases e
        obtain ⟨a, rfl, _, hro⟩ := rel.of_ref e' rv
        obtain ⟨vs, q1, q2⟩ := ro_seq hro rfl
        exact .inr ⟨a, vs, rfl, q1, by rw [← q2.length, asgs_len g, h.len], as, st, env, _, rel, re, q2, g⟩
      · cases e
    · cases e
  · exact g.elim
theorem s_tgsub (fx : Fit X) {ea eb : E} {a b : Expr} {p : Pos} (ha : L2.PE X a (tE X.K (ev F G ea))) (hb : L2.PE X b (tE X.K (ev F G eb))) (hs : noSlice b = true) : PG X (.Subscript a b p) (tG X.K (tgOwn (.sub ea eb)) fun d env st => (ev F G ea env st).bind fun x st1 => (ev F G eb env st1).bind fun y st2 =>
    match setD x y d st2 with
    | some st3 => .ok env st3
    | none => .bad) :=
  pg_imp (pg_sub ha hb (set_all (by have := fx.hu; omega)) (by intro v; cases b <;> first | rfl | cases hs)) fun v σ H Q ⟨as, st, env, d, rel, re, rv, g⟩ =>
    tE_mono (one_of rel re g) fun o H1 ⟨as1, st1, x, e1, r1, re1, ro, g1⟩ => tE_mono (one_of r1 re1 g1) fun i H2 ⟨as2, st2, y, e2, r2, re2, ri, g2⟩ => by
      split at g2
      · rename_i st3 e
        exact ⟨as2, st2, x, y, d, st3, r2, RV.mono e2 _ _ ro, ri, RV.mono e2 _ _ (RV.mono e1 _ _ rv), e, fun H' e' r' => g2 _ _ e' r' _ (re2.mono e') fun _ _ => rfl⟩
      · exact g2.elim

/-! ### what is walked -/
structure SrcR (K : PySem.W.Frag) (as : List Addr) (H : Hp) (s : Src) (J : It) : Prop where
  stop : ∀ as' H' st' i, Ext K as H as' H' → Rel K as' st' H' → s.at st' i = some none → J.stop i H'
  go : ∀ as' H' st' i d, Ext K as H as' H' → Rel K as' st' H' → s.at st' i = some (some d) → J.go i H' ∧ ∀ x H'', J.yld i H' x H'' → Ext K as' H' as' H'' ∧ Rel K as' st' H'' ∧ RV K as' H'' d x
def tI (K : PySem.W.Frag) (k : ItK) (m : Env → Sto → Res (List D)) : TI := fun σ H R => ∃ as st env, Rel K as st H ∧ REnv K as H env σ ∧ Good K (fun s as1 H1 => ∀ J, SrcR K as1 H1 s J → R J H1) as H ((m env st).bind fun ds st1 => liftO (srcD k ds st1) st1)
section
variable {K : PySem.W.Frag} {as : List Addr} {H : Hp} {st : Sto}
theorem fix_get {ds : List D} {st' : Sto} {i : Nat} {o : Option D} (h : (Src.fix ds).at st' i = some o) : i ≤ ds.length ∧ ds[i]? = o := by
  unfold Src.at at h
  split at h
  · rename_i hi; exact ⟨hi, by simpa using h⟩
  · cases h
/-- the items of a source that is a list or a tuple of the heap -/
structure SeqR (K : PySem.W.Frag) (as : List Addr) (H : Hp) (s : Src) (k : Sk) (a : Addr) : Prop where
  get : ∀ as' H' st' i o, Ext K as H as' H' → Rel K as' st' H' → s.at st' i = some o → ∃ ds vs, SqK k K H' a vs ∧ RVs K as' H' ds vs ∧ i ≤ ds.length ∧ ds[i]? = o
theorem seqK_of {d : D} {v : V} {s : Src} (rel : Rel K as st H) (rv : RV K as H d v) (h : seqD d st = some s) : ∃ k a xs, v = .ref a ∧ SqK k K H a xs ∧ SeqR K as H s k a := by
  unfold seqD at h
  split at h
  · cases h
    obtain ⟨a, vs, rfl, h1, h2⟩ := rv
    exact ⟨.T, a, vs, rfl, h1, ⟨fun as' H' st' i o e r q => ⟨_, vs, e.tup _ _ h1, RVs.mono e _ _ h2, fix_get q⟩⟩⟩
  · cases h
    obtain ⟨a, vs, rfl, h1, h2⟩ := rv
    exact ⟨.L, a, vs, rfl, h1.l, ⟨fun as' H' st' i o e r q => ⟨_, vs, (h1.mono e.wk).l, RVs.mono e _ _ h2, fix_get q⟩⟩⟩
  · split at h
    · rename_i xs e0
      cases h
      obtain ⟨a, rfl, ha, hro⟩ := rel.of_ref e0 rv
      obtain ⟨vs, h1, h2⟩ := ro_seq hro rfl
      refine ⟨.L, a, vs, rfl, h1, ⟨fun as' H' st' i o e r q => ?_⟩⟩
      unfold Src.at at q
      split at q
      · rename_i ys e1
        split at q
        · rename_i hi
          obtain ⟨ws, h3, h4⟩ := ro_seq (r.at_ _ _ a e1 (e.at_ ha)) rfl
          exact ⟨ys, ws, h3, h4, hi, by simpa using q⟩
        · cases q
      · cases q
    · cases h
  · cases h
theorem sqk_get {k : Sk} {H' : Hp} {a : Addr} {ds : List D} {vs : List V} {as' : List Addr} {i : Nat} {d : D} (hs : SqK k K H' a vs) (r : RVs K as' H' ds vs) (e : ds[i]? = some d) : ∃ x, vs[i]? = some x ∧ RV K as' H' d x := r.get e
def ItP (k : Sk) (K : PySem.W.Frag) (a : Addr) : It := match k with | .L => Itl K a | .T => Itt K a
theorem srcR_plain {k : Sk} {a : Addr} {s : Src} (q : SeqR K as H s k a) : SrcR K as H s (ItP k K a) := by
  refine ⟨fun as' H' st' i e r h => ?_, fun as' H' st' i d e r h => ?_⟩
  · obtain ⟨ds, vs, h1, h2, h3, h4⟩ := q.get as' H' st' i _ e r h
    have : vs.length ≤ i := by rw [← h2.length]; exact List.getElem?_eq_none_iff.mp h4
    cases k <;> exact ⟨vs, h1, this⟩
  · obtain ⟨ds, vs, h1, h2, h3, h4⟩ := q.get as' H' st' i _ e r h
    obtain ⟨x, h5, h6⟩ := h2.get h4
    cases k
    · refine ⟨⟨vs, x, h1, h5⟩, fun y H'' hy => ?_⟩
      obtain ⟨rfl, hy⟩ := hy
      have := hy vs h1
      rw [h5] at this; cases this
      exact ⟨Ext.refl, r, h6⟩
    · refine ⟨⟨vs, x, h1, h5⟩, fun y H'' hy => ?_⟩
      obtain ⟨rfl, hy⟩ := hy
      have := hy vs h1
      rw [h5] at this; cases this
      exact ⟨Ext.refl, r, h6⟩
theorem at_enum {s : Src} {st' : Sto} {i : Nat} {o : Option D} (h : (Src.enum s).at st' i = some o) : (o = none ∧ s.at st' i = some none) ∨ ∃ x, o = some (.tup [.int (i : Int), x]) ∧ s.at st' i = some (some x) := by
  unfold Src.at at h
  split at h
  · rename_i x e; cases h; exact .inr ⟨x, rfl, e⟩
  · rename_i e; cases h; exact .inl ⟨rfl, e⟩
  · cases h
theorem srcR_enum {k : Sk} {a : Addr} {s : Src} (q : SeqR K as H s k a) : SrcR K as H (.enum s) (IteK k K a) := by
  refine ⟨fun as' H' st' i e r h => ?_, fun as' H' st' i d e r h => ?_⟩
  · rcases at_enum h with ⟨_, hh⟩ | ⟨x, z, _⟩
    · obtain ⟨ds, vs, h1, h2, h3, h4⟩ := q.get as' H' st' i _ e r hh
      have : ds.length ≤ i := List.getElem?_eq_none_iff.mp h4
      exact ⟨vs, h1, by rw [← h2.length]; omega⟩
    · cases z
  · rcases at_enum h with ⟨z, _⟩ | ⟨x, z, hh⟩
    · cases z
    · cases z
      obtain ⟨ds, vs, h1, h2, h3, h4⟩ := q.get as' H' st' i _ e r hh
      obtain ⟨w, h5, h6⟩ := h2.get h4
      refine ⟨⟨vs, w, h1, h5⟩, fun y H'' hy => ?_⟩
      obtain ⟨T, z, rfl, hT, rfl, hy⟩ := hy
      have := hy vs h1
      rw [h5] at this; cases this
      have e2 : Ext K as' H' as' (upd H' T (.tup [.int (i : Nat), w])) := Ext.laid hT
      exact ⟨e2, r.laid hT, T, _, rfl, SqT.of upd_same, .int (i : Nat), _, rfl, rfl, RVs.one (RV.mono e2 _ _ h6)⟩
theorem at_zip {s t : Src} {st' : Sto} {i : Nat} {o : Option D} (h : (Src.zip s t).at st' i = some o) : (o = none ∧ ∃ a b, s.at st' i = some a ∧ t.at st' i = some b ∧ (a = none ∨ b = none)) ∨ ∃ x y, o = some (.tup [x, y]) ∧ s.at st' i = some (some x) ∧ t.at st' i = some (some y) := by
  unfold Src.at at h
  split at h
  · rename_i x y e1 e2; cases h; exact .inr ⟨x, y, rfl, e1, e2⟩
  · rename_i a b hno e1 e2
    cases h
    refine .inl ⟨rfl, a, b, e1, e2, ?_⟩
    cases a with
    | none => exact .inl rfl
    | some a => cases b with
      | none => exact .inr rfl
      | some b => exact (hno a b rfl rfl).elim
  · cases h
theorem srcR_zip {k k' : Sk} {a b : Addr} {s t : Src} (q : SeqR K as H s k a) (q' : SeqR K as H t k' b) : SrcR K as H (.zip s t) (ItzK k k' K a b) := by
  refine ⟨fun as' H' st' i e r h => ?_, fun as' H' st' i d e r h => ?_⟩
  · rcases at_zip h with ⟨_, u, w, hh, hh', hor⟩ | ⟨x, y, z, _⟩
    · obtain ⟨ds, vs, h1, h2, h3, h4⟩ := q.get as' H' st' i _ e r hh
      obtain ⟨ds', vs', h1', h2', h3', h4'⟩ := q'.get as' H' st' i _ e r hh'
      refine ⟨vs, vs', h1, h1', ?_⟩
      rw [← h2.length, ← h2'.length]
      rcases hor with rfl | rfl
      · have : ds.length ≤ i := List.getElem?_eq_none_iff.mp h4
        omega
      · have : ds'.length ≤ i := List.getElem?_eq_none_iff.mp h4'
        omega
    · cases z
  · rcases at_zip h with ⟨z, _⟩ | ⟨x, y, z, hh, hh'⟩
    · cases z
    · cases z
      obtain ⟨ds, vs, h1, h2, h3, h4⟩ := q.get as' H' st' i _ e r hh
      obtain ⟨ds', vs', h1', h2', h3', h4'⟩ := q'.get as' H' st' i _ e r hh'
      obtain ⟨w, h5, h6⟩ := h2.get h4
      obtain ⟨w', h5', h6'⟩ := h2'.get h4'
      refine ⟨⟨vs, vs', w, w', h1, h1', h5, h5'⟩, fun z H'' hy => ?_⟩
      obtain ⟨T, u, u', rfl, hT, rfl, hy, hy'⟩ := hy
      have := hy vs h1
      rw [h5] at this; cases this
      have := hy' vs' h1'
      rw [h5'] at this; cases this
      have e2 : Ext K as' H' as' (upd H' T (.tup [w, w'])) := Ext.laid hT
      exact ⟨e2, r.laid hT, T, _, rfl, SqT.of upd_same, RVs.two (RV.mono e2 _ _ h6) (RV.mono e2 _ _ h6')⟩
theorem range_get {lo c : Int} {n i : Nat} {o : Option D} (h : (rangeD lo c n)[i]? = o) : (n ≤ i ∧ o = none) ∨ (i < n ∧ o = some (.int (lo + (i : Int) * c))) := by
  unfold rangeD at h
  rw [List.getElem?_map] at h
  by_cases hi : i < n
  · rw [List.getElem?_range hi] at h; exact .inr ⟨hi, h.symm⟩
  · rw [List.getElem?_eq_none (by simpa using hi)] at h; exact .inl ⟨by omega, h.symm⟩
theorem srcR_range {lo : Int} {n : Nat} : SrcR K as H (.fix (rangeD lo 1 n)) (Itr lo n) := by
  refine ⟨fun as' H' st' i e r h => ?_, fun as' H' st' i d e r h => ?_⟩
  · rcases range_get (fix_get h).2 with ⟨h, _⟩ | ⟨_, z⟩
    · exact h
    · cases z
  · rcases range_get (fix_get h).2 with ⟨_, z⟩ | ⟨hh, z⟩
    · cases z
    · cases z
      refine ⟨hh, fun y H'' hy => ?_⟩
      obtain ⟨rfl, rfl⟩ := hy
      exact ⟨Ext.refl, r, by show V.int _ = V.int _; rw [Int.mul_one]⟩
theorem srcR_rangeC {lo c : Int} {n : Nat} : SrcR K as H (.fix (rangeD lo c n)) (Itc lo c n) := by
  refine ⟨fun as' H' st' i e r h => ?_, fun as' H' st' i d e r h => ?_⟩
  · rcases range_get (fix_get h).2 with ⟨h, _⟩ | ⟨_, z⟩
    · exact h
    · cases z
  · rcases range_get (fix_get h).2 with ⟨_, z⟩ | ⟨hh, z⟩
    · cases z
    · cases z
      refine ⟨hh, fun y H'' hy => ?_⟩
      obtain ⟨rfl, rfl⟩ := hy
      exact ⟨Ext.refl, r, rfl⟩
theorem srcR_str {x : Str} : SrcR K as H (.fix (signsD x)) (Its x) := by
  refine ⟨fun as' H' st' i e r h => ?_, fun as' H' st' i d e r h => ?_⟩
  · have := (fix_get h).2
    unfold signsD at this
    have h2 := List.getElem?_eq_none_iff.mp this
    rw [List.length_map, Array.length_toList] at h2
    exact h2
  · have := (fix_get h).2
    unfold signsD at this
    rw [List.getElem?_map] at this
    obtain ⟨c, h1, rfl⟩ := Option.map_eq_some_iff.mp this
    rw [Array.getElem?_toList] at h1
    refine ⟨(Array.getElem?_eq_some_iff.mp h1).1, fun y H'' hy => ?_⟩
    obtain ⟨rfl, c', h2, rfl⟩ := hy
    rw [h1] at h2; cases h2
    exact ⟨Ext.refl, r, rfl⟩
end
theorem big_of {i : Int} (h : big62 i = true) : -(2 ^ 62) ≤ i ∧ i < 2 ^ 62 := by
  unfold big62 at h
  simpa only [Bool.and_eq_true, decide_eq_true_eq] using h
/-- an iterable as it is -/
theorem i_plain {e : E} {tg it : Expr} (h : L2.PE X it (tE X.K (ev F G e))) : PI X tg it (tI X.K .plain (evs F G (.cons e .nil))) :=
  pi_imp (pi_plain h) fun σ H R ⟨as, st, env, rel, re, g⟩ => by
    simp only [evs_consE, evs_nilE, Res.bind_assoc, Res.bind_ok] at g
    refine tE_mono (one_of rel re g) fun v H1 ⟨as1, st1, d, _, r1, _, rv, g1⟩ => ?_
    obtain ⟨s, e1, g2⟩ := g1.lift
    have q := g2.here r1
    unfold srcD at e1
    split at e1
    · rename_i x hx
      cases hx
      cases e1
      have rv : v = _ := rv
      exact .inr ⟨_, rv, q _ srcR_str⟩
    · rename_i d' _ hx
      cases hx
      obtain ⟨k, a, xs, rfl, h1, h2⟩ := seqK_of r1 rv e1
      exact .inl ⟨k, a, xs, rfl, h1, q (ItP k X.K a) (srcR_plain h2)⟩
    all_goals first | cases e1 | (rename_i hk _ ; cases hk)
theorem i_range1 {es : Es} {tg a : Expr} {p pos : Pos} (hg : Gl X "range") (hm : X.mg "range" = none) (h : PAll F G X es [a]) : PI X tg (.Call (.Name "range" p) [a] [] pos) (tI X.K .range1 (evs F G es)) := by
  have hs := h.stars
  have hl := h.len
  simp only [List.all_cons, Bool.and_eq_true] at hs
  refine pi_imp (pi_range1 hg hm h.pa (star_cons hs.1 _ _)) fun σ H R ⟨as, st, env, rel, re, g⟩ => tA_mono (evs_of rel re g) fun vs H1 ⟨as1, st1, ds, _, r1, _, rvs, hl1, g1⟩ => ?_
  obtain ⟨s, e1, g2⟩ := g1.lift
  have q := g2.here r1
  match ds, hl1.trans hl.symm with
  | [d], _ =>
    obtain ⟨v, rfl, rv⟩ := rvs_one rvs
    cases d <;> simp only [srcD] at e1 <;> try (cases e1; done)
    split at e1
    · rename_i n hb
      cases e1
      have rv : v = _ := rv
      subst rv
      obtain ⟨q1, q2⟩ := big_of hb
      exact ⟨_, rfl, q1, q2, q _ srcR_range⟩
    · cases e1
theorem i_range2 {es : Es} {tg a b : Expr} {p pos : Pos} (hg : Gl X "range") (hm : X.mg "range" = none) (h : PAll F G X es [a, b]) : PI X tg (.Call (.Name "range" p) [a, b] [] pos) (tI X.K .range2 (evs F G es)) := by
  have hs := h.stars
  have hl := h.len
  simp only [List.all_cons, Bool.and_eq_true] at hs
  refine pi_imp (pi_range2 hg hm h.pa (by rw [star_cons hs.1, star_cons hs.2.1]; rfl) (star_cons hs.2.1 _ _)) fun σ H R ⟨as, st, env, rel, re, g⟩ => tA_mono (evs_of rel re g) fun vs H1 ⟨as1, st1, ds, _, r1, _, rvs, hl1, g1⟩ => ?_
  obtain ⟨s, e1, g2⟩ := g1.lift
  have q := g2.here r1
  match ds, hl1.trans hl.symm with
  | [d, d'], _ =>
    obtain ⟨v, u, rfl, rv, ru⟩ := rvs_two rvs
    cases d <;> cases d' <;> simp only [srcD] at e1 <;> try (cases e1; done)
    split at e1
    · rename_i n m hb
      cases e1
      have rv : v = _ := rv
      have ru : u = _ := ru
      subst rv; subst ru
      rw [Bool.and_eq_true] at hb
      obtain ⟨q1, q2⟩ := big_of hb.1
      obtain ⟨q3, q4⟩ := big_of hb.2
      exact ⟨_, _, rfl, ⟨q1, q2, q3, q4⟩, q _ srcR_range⟩
    · cases e1
theorem i_range3 {es : Es} {tg a b c : Expr} {p pos : Pos} (hg : Gl X "range") (hm : X.mg "range" = none) (h : PAll F G X es [a, b, c]) : PI X tg (.Call (.Name "range" p) [a, b, c] [] pos) (tI X.K .range3 (evs F G es)) := by
  have hs := h.stars
  have hl := h.len
  simp only [List.all_cons, Bool.and_eq_true] at hs
  refine pi_imp (pi_range3 hg hm h.pa (star_cons hs.1 _ _) (stars_plain (by simp only [List.all_cons, Bool.and_eq_true]; exact hs.2))) fun σ H R ⟨as, st, env, rel, re, g⟩ => tA_mono (evs_of rel re g) fun vs H1 ⟨as1, st1, ds, _, r1, _, rvs, hl1, g1⟩ => ?_
  obtain ⟨s, e1, g2⟩ := g1.lift
  have q := g2.here r1
  match ds, hl1.trans hl.symm with
  | [d, d', d''], _ =>
    obtain ⟨v, ws, rfl, rv, rw'⟩ := rvs
    obtain ⟨u, w, rfl, ru, rw''⟩ := rvs_two rw'
    cases d <;> cases d' <;> cases d'' <;> simp only [srcD] at e1 <;> try (cases e1; done)
    split at e1
    · rename_i n m c hb
      cases e1
      have rv : v = _ := rv
      have ru : u = _ := ru
      have rw'' : w = _ := rw''
      subst rv; subst ru; subst rw''
      simp only [Bool.and_eq_true, decide_eq_true_eq] at hb
      obtain ⟨q1, q2⟩ := big_of hb.1.1
      obtain ⟨q3, q4⟩ := big_of hb.1.2
      have hc := hb.2
      subst hc
      exact ⟨_, _, _, _, rfl, RgC.neg q1 q2 q3 q4, q _ srcR_rangeC⟩
    · cases e1
theorem i_enum {es : Es} {a : Expr} {p pos tpos : Pos} {l : List Expr} {k : Nat} (hg : Gl X "enumerate") (hm : X.mg "enumerate" = none) (h : PAll F G X es [a]) : PI X (.Tuple l k tpos) (.Call (.Name "enumerate" p) [a] [] pos) (tI X.K .enum (evs F G es)) := by
  have hs := h.stars
  have hl := h.len
  simp only [List.all_cons, Bool.and_eq_true] at hs
  refine pi_imp (pi_enumK hg hm h.pa (star_cons hs.1 _ _)) fun σ H R ⟨as, st, env, rel, re, g⟩ => tA_mono (evs_of rel re g) fun vs H1 ⟨as1, st1, ds, _, r1, _, rvs, hl1, g1⟩ => ?_
  obtain ⟨s, e1, g2⟩ := g1.lift
  have q := g2.here r1
  match ds, hl1.trans hl.symm with
  | [d], _ =>
    obtain ⟨v, rfl, rv⟩ := rvs_one rvs
    simp only [srcD] at e1
    obtain ⟨s', e2, rfl⟩ := Option.map_eq_some_iff.mp e1
    obtain ⟨k, a, xs, rfl, h1, h2⟩ := seqK_of r1 rv e2
    exact ⟨k, a, xs, rfl, h1, q _ (srcR_enum h2)⟩
theorem i_zip {es : Es} {a b : Expr} {p pos tpos : Pos} {l : List Expr} {k : Nat} (hg : Gl X "zip") (hm : X.mg "zip" = none) (h : PAll F G X es [a, b]) : PI X (.Tuple l k tpos) (.Call (.Name "zip" p) [a, b] [] pos) (tI X.K .zip (evs F G es)) := by
  have hs := h.stars
  have hl := h.len
  simp only [List.all_cons, Bool.and_eq_true] at hs
  refine pi_imp (pi_zipK hg hm h.pa (star_cons hs.1 _ _) (stars_plain (by simp only [List.all_cons, Bool.and_eq_true]; exact hs.2))) fun σ H R ⟨as, st, env, rel, re, g⟩ => tA_mono (evs_of rel re g) fun vs H1 ⟨as1, st1, ds, _, r1, _, rvs, hl1, g1⟩ => ?_
  obtain ⟨s, e1, g2⟩ := g1.lift
  have q := g2.here r1
  match ds, hl1.trans hl.symm with
  | [d, d'], _ =>
    obtain ⟨v, u, rfl, rv, ru⟩ := rvs_two rvs
    simp only [srcD] at e1
    split at e1
    · rename_i s1 s2 e2 e3
      cases e1
      obtain ⟨k, a, xs, rfl, h1, h2⟩ := seqK_of r1 rv e2
      obtain ⟨k', b, ys, rfl, h1', h2'⟩ := seqK_of r1 ru e3
      exact ⟨k, k', a, b, xs, ys, rfl, h1, h1', q _ (srcR_zip h2 h2')⟩
    · cases e1
end
end PL

set_option Elab.async false
set_option linter.all false
set_option maxRecDepth 100000
set_option maxHeartbeats 2000000
/-! PLK: list comprehensions; all expressions. -/
namespace PL
open PySem PySem.Spec PyProof.Rows L2

section
variable {F : Nat → List D → Sto → Res D} {G : List D} {X : Cx}
theorem wipe_idem (σ : L2.St) : ∀ vs : List Nat, wipe (wipe σ vs) vs = wipe σ vs
  | [] => rfl
  | v :: vs => by
    have aux : ∀ (τ : L2.St) (us : List Nat), (wipe (τ.set v none) us).set v none = (wipe τ us).set v none := by
      intro τ us
      induction us with
      | nil => unfold L2.wipe; rw [List.set_set]
      | cons u us ih =>
        unfold L2.wipe
        by_cases hu : u = v
        · subst hu; rw [List.set_set, List.set_set]; exact ih
        · rw [List.set_comm _ _ hu, List.set_comm _ _ hu, ih]
    show (wipe ((wipe σ vs).set v none) vs).set v none = (wipe σ vs).set v none
    rw [aux, wipe_idem σ vs]
def mLc (own : List Nat) (k : ItK) (ms : Env → Sto → Res (List D)) (mt : D → Env → Sto → Res Env) (mc : Env → Sto → Res Bool) (me : Env → Sto → Res D) : Env → Sto → Res D := fun env st => (ms env st).bind fun ds st1 => match srcD k ds st1 with
    | none => .bad
    | some s => lcLoop s (fun d st2 => (mt d (wipeE env own) st2).bind fun env1 st3 => (mc env1 st3).bind fun b st4 =>
        if b then (me env1 st4).bind fun y st5 => .ok (some y) st5 else .ok none st4) (s.len st1 + 1) 0 [] st1
theorem src_bind {β : Type} {r : Res (List D)} {k : ItK} {L : Src → Sto → Res β} : (r.bind fun ds st1 => match srcD k ds st1 with | none => .bad | some s => L s st1) = (r.bind fun ds st1 => liftO (srcD k ds st1) st1).bind L := by
  cases r with
  | ok ds st1 =>
    simp only [Res.bind_ok]
    cases srcD k ds st1 <;> rfl
  | exc _ _ _ => rfl
  | bad => rfl
theorem lc_of {K : PySem.W.Frag} {own : List Nat} {k : ItK} {ow : List Nat → Bool} {ms : Env → Sto → Res (List D)} {mt : D → Env → Sto → Res Env} {mc : Env → Sto → Res Bool} {me : Env → Sto → Res D} {σ : L2.St} {H : Hp} {Q : VK} (ho : ow own = true)
    (h : tE K (mLc own k ms mt mc me) σ H Q) : tLc (tI K k ms) (tG K ow mt) (tT K mc) (tE K me) own σ H Q := by
  obtain ⟨as, st, env, rel, re, g⟩ := h
  unfold mLc at g
  rw [src_bind] at g
  refine ⟨as, st, env, rel, re, g.bindE.imp fun s as0 H0 e1 ⟨st0, _, _, r1, g1⟩ J hJ => ?_⟩
  intro D hD
  have re0 := re.mono e1
  have g1 := g1.mono e1
  generalize hstep : (fun (d : PL.D) st2 => (mt d (wipeE env own) st2).bind fun env1 st3 => (mc env1 st3).bind fun b st4 =>
        if b then (me env1 st4).bind fun y st5 => Res.ok (some y) st5 else Res.ok none st4) = step at g1
  refine ⟨fun i m H' => ∃ as' st' acc vs', Ext K as0 H0 as' H' ∧ Rel K as' st' H' ∧ D ∉ as' ∧ H' D = some (.lst vs') ∧ RVs K as' H' acc vs' ∧ Good K (PE' K Q) as0 H0 (lcLoop s step m i acc st'),
    ⟨s.len st0 + 1, as0, st0, [], [], Ext.laid hD, r1.laid hD, r1.out hD, upd_same, rfl, g1⟩, ?_⟩
  rintro i m H' ⟨as', st', acc, vs', e2, r2, hd2, hD2, rv2, g2⟩
  cases m with
  | zero => exact g2.elim
  | succ m =>
    rw [lcLoop] at g2
    split at g2
    · exact g2.elim
    · rename_i hat
      refine .inl ⟨hJ.stop as' H' st' i e2 r2 hat, ?_⟩
      have hro : RO K (as' ++ [D]) H' (.lst acc) D := ⟨vs', hD2, RVs.monoW Wk.snoc _ _ rv2⟩
      exact g2 _ _ (e2.adopt hD) (r2.adopt hd2 hro) _ ⟨D, rfl, by rw [List.getElem?_append_right (by rw [r2.len]; exact Nat.le_refl _), r2.len]; simp⟩
    · rename_i d hat
      obtain ⟨hgo, hy⟩ := hJ.go as' H' st' i d e2 r2 hat
      refine .inr ⟨hgo, _, fun H' hN => ⟨m, Nat.lt_succ_self m, hN⟩, fun x H3 yl => ?_⟩
      obtain ⟨e3, r3, rx⟩ := hy x H3 yl
      have hD3 : H3 D = some (.lst vs') := e3.frm D _ hd2 hD2
      subst hstep
      simp only [Res.bind_assoc] at g2
      have re3 : REnv K as' H3 (wipeE env own) (wipe σ own) := ((re0.mono (e2.trans e3))).wipe own
      obtain ⟨a1, b1, c1, d1, q1, q2, q3, q4⟩ := tg_ofE (own := ow) (e2.trans e3) r3 re3 rx g2
      refine ⟨a1, b1, c1, d1, q1, q2, q3, q4.imp fun env1 as4 H4 e4 q σ4 re4 hw => ?_⟩
      obtain ⟨as5, st5, env5, e5, r5, re5, hw5, g5⟩ := q σ4 re4 hw
      refine ⟨by rw [hw5 own ho, wipe_idem], ?_⟩
      refine tT_mono (test_ofE ((e2.trans e3).trans e5) r5 re5 g5) fun b H6 ⟨as6, st6, e6, r6, re6, g6⟩ => ?_
      have e56 := e5.trans e6
      have hd5 : D ∉ as5 := e5.out hD3 hd2
      have hD5 := e5.frm D _ hd2 hD3
      have hd6 : D ∉ as6 := e6.out hD5 hd5
      have hD6 := e6.frm D _ hd5 hD5
      cases b with
      | false =>
        rw [if_neg (by simp)] at g6 ⊢
        exact ⟨as6, st6, acc, vs', ((e2.trans e3).trans e5).trans e6, r6, hd6, hD6, RVs.mono e6 _ _ (RVs.mono e5 _ _ (RVs.mono e3 _ _ rv2)), g6⟩
      | true =>
        rw [if_pos rfl] at g6 ⊢
        simp only [Res.bind_assoc, Res.bind_ok] at g6
        refine tE_mono (one_ofE (((e2.trans e3).trans e5).trans e6) r6 re6 g6) fun y H7 ⟨as7, st7, dy, e7, r7, re7, ry, g7⟩ => ?_
        have hd7 : D ∉ as7 := e7.out hD6 hd6
        have hD7 := e7.frm D _ hd6 hD6
        have rv7 := RVs.mono e7 _ _ (RVs.mono e6 _ _ (RVs.mono e5 _ _ (RVs.mono e3 _ _ rv2)))
        split at g7
        · rename_i hlt
          have hm : (∀ vs : List V, (HO.lst vs') ≠ .tup vs) ∧ ∀ o w, (HO.lst vs') ≠ .frz o w := ⟨fun _ z => (by cases z), fun _ _ z => (by cases z)⟩
          refine ⟨vs', hD7, by rw [← rv7.length]; exact hlt, as7, st7, acc ++ [dy], vs' ++ [y], ?_, r7.side hd7 hD7 hm, hd7, upd_same, ?_, g7⟩
          · exact (((((e2.trans e3).trans e5).trans e6).trans e7)).side hD hD7 hm
          · exact RVs.monoW (Wk.side hD7 hm) _ _ (rv7.append (RVs.one ry))
        · exact g7.elim
theorem pts_imp {X : Cx} {ifs : List Expr} {t t' : TT} (h : PTs X ifs t) (f : ∀ σ H Q, t' σ H Q → t σ H Q) : PTs X ifs t' := ⟨fun pins s σ H Q I q => h.run pins s σ H Q I (f σ H Q q)⟩
theorem pts_yes : PTs X [] (tT X.K fun _ st => .ok true st) := pts_imp pts_nil fun σ H Q ⟨as, st, env, rel, re, g⟩ => g.here rel
theorem s_lc (fx : Fit X) (hN : X.N.Nodup) {own : List (Str × Nat)} {k : ItK} {t : Tg} {ms : Env → Sto → Res (List D)} {mt : D → Env → Sto → Res Env} {mc : Env → Sto → Res Bool} {me : Env → Sto → Res D} {elt tg iter : Expr} {ifs : List Expr} {scope : Scope} {pos : Pos} (ho : tgOwn t (own.map (·.2)) = true)
    (hi : PI X tg iter (tI X.K k ms)) (ok : BlkOk X.N X.env.scope scope own)
    (hg : ∀ (s : Shared) (H : Hp) (C : Addr) (cl : List (Str × Addr)) (fp : List Addr), PG (X.blk s H scope (compEnvC scope cl C X.env) fp) tg (tG X.K (tgOwn t) mt)) (ht : ∀ (s : Shared) (H : Hp) (C : Addr) (cl : List (Str × Addr)) (fp : List Addr), PTs (X.blk s H scope (compEnvC scope cl C X.env) fp) ifs (tT X.K mc))
    (he : ∀ (s : Shared) (H : Hp) (C : Addr) (cl : List (Str × Addr)) (fp : List Addr), L2.PE (X.blk s H scope (compEnvC scope cl C X.env) fp) elt (tE X.K me)) (hs : noSet iter = true) :
    L2.PE X (.ListComp elt [⟨tg, iter, ifs, 0⟩] scope pos) (tE X.K (mLc (own.map (·.2)) k ms mt mc me)) :=
  pe_imp (pe_lc fx.hc hN hi ok hg ht he (noSet_fold hs X.env)) fun σ H Q h => lc_of ho h

/-! ### the block's context -/
theorem relS_sub {sc : Scope} : ∀ {names : List (Str × NameKind)} {x : Str} {q : NameKind}, names.lookup x = some q →
    ∃ q', (names.map fun (n, k) => if (k == NameKind.free && sc.kind == .function && sc.names.lookup n == some .cell) then (n, NameKind.cell) else (n, k)).lookup x = some q' ∧ (q' = q ∨ (q = .free ∧ q' = .cell))
  | [], _, _, h => by simp at h
  | (n, k₀) :: r, x, q, h => by
    have ih := @relS_sub sc r x q
    show ∃ q', List.lookup x ((if (k₀ == NameKind.free && sc.kind == .function && sc.names.lookup n == some .cell) = true then (n, NameKind.cell) else (n, k₀)) :: (r.map _)) = some q' ∧ _
    cases hx : x == n with
    | true =>
      simp only [List.lookup_cons, hx] at h
      have h : k₀ = q := by simpa using h
      subst h
      by_cases hc : (k₀ == NameKind.free && sc.kind == .function && sc.names.lookup n == some .cell) = true
      · refine ⟨.cell, by rw [if_pos hc]; simp only [List.lookup_cons, hx], ?_⟩
        have hk : k₀ = .free := by
          simp only [Bool.and_eq_true, beq_iff_eq] at hc
          exact hc.1.1
        exact .inr ⟨hk, rfl⟩
      · exact ⟨k₀, by rw [if_neg hc]; simp only [List.lookup_cons, hx], .inl rfl⟩
    | false =>
      simp only [List.lookup_cons, hx] at h
      obtain ⟨q', h1, h2⟩ := ih h
      refine ⟨q', ?_, h2⟩
      by_cases hc : (k₀ == NameKind.free && sc.kind == .function && sc.names.lookup n == some .cell) = true
      · rw [if_pos hc]; simp only [List.lookup_cons, hx]; exact h1
      · rw [if_neg hc]; simp only [List.lookup_cons, hx]; exact h1
theorem Ctx.blk {B : Tab} {N : List Str} {sc : Scope} {k : Nat} (c : Ctx B F G N sc k X) (scope : Scope) (s : Shared) (H : Hp) (C : Addr) (cl : List (Str × Addr)) (fp : List Addr) : Ctx B F G N scope k (X.blk s H scope (compEnvC scope cl C X.env) fp) where
  fit := ⟨c.fit.hu, c.fit.hg, c.fit.hc⟩
  hN := c.hN
  nd := c.nd
  sub := fun x q h => relS_sub (sc := X.env.scope) h
  fnc := fun x h => by show (scope.names.lookup x == some .cell) = true; rw [h]; rfl
  room := c.room
  fns := fun i x ps h => let ⟨f, fd, q⟩ := c.fns i x ps h; ⟨f, fd, ⟨q.mg, q.keep, q.bind, q.bindK, q.ok⟩⟩
  free := c.free
  con := c.con
theorem Ctx.blkOk {B : Tab} {N : List Str} {sc : Scope} {k : Nat} (c : Ctx B F G N sc k X) {scope : Scope} {own : List (Str × Nat)} (ok : BlkOk N sc scope own) : BlkOk X.N X.env.scope scope own where
  kind := ok.kind
  uniq := ok.uniq
  ix := by rw [c.hN]; exact ok.ix
  free := fun y hy e => by
    rcases ok.free y hy e with h | h
    · obtain ⟨q', h1, h2⟩ := c.sub _ _ h
      rcases h2 with rfl | ⟨h2, _⟩
      · exact .inl h1
      · cases h2
    · obtain ⟨q', h1, h2⟩ := c.sub _ _ h
      rcases h2 with rfl | ⟨_, rfl⟩
      · exact .inr h1
      · exact .inl h1
  own := by rw [c.hN]; exact ok.own
theorem Ctx.vis {B : Tab} {N : List Str} {sc : Scope} {k : Nat} (c : Ctx B F G N sc k X) {x : Str} (h : visB sc x = true) : Vis X.env.scope x ∧ (x == ("__debug__" : Str)) = false ∧ (x == ("__classdict__" : Str)) = false := by
  unfold visB dbgB at h
  simp only [Bool.and_eq_true, Bool.not_eq_true'] at h
  refine ⟨?_, h.2⟩
  have h1 := h.1
  split at h1
  · rename_i e
    obtain ⟨q', h2, h3⟩ := c.sub _ _ e
    rcases h3 with rfl | ⟨h3, _⟩
    · exact .inl h2
    · cases h3
  · rename_i e
    obtain ⟨q', h2, h3⟩ := c.sub _ _ e
    rcases h3 with rfl | ⟨h3, _⟩
    · exact .inr (.inl h2)
    · cases h3
  · rename_i e
    obtain ⟨q', h2, h3⟩ := c.sub _ _ e
    rcases h3 with rfl | ⟨_, rfl⟩
    · exact .inr (.inr h2)
    · exact .inr (.inl h2)
  · cases h1
theorem Ctx.loc {B : Tab} {N : List Str} {sc : Scope} {k : Nat} (c : Ctx B F G N sc k X) {x : Str} (h : locB sc x = true) : Loc X.env.scope x ∧ (X.fn x = true ∨ X.env.scope.names.lookup x = some .local) := by
  unfold locB at h
  split at h
  · rename_i e
    obtain ⟨q', h2, h3⟩ := c.sub _ _ e
    rcases h3 with rfl | ⟨h3, _⟩
    · exact ⟨.inl h2, .inr h2⟩
    · cases h3
  · rename_i e
    obtain ⟨q', h2, h3⟩ := c.sub _ _ e
    rcases h3 with rfl | ⟨h3, _⟩
    · exact ⟨.inr h2, .inl (c.fnc _ e)⟩
    · cases h3
  · cases h
theorem Ctx.gl {B : Tab} {N : List Str} {sc : Scope} {k : Nat} (c : Ctx B F G N sc k X) {x : Str} (h : glB sc x = true) : Gl X x ∧ (x == ("__debug__" : Str)) = false := by
  unfold glB dbgB at h
  simp only [Bool.and_eq_true, Bool.not_eq_true'] at h
  refine ⟨?_, h.2⟩
  have h1 := h.1
  split at h1
  · rename_i e
    obtain ⟨q', h2, h3⟩ := c.sub _ _ e
    rcases h3 with rfl | ⟨h3, _⟩
    · exact h2
    · cases h3
  · cases h1
theorem Ctx.fr {B : Tab} {N : List Str} {sc : Scope} {k : Nat} (c : Ctx B F G N sc k X) {x y : Str} (h : freeB B sc x y = true) : x = y ∧ Gl X y ∧ X.mg y = none := by
  unfold freeB at h
  simp only [Bool.and_eq_true, decide_eq_true_eq] at h
  obtain ⟨rfl, h2, h3⟩ := h
  exact ⟨rfl, (c.gl h3).1, c.free _ h2⟩
end
end PL

set_option Elab.async false
set_option linter.all false
set_option maxRecDepth 100000
set_option maxHeartbeats 4000000
/-! PLL: every expression that passes the look comes to what the small language says. -/
namespace PL
open PySem PySem.Spec PyProof.Rows L2

section
variable {X : Cx}
theorem tE_eq {x : Expr} {m m' : Env → Sto → Res D} (h : ∀ env st, m' env st = m env st) (p : L2.PE X x (tE X.K m)) : L2.PE X x (tE X.K m') := by
  have : m' = m := by funext env st; exact h env st
  rw [this]; exact p
theorem tT_eq {x : Expr} {m m' : Env → Sto → Res Bool} (h : ∀ env st, m' env st = m env st) (p : L2.PT X x (tT X.K m)) : L2.PT X x (tT X.K m') := by
  have : m' = m := by funext env st; exact h env st
  rw [this]; exact p
theorem tW_eq {x : Expr} {m m' : Env → Sto → Res Bool} (h : ∀ env st, m' env st = m env st) (p : PW X x (tT X.K m)) : PW X x (tT X.K m') := by
  have : m' = m := by funext env st; exact h env st
  rw [this]; exact p
theorem tG_eq {x : Expr} {o : List Nat → Bool} {m m' : D → Env → Sto → Res Env} (h : ∀ d env st, m' d env st = m d env st) (p : PG X x (tG X.K o m)) : PG X x (tG X.K o m') := by
  have : m' = m := by funext d env st; exact h d env st
  rw [this]; exact p
end
/-- a test: also where it stands in an and, or an or -/
def PTW (X : Cx) (x : Expr) (m : Env → Sto → Res Bool) : Prop := L2.PT X x (tT X.K m) ∧ ∀ o l p, x = .BoolOp o l p → PW X x (tT X.K m)
theorem ptw_pw {X : Cx} {x : Expr} {m : Env → Sto → Res Bool} (h : PW X x (tT X.K m)) : PTW X x m := ⟨h.pt, fun _ _ _ _ => h⟩
theorem ptw_pt {X : Cx} {x : Expr} {m : Env → Sto → Res Bool} (h : L2.PT X x (tT X.K m)) (hn : ∀ o l p, x ≠ .BoolOp o l p) : PTW X x m := ⟨h, fun o l p e => absurd e (hn o l p)⟩
theorem plainT_bool {x : Expr} (h : plainT x = true) : ∀ o l p, x ≠ .BoolOp o l p := by
  intro o l p e; subst e; cases h

section
variable {B : Tab} {F : Nat → List D → Sto → Res D} {G : List D} {N : List Str} {k : Nat}
theorem fnB_of {f : Nat} {x : Str} {n : Nat} (h : fnB B f x n = true) : ∃ ps, B.fns[f]? = some (x, ps) ∧ n = ps.length := by
  unfold fnB at h
  split at h
  · rename_i y ps e
    simp only [Bool.and_eq_true, decide_eq_true_eq] at h
    obtain ⟨rfl, h2⟩ := h
    exact ⟨ps, e, h2⟩
  · cases h
theorem kwsOf_mem {f n : Nat} {ks : List Str} {g : List Nat} (h : (f, n, ks, g) ∈ B.kws) : (n, ks, g) ∈ B.kwsOf f :=
  List.mem_filterMap.mpr ⟨(f, n, ks, g), h, by simp⟩
theorem kwB_of {f : Nat} {x : Str} {n : Nat} {kl : List Keyword} {g : List Nat} (h : kwB B f x n kl g = true) : ∃ ps, B.fns[f]? = some (x, ps) ∧ g.length = ps.length ∧ kl.all (·.arg.isSome) = true ∧ (n, kl.filterMap (·.arg), g) ∈ B.kwsOf f := by
  unfold kwB at h
  rw [Bool.and_eq_true] at h
  obtain ⟨h, h'⟩ := h
  split at h
  · rename_i y ps e
    simp only [Bool.and_eq_true, decide_eq_true_eq] at h h'
    obtain ⟨rfl, h2⟩ := h
    exact ⟨ps, e, h2, h'.1, kwsOf_mem h'.2⟩
  · cases h
theorem conB_of {i : Nat} {x : Str} (h : conB B i x = true) : ∃ d, B.cons[i]? = some (x, d) := by
  unfold conB at h
  split at h
  · rename_i y d e
    cases of_decide_eq_true h
    exact ⟨d, e⟩
  · cases h
theorem blt_of {X : Cx} {sc : Scope} {b : Blt} {es : Es} {x : Expr} {l : List Expr} (c : Ctx B F G N sc k X) (hl : bltA B sc b x = some l) (hes : PAll F G X es l) : L2.PE X x (tE X.K fun env st => (evs F G es env st).bind fun ds st1 => bltD b ds st1) := by
  unfold bltA at hl
  split at hl
  · rename_i y args e
    obtain ⟨p, pos, rfl⟩ := asCall_eq e
    split at hl
    · rename_i t a z
      obtain ⟨h, rfl⟩ := onlyIf_of hl
      rw [Bool.and_eq_true] at h
      obtain ⟨h1, h2⟩ := h
      obtain ⟨rfl, h4, h5⟩ := c.fr h1
      split at h2
      · rename_i w e2
        obtain ⟨p2, rfl⟩ := asName_eq e2
        obtain ⟨rfl, h6, h7⟩ := c.fr h2
        cases es with
        | nil => exact hes.elim
        | cons e es =>
          cases es with
          | cons _ _ => exact hes.2.2.elim
          | nil => exact s_isi h4 h5 h6 h7 hes.2.1 hes.1
      · cases h2
    · cases hl
    · cases hl
    · rename_i b' a0 al hn1 hn2 hn3
      obtain ⟨h, rfl⟩ := onlyIf_of hl
      obtain ⟨rfl, h4, h5⟩ := c.fr h
      have hb : b.plain = true := by
        cases b <;> first | rfl | (exfalso; first | exact hn2 _ rfl | exact hn3 rfl)
      exact s_blt hb c.fit h4 h5 hes (by simp)
    · cases hl
  · cases hl
theorem it_of {X : Cx} {sc : Scope} {kk : ItK} {es : Es} {it tg : Expr} {l : List Expr} (c : Ctx B F G N sc k X) (hl : itA B sc kk it tg = some l) (hes : PAll F G X es l) : PI X tg it (tI X.K kk (evs F G es)) := by
  unfold itA at hl
  split at hl
  · cases hl
    cases es with
    | nil => exact hes.elim
    | cons e es =>
      cases es with
      | cons _ _ => exact hes.2.2.elim
      | nil => exact i_plain hes.2.1
  · split at hl
    · rename_i y args e
      obtain ⟨p, pos, rfl⟩ := asCall_eq e
      obtain ⟨h, rfl⟩ := onlyIf_of hl
      rw [Bool.and_eq_true] at h
      obtain ⟨h1, h2⟩ := h
      obtain ⟨rfl, h4, h5⟩ := c.fr h1
      split at h2
      · exact i_range1 h4 h5 hes
      · exact i_range2 h4 h5 hes
      · exact i_range3 h4 h5 hes
      · unfold isTup at h2
        split at h2
        · exact i_enum h4 h5 hes
        · cases h2
      · unfold isTup at h2
        split at h2
        · exact i_zip h4 h5 hes
        · cases h2
      · cases h2
    · cases hl
set_option maxHeartbeats 40000000 in
mutual
theorem soundE : ∀ (e : E) {X : Cx} {sc : Scope} {x : Expr}, Ctx B F G N sc k X → chkE B N e sc x = true → L2.PE X x (tE X.K (ev F G e))
  | .var i, X, sc, x, c, h => by
    rw [chkE] at h
    split at h
    · rename_i y e
      obtain ⟨p, rfl⟩ := asName_eq e
      simp only [Bool.and_eq_true, decide_eq_true_eq] at h
      obtain ⟨h1, h2, h3⟩ := c.vis h.2
      refine tE_eq ?_ (s_var (i := i) (by rw [c.hN]; exact h.1) h1 h2 h3)
      intro env st; rw [ev]; try rfl
    · cases h
  | .cI i, X, sc, x, c, h => by
    rw [chkE] at h
    split at h
    · rename_i j e
      obtain ⟨_, _, rfl⟩ := asConst_eq e
      cases of_decide_eq_true h
      refine tE_eq ?_ (s_c (d := .int i) pe_int fun _ _ => rfl)
      intro env st; rw [ev]; try rfl
    · cases h
  | .cB b, X, sc, x, c, h => by
    rw [chkE] at h
    split at h
    · rename_i j e
      obtain ⟨_, _, rfl⟩ := asConst_eq e
      have hb : b = j := by simpa using h
      subst hb
      refine tE_eq ?_ (s_c (d := .bl b) pe_bl fun _ _ => rfl)
      intro env st; rw [ev]; try rfl
    · cases h
  | .cS y, X, sc, x, c, h => by
    rw [chkE] at h
    split at h
    · rename_i j e
      obtain ⟨_, _, rfl⟩ := asConst_eq e
      cases of_decide_eq_true h
      refine tE_eq ?_ (s_c (d := .str y) pe_str fun _ _ => rfl)
      intro env st; rw [ev]; try rfl
    · cases h
  | .cN, X, sc, x, c, h => by
    rw [chkE] at h
    split at h
    · rename_i e
      obtain ⟨_, _, rfl⟩ := asConst_eq e
      refine tE_eq ?_ (s_c (d := .non) pe_non fun _ _ => rfl)
      intro env st; rw [ev]; try rfl
    · cases h
  | .gcon i, X, sc, x, c, h => by
    rw [chkE] at h
    split at h
    · rename_i y e
      obtain ⟨p, rfl⟩ := asName_eq e
      rw [Bool.and_eq_true] at h
      obtain ⟨d, hd⟩ := conB_of h.1
      obtain ⟨h1, u, v, h2, h3, h4⟩ := c.con i y d hd
      obtain ⟨h5, h6⟩ := c.gl h.2
      refine tE_eq ?_ (s_gcon h5 h2 h3 h6 h4 h1)
      intro env st; rw [ev]; try rfl
    · cases h
  | .bin op a b, X, sc, x, c, h => by
    rw [chkE] at h
    split at h
    · rename_i y o z e
      obtain ⟨p, rfl⟩ := asBin_eq e
      simp only [Bool.and_eq_true, decide_eq_true_eq] at h
      obtain ⟨rfl, h1, h2⟩ := h
      refine tE_eq ?_ (s_bin (soundE a c h1) (soundE b c h2))
      intro env st; rw [ev]; try rfl
    · cases h
  | .neg a, X, sc, x, c, h => by
    rw [chkE] at h
    split at h
    · rename_i y e
      obtain ⟨p, rfl⟩ := asUn_eq e
      refine tE_eq ?_ (s_neg (soundE a c h))
      intro env st; rw [ev]; try rfl
    · cases h
  | .notE a, X, sc, x, c, h => by
    rw [chkE] at h
    split at h
    · rename_i y e
      obtain ⟨p, rfl⟩ := asUn_eq e
      refine tE_eq ?_ (s_not (soundE a c h))
      intro env st; rw [ev]; try rfl
    · cases h
  | .and1 a, X, sc, x, c, h => by
    rw [chkE] at h
    split at h
    · rename_i y p e
      cases asBool_eq e
      refine tE_eq ?_ (pe_one (soundE a c h))
      intro env st; rw [ev]; try rfl
    · cases h
  | .and2 a r, X, sc, x, c, h => by
    rw [chkE] at h
    split at h
    · rename_i y z l p e
      cases asBool_eq e
      rw [Bool.and_eq_true] at h
      refine tE_eq ?_ (s_and (soundE a c h.1) (soundE r c h.2))
      intro env st; rw [ev]; try rfl
    · cases h
  | .or1 a, X, sc, x, c, h => by
    rw [chkE] at h
    split at h
    · rename_i y p e
      cases asBool_eq e
      refine tE_eq ?_ (pe_one (soundE a c h))
      intro env st; rw [ev]; try rfl
    · cases h
  | .or2 a r, X, sc, x, c, h => by
    rw [chkE] at h
    split at h
    · rename_i y z l p e
      cases asBool_eq e
      rw [Bool.and_eq_true] at h
      refine tE_eq ?_ (s_or (soundE a c h.1) (soundE r c h.2))
      intro env st; rw [ev]; try rfl
    · cases h
  | .cmp op a b, X, sc, x, c, h => by
    rw [chkE] at h
    split at h
    · rename_i y o z e
      obtain ⟨p, rfl⟩ := asCmp_eq e
      simp only [Bool.and_eq_true, decide_eq_true_eq] at h
      obtain ⟨rfl, h0, h1, h2⟩ := h
      refine tE_eq ?_ (s_cmp c.fit (soundE a c h1) (soundE b c h2) h0)
      intro env st; rw [ev]; try rfl
    · cases h
  | .cmp2 op op' a b d, X, sc, x, c, h => by
    rw [chkE] at h
    split at h
    · rename_i y o o' z w e
      obtain ⟨p, rfl⟩ := asCmp_eq e
      simp only [Bool.and_eq_true, decide_eq_true_eq] at h
      obtain ⟨⟨rfl, rfl⟩, h0, h1, h2, h3⟩ := h
      refine tE_eq ?_ (s_cmp2 c.fit (soundE a c h1) (soundE b c h2) (soundE d c h3) h0)
      intro env st; rw [ev]; try rfl
    · cases h
  | .ife t a b, X, sc, x, c, h => by
    rw [chkE] at h
    split at h
    · rename_i y z w e
      obtain ⟨p, rfl⟩ := asIf_eq e
      simp only [Bool.and_eq_true] at h
      refine tE_eq ?_ (s_ife (soundT t c h.1).1 (soundE a c h.2.1) (soundE b c h.2.2))
      intro env st; rw [ev]; try rfl
    · cases h
  | .tup es, X, sc, x, c, h => by
    rw [chkE] at h
    split at h
    · rename_i l e
      obtain ⟨_, p, rfl⟩ := asTup_eq e
      refine tE_eq ?_ (s_tup (soundEs es c h).pa)
      intro env st; rw [ev]; try rfl
    · cases h
  | .lst es, X, sc, x, c, h => by
    rw [chkE] at h
    split at h
    · rename_i l e
      obtain ⟨p, rfl⟩ := asLst_eq e
      refine tE_eq ?_ (s_lst (soundEs es c h).pa)
      intro env st; rw [ev]; try rfl
    · cases h
  | .dic ks es, X, sc, x, c, h => by
    rw [chkE] at h
    split at h
    · rename_i kl vl e
      obtain ⟨p, rfl⟩ := asDic_eq e
      simp only [Bool.and_eq_true, decide_eq_true_eq] at h
      obtain ⟨⟨h1, h2, h3, h5⟩, h4⟩ := h
      refine tE_eq ?_ (s_dic h1 h2 h3 (soundEs es c h4) (by intro z; subst z; cases h5))
      intro env st; rw [ev]; try rfl
    · cases h
  | .call f es, X, sc, x, c, h => by
    rw [chkE] at h
    split at h
    · rename_i y l e
      obtain ⟨p, pos, rfl⟩ := asCall_eq e
      simp only [Bool.and_eq_true] at h
      obtain ⟨⟨h1, h2⟩, h3⟩ := h
      obtain ⟨ps, h4, h5⟩ := fnB_of h1
      obtain ⟨fa, fd, h6⟩ := c.fns f y ps h4
      obtain ⟨h7, h8⟩ := c.gl h2
      refine tE_eq ?_ (s_call h6 c.fit c.room h7 h8 (soundEs es c h3) h5)
      intro env st; rw [ev]; try rfl
    · cases h
  | .callK f es ks g, X, sc, x, c, h => by
    rw [chkE] at h
    split at h
    · rename_i y l k0 kl e
      obtain ⟨p, pos, rfl⟩ := asCall_eq e
      simp only [Bool.and_eq_true] at h
      obtain ⟨⟨h1, h2⟩, h3, h9⟩ := h
      obtain ⟨ps, h4, h5, h10, h11⟩ := kwB_of h1
      obtain ⟨fa, fd, h6⟩ := c.fns f y ps h4
      obtain ⟨h7, h8⟩ := c.gl h2
      refine tE_eq ?_ (s_callK h6 c.fit c.room h7 h8 (soundEs es c h3) (soundEs ks c h9) h10 h11 h5)
      intro env st; rw [ev]; try rfl
    · cases h
  | .blt b es, X, sc, x, c, h => by
    rw [chkE] at h
    split at h
    · rename_i l hl
      refine tE_eq ?_ (blt_of c hl (soundEs es c h))
      intro env st; rw [ev]; try rfl
    · cases h
  | .meth m o es, X, sc, x, c, h => by
    rw [chkE] at h
    split at h
    · rename_i y nm ln args e
      obtain ⟨ap, cp, rfl, hl⟩ := asMeth_eq e
      simp only [Bool.and_eq_true, decide_eq_true_eq] at h
      obtain ⟨⟨rfl, h1, h2, h3⟩, h4, h5⟩ := h
      refine tE_eq ?_ (s_meth (soundE o c h4) (soundEs es c h5) h2 (hl.trans h1) h3)
      intro env st; rw [ev]; try rfl
    · cases h
  | .idx a b, X, sc, x, c, h => by
    rw [chkE] at h
    split at h
    · rename_i y z e
      obtain ⟨p, rfl⟩ := asSub_eq e
      simp only [Bool.and_eq_true] at h
      refine tE_eq ?_ (s_idx c.fit (soundE a c h.2.1) (soundE b c h.2.2) h.1)
      intro env st; rw [ev]; try rfl
    · cases h
  | .sl a lo hi, X, sc, x, c, h => by
    have hlo := fun y hy => soundE (X := X) (sc := sc) (x := y) lo c hy
    have hhi := fun y hy => soundE (X := X) (sc := sc) (x := y) hi c hy
    rw [chkE] at h
    split at h
    · rename_i y z e
      obtain ⟨p, rfl⟩ := asSub_eq e
      split at h
      · rename_i l u e2
        obtain ⟨p2, rfl⟩ := asSlice_eq e2
        simp only [Bool.and_eq_true] at h
        obtain ⟨h1, h2, h3⟩ := h
        have part : ∀ (o : Option Expr) (w : E), (∀ y, chkE B N w sc y = true → L2.PE X y (tE X.K (ev F G w))) → (match o with | some l => chkE B N w sc l | none => isN w) = true → PO X o (tPartA (tE X.K (ev F G w))) := by
          intro o w hw hh
          cases o with
          | some l => exact po_any (hw l hh)
          | none =>
            cases w <;> first | cases hh | skip
            have e : ev F G .cN = fun _ st => Res.ok D.non st := by funext env st; rw [ev]
            rw [e]; exact s_noPart
        refine tE_eq ?_ (s_sl (soundE a c h1) (part l lo hlo h2) (part u hi hhi h3))
        intro env st; rw [ev]; try rfl
      · cases h
    · cases h
  | .rev a, X, sc, x, c, h => by
    rw [chkE] at h
    split at h
    · rename_i y e
      obtain ⟨_, _, _, _, _, rfl⟩ := asRev_eq e
      refine tE_eq ?_ (s_rev (soundE a c h))
      intro env st; rw [ev]; try rfl
    · cases h
  | .lc own elt t kk es t', X, sc, x, c, h => by
    have ht := fun (X : Cx) sc x (c : Ctx B F G N sc k X) hh => soundT (X := X) (sc := sc) (x := x) t' c hh
    rw [chkE] at h
    split at h
    · rename_i y tg it ifs sc' e
      obtain ⟨p, rfl⟩ := asLc_eq e
      simp only [Bool.and_eq_true] at h
      obtain ⟨⟨h1, h2, h3⟩, h4, h5, h6, h7⟩ := h
      have hown : (own.map fun j => (N.getD j "", j)).map (·.2) = own := by
        rw [List.map_map]
        exact List.map_id' _
      have hts : ∀ (s : Shared) (H : Hp) (C : Addr) (cl : List (Str × Addr)) (fp : List Addr), PTs (X.blk s H sc' (compEnvC sc' cl C X.env) fp) ifs (tT X.K (evT F G t')) := by
        intro s H C cl fp
        split at h6
        · cases t' <;> first | cases h6 | skip
          have e : evT F G .yes = fun _ st => Res.ok true st := by funext env st; rw [evT]
          rw [e]; exact pts_yes
        · exact pts_one (ht _ _ _ (c.blk sc' s H C cl fp) h6).1
        · cases h6
      have hit : PI X tg it (tI X.K kk (evs F G es)) := by
        split at h4
        · rename_i l hl; exact it_of c hl (soundEs es c h4)
        · cases h4
      refine tE_eq ?_ (s_lc (own := own.map fun j => (N.getD j "", j)) (k := kk) (t := t) c.fit (by rw [c.hN]; exact c.nd) (by rw [hown]; exact h2) hit (c.blkOk (blkOk_by h1))
        (fun s H C cl fp => soundTg t (c.blk sc' s H C cl fp) h5) hts (fun s H C cl fp => soundE elt (c.blk sc' s H C cl fp) h7) h3)
      intro env st; rw [ev, hown]; try rfl
    · cases h
theorem soundEs : ∀ (es : Es) {X : Cx} {sc : Scope} {l : List Expr}, Ctx B F G N sc k X → chkEs B N es sc l = true → PAll F G X es l
  | .nil, X, sc, [], c, h => True.intro
  | .nil, X, sc, _ :: _, c, h => by rw [chkEs] at h <;> first | cases h | simp
  | .cons e es, X, sc, [], c, h => by rw [chkEs] at h <;> first | cases h | simp
  | .cons e es, X, sc, x :: l, c, h => by
    rw [chkEs] at h
    simp only [Bool.and_eq_true] at h
    exact ⟨h.1, soundE e c h.2.1, soundEs es c h.2.2⟩
theorem soundT : ∀ (t : T) {X : Cx} {sc : Scope} {x : Expr}, Ctx B F G N sc k X → chkT B N t sc x = true → PTW X x (evT F G t)
  | .val a, X, sc, x, c, h => by
    rw [chkT, Bool.and_eq_true] at h
    refine ptw_pt (tT_eq ?_ (s_tval (soundE a c h.2) h.1)) (plainT_bool h.1)
    intro env st; rw [evT]; try rfl
  | .vc op a b, X, sc, x, c, h => by
    rw [chkT] at h
    split at h
    · rename_i y o z e
      obtain ⟨p, rfl⟩ := asCmp_eq e
      simp only [Bool.and_eq_true, decide_eq_true_eq] at h
      obtain ⟨rfl, h0, h1, h2⟩ := h
      refine ptw_pt (tT_eq ?_ (s_tcmp c.fit (soundE a c h1) (soundE b c h2) h0)) (by intro _ _ _ z; cases z)
      intro env st; rw [evT]; try rfl
    · cases h
  | .vc2 op op' a b d, X, sc, x, c, h => by
    rw [chkT] at h
    split at h
    · rename_i y o o' z w e
      obtain ⟨p, rfl⟩ := asCmp_eq e
      simp only [Bool.and_eq_true, decide_eq_true_eq] at h
      obtain ⟨⟨rfl, rfl⟩, h0, h1, h2, h3⟩ := h
      refine ptw_pt (tT_eq ?_ (s_tcmp2 c.fit (soundE a c h1) (soundE b c h2) (soundE d c h3) h0)) (by intro _ _ _ z; cases z)
      intro env st; rw [evT]; try rfl
    · cases h
  | .not t, X, sc, x, c, h => by
    rw [chkT] at h
    split at h
    · rename_i y e
      obtain ⟨p, rfl⟩ := asUn_eq e
      refine ptw_pt (tT_eq ?_ (s_tnot (soundT t c h).1)) (by intro _ _ _ z; cases z)
      intro env st; rw [evT]; try rfl
    · cases h
  | .and1 a, X, sc, x, c, h => by
    rw [chkT] at h
    split at h
    · rename_i y p e
      cases asBool_eq e
      refine ptw_pw (tW_eq ?_ (pw_and1 (soundT a c h).1))
      intro env st; rw [evT]; try rfl
    · cases h
  | .and2 a r, X, sc, x, c, h => by
    rw [chkT] at h
    split at h
    · rename_i y z l p e
      cases asBool_eq e
      rw [Bool.and_eq_true] at h
      refine ptw_pw (tW_eq ?_ (s_tand (soundT a c h.1).1 ((soundT r c h.2).2 _ _ _ rfl)))
      intro env st; rw [evT]; try rfl
    · cases h
  | .or1 a, X, sc, x, c, h => by
    rw [chkT] at h
    split at h
    · rename_i y p e
      cases asBool_eq e
      refine ptw_pw (tW_eq ?_ (pw_or1 (soundT a c h).1))
      intro env st; rw [evT]; try rfl
    · cases h
  | .or2 a r, X, sc, x, c, h => by
    rw [chkT] at h
    split at h
    · rename_i y z l p e
      cases asBool_eq e
      rw [Bool.and_eq_true] at h
      refine ptw_pw (tW_eq ?_ (s_tor (soundT a c h.1).1 ((soundT r c h.2).2 _ _ _ rfl)))
      intro env st; rw [evT]; try rfl
    · cases h
  | .yes, X, sc, x, c, h => by rw [chkT] at h; cases h
theorem soundTg : ∀ (t : Tg) {X : Cx} {sc : Scope} {x : Expr}, Ctx B F G N sc k X → chkTg B N t sc x = true → PG X x (tG X.K (tgOwn t) (asg F G t))
  | .name i, X, sc, x, c, h => by
    rw [chkTg] at h
    split at h
    · rename_i y e
      obtain ⟨p, rfl⟩ := asName_eq e
      simp only [Bool.and_eq_true, decide_eq_true_eq] at h
      obtain ⟨h1, h2⟩ := c.loc h.2
      refine tG_eq ?_ (s_name (i := i) (by rw [c.hN]; exact c.nd) (by rw [c.hN]; exact h.1) h1 h2)
      intro d env st; rw [asg]; try rfl
    · cases h
  | .tup ts, X, sc, x, c, h => by
    rw [chkTg] at h
    split at h
    · rename_i l e
      obtain ⟨_, p, rfl⟩ := asTup_eq e
      refine tG_eq ?_ (s_tgtup c.fit (soundTgs ts c h))
      intro d env st; rw [asg]; try rfl
    · cases h
  | .sub o i, X, sc, x, c, h => by
    rw [chkTg] at h
    split at h
    · rename_i y z e
      obtain ⟨p, rfl⟩ := asSub_eq e
      simp only [Bool.and_eq_true] at h
      refine tG_eq ?_ (s_tgsub c.fit (soundE o c h.2.1) (soundE i c h.2.2) h.1)
      intro d env st; rw [asg]; try rfl
    · cases h
theorem soundTgs : ∀ (ts : Tgs) {X : Cx} {sc : Scope} {l : List Expr}, Ctx B F G N sc k X → chkTgs B N ts sc l = true → PGAll F G X ts l
  | .nil, X, sc, [], c, h => True.intro
  | .nil, X, sc, _ :: _, c, h => by rw [chkTgs] at h <;> first | cases h | simp
  | .cons e es, X, sc, [], c, h => by rw [chkTgs] at h <;> first | cases h | simp
  | .cons e es, X, sc, x :: l, c, h => by
    rw [chkTgs] at h
    simp only [Bool.and_eq_true] at h
    exact ⟨h.1, soundTg e c h.2.1, soundTgs es c h.2.2⟩
end
end
end PL

set_option Elab.async false
set_option linter.all false
set_option maxRecDepth 100000
set_option maxHeartbeats 4000000
/-! PLM: statements. -/
namespace PL
open PySem PySem.Spec PyProof.Rows L2

/-- what follows a statement -/
def OutP (K : PySem.W.Frag) (D : Ends) : Out → List Addr → Hp → Prop
  | .next env, as, H => ∀ σ, REnv K as H env σ → D.nx σ H
  | .brk env, as, H => ∀ σ, REnv K as H env σ → D.bk σ H
  | .cnt env, as, H => ∀ σ, REnv K as H env σ → D.ct σ H
  | .ret d, as, H => ∀ v, RV K as H d v → D.rt v H
def tS (K : PySem.W.Frag) (m : Env → Sto → Res Out) : TS := fun D σ H => ∃ as st env, Rel K as st H ∧ REnv K as H env σ ∧ Good K (OutP K D) as H (m env st)
theorem ps_imp {X : Cx} {st : Stmt} {t t' : TS} (h : PS X st t) (f : ∀ D σ H, t' D σ H → t D σ H) : PS X st t' := ⟨fun pins s σ H D I q => h.run pins s σ H D I (f D σ H q)⟩
theorem pss_imp {X : Cx} {st : List Stmt} {t t' : TS} (h : PSs X st t) (f : ∀ D σ H, t' D σ H → t D σ H) : PSs X st t' := ⟨fun pins s σ H D I q => h.run pins s σ H D I (f D σ H q)⟩

/-! ### shapes -/
def asAssign : Stmt → Option (Expr × Expr × Nat) | .Assign [t] e p => some (t, e, p.line) | _ => none
def asExpr : Stmt → Option Expr | .Expr e _ => some e | _ => none
def asRet : Stmt → Option Expr | .Return (some e) _ => some e | _ => none
def asRetN : Stmt → Bool | .Return none _ => true | _ => false
def asIfS : Stmt → Option (Expr × List Stmt × List Stmt) | .If c a b _ => some (c, a, b) | _ => none
def asFor : Stmt → Option (Expr × Expr × List Stmt) | .For t i b [] _ => some (t, i, b) | _ => none
def asWhl : Stmt → Option (Expr × List Stmt) | .While c b [] _ => some (c, b) | _ => none
def isBrk : Stmt → Bool | .Break _ => true | _ => false
def isCnt : Stmt → Bool | .Continue _ => true | _ => false
def isPass : Stmt → Bool | .Pass _ => true | _ => false
theorem asAssign_eq {st : Stmt} {t e : Expr} {l : Nat} (h : asAssign st = some (t, e, l)) : ∃ p, st = .Assign [t] e p ∧ p.line = l := by
  unfold asAssign at h; split at h
  · cases h; exact ⟨_, rfl, rfl⟩
  · cases h
theorem asExpr_eq {st : Stmt} {e : Expr} (h : asExpr st = some e) : ∃ p, st = .Expr e p := by cases st <;> simp [asExpr] at h; exact ⟨_, by rw [h]⟩
theorem asRet_eq {st : Stmt} {e : Expr} (h : asRet st = some e) : ∃ p, st = .Return (some e) p := by
  unfold asRet at h; split at h
  · cases h; exact ⟨_, rfl⟩
  · cases h
theorem asRetN_eq {st : Stmt} (h : asRetN st = true) : ∃ p, st = .Return none p := by
  unfold asRetN at h; split at h
  · exact ⟨_, rfl⟩
  · cases h
theorem asIfS_eq {st : Stmt} {c : Expr} {a b : List Stmt} (h : asIfS st = some (c, a, b)) : ∃ p, st = .If c a b p := by cases st <;> simp [asIfS] at h; obtain ⟨rfl, rfl, rfl⟩ := h; exact ⟨_, rfl⟩
theorem asFor_eq {st : Stmt} {t i : Expr} {b : List Stmt} (h : asFor st = some (t, i, b)) : ∃ p, st = .For t i b [] p := by
  unfold asFor at h; split at h
  · cases h; exact ⟨_, rfl⟩
  · cases h
theorem asWhl_eq {st : Stmt} {c : Expr} {b : List Stmt} (h : asWhl st = some (c, b)) : ∃ p, st = .While c b [] p := by
  unfold asWhl at h; split at h
  · cases h; exact ⟨_, rfl⟩
  · cases h
theorem isBrk_eq {st : Stmt} (h : isBrk st = true) : ∃ p, st = .Break p := by cases st <;> first | exact ⟨_, rfl⟩ | cases h
theorem isCnt_eq {st : Stmt} (h : isCnt st = true) : ∃ p, st = .Continue p := by cases st <;> first | exact ⟨_, rfl⟩ | cases h
theorem isPass_eq {st : Stmt} (h : isPass st = true) : ∃ p, st = .Pass p := by cases st <;> first | exact ⟨_, rfl⟩ | cases h

/-! ### stores that are swapped -/
/-- the names when stores are swapped; none: the model does not tell -/
def swp (sc : Scope) (tg value : Expr) : Option (Option (List Str)) := match tg, value with
  | .Tuple ts _ _, .Tuple vs _ _ =>
    if (!(ts.length == 2 || ts.length == 3) || vs.length != ts.length) = true then some none
    else if (vs.any fun | .Starred .. => true | _ => false) = true then some none
    else
      let line := (ts.head?.map (·.pos.line)).getD 0
      let names := ts.filterMap fun
        | .Name id pos => if (sc.names.lookup id == some .local && pos.line == line) = true then some id else none
        | _ => none
      if (names.length != ts.length || names.eraseDups.length != names.length) = true then some none
      else if vs.all (foldedForSure 8) = true then some none
      else if vs.all (constantsAlone 8) = true then none
      else some (some names)
  | .List _ _, _ => none
  | _, _ => some none
theorem blockK {env : PySem.Env} (hk : env.scope.kind = .function) : env.blockKind = .function := by unfold PySem.Env.blockKind; rw [hk]; rfl
theorem swp_eq {sc : Scope} {tg value : Expr} {r : Option (List Str)} {env : PySem.Env} (hs : env.scope = sc) (hk : sc.kind = .function) (h : swp sc tg value = some r) : swappedStores [tg] value env = pure r := by
  subst hs
  have hb := blockK hk
  unfold swp at h
  split at h
  · rename_i ts k p vs k' p'
    unfold swappedStores
    simp only [hb, pure_bind]
    have hkk : ∀ id, env.kindOf id = env.scope.names.lookup id := fun _ => rfl
    have hff : (ScopeKind.function != ScopeKind.function) = false := rfl
    simp only [hkk, hff, Bool.or_false]
    simp only [] at h
    split at h
    · rename_i c1; cases h; exact if_pos c1
    · rename_i c1
      refine (if_neg c1).trans ?_
      split at h
      · rename_i c2; cases h; exact if_pos c2
      · rename_i c2
        refine (if_neg c2).trans ?_
        split at h
        · rename_i c3; cases h; exact if_pos c3
        · rename_i c3
          refine (if_neg c3).trans ?_
          split at h
          · rename_i c4; cases h; exact if_pos c4
          · rename_i c4
            refine (if_neg c4).trans ?_
            split at h
            · cases h
            · rename_i c5
              cases h; exact (if_neg c5).trans rfl
  · cases h
  · rename_i h1 h2
    cases h
    unfold swappedStores
    split
    · rename_i e
      split at e
      · rename_i e1; injection e1 with e3; exact (h2 _ _ _ _ _ _ e3 rfl).elim
      · rename_i e1; injection e1 with e3; exact (h1 _ _ e3).elim
      · cases e
    · rfl
/-- whether the comprehension's store is swapped -/
def swB (sc : Scope) (tg value : Expr) : Option Bool := match value with
  | .ListComp _ _ s pos => (match tg with
    | .Name t p => some ((match sc.names.lookup t with | some .local => true | _ => false) && (p.line == pos.line && !(s.names.any fun (n, k) => n == t && (k == .local || k == .cell))))
    | _ => some false)
  | .SetComp _ _ _ _ => none
  | .DictComp _ _ _ _ _ => none
  | _ => some false
theorem swB_false {sc : Scope} {tg value : Expr} {env : PySem.Env} {l : Nat} (hs : env.scope = sc) (hk : sc.kind = .function) (h : swB sc tg value = some false) : swapsWithSole [tg] value l env = pure false := by
  subst hs
  have hb := blockK hk
  have hkk : ∀ id, env.kindOf id = env.scope.names.lookup id := fun _ => rfl
  show swapsWith value (some tg) l env = pure false
  unfold swB at h
  split at h
  · rename_i s pos
    split at h
    · rename_i t p
      have h : ((match env.scope.names.lookup t with | some .local => true | _ => false) && (p.line == pos.line && !(s.names.any fun (n, k) => n == t && (k == .local || k == .cell)))) = false := by simpa using h
      unfold swapsWith
      simp only [hb, hkk, Expr.pos]
      show pure _ = pure false
      congr 1
      cases q : List.lookup t env.scope.names with
      | none => rfl
      | some k =>
        rw [q] at h
        cases k <;> first | rfl | skip
        simpa [Bool.and_assoc] using h
    · unfold swapsWith
      rename_i hn
      cases tg <;> first | rfl | exact (hn _ _ rfl).elim
  · cases h
  · cases h
  · unfold swapsWith
    cases value <;> first | rfl | (rename_i h1 h2 h3; first | exact (h1 _ _ _ _ rfl).elim | exact (h2 _ _ _ _ rfl).elim | exact (h3 _ _ _ _ _ rfl).elim)
theorem swB_true {sc : Scope} {tg value : Expr} {env : PySem.Env} {l : Nat} (hs : env.scope = sc) (hk : sc.kind = .function) (h : swB sc tg value = some true) : ∃ y p, tg = .Name y p ∧ sc.names.lookup y = some .local ∧ swapsWith value (some tg) l env = pure true := by
  subst hs
  have hb := blockK hk
  have hkk : ∀ id, env.kindOf id = env.scope.names.lookup id := fun _ => rfl
  unfold swB at h
  split at h
  · rename_i s pos
    split at h
    · rename_i t p
      have h : ((match env.scope.names.lookup t with | some .local => true | _ => false) && (p.line == pos.line && !(s.names.any fun (n, k) => n == t && (k == .local || k == .cell)))) = true := by simpa using h
      rw [Bool.and_eq_true] at h
      have hl : env.scope.names.lookup t = some .local := by
        have h1 := h.1
        split at h1
        · assumption
        · cases h1
      refine ⟨t, p, rfl, hl, ?_⟩
      unfold swapsWith
      simp only [hb, hkk, Expr.pos, hl]
      show pure _ = pure true
      congr 1
      simpa using h.2
    · cases h
  · cases h
  · cases h
  · cases h
end PL

set_option Elab.async false
set_option linter.all false
set_option maxRecDepth 100000
set_option maxHeartbeats 4000000
/-! PLN: every statement that passes the look does what the small language says. -/
namespace PL
open PySem PySem.Spec PyProof.Rows L2

section
variable {F : Nat → List D → Sto → Res D} {G : List D} {X : Cx}
variable {me : Env → Sto → Res D}
theorem s_asg {e tg : Expr} {p : Pos} {ow : List Nat → Bool} {mt : D → Env → Sto → Res Env} (he : L2.PE X e (tE X.K me)) (hg : PG X tg (tG X.K ow mt)) (hs : swapsWithSole [tg] e p.line X.env = pure false) (hw : swappedStores [tg] e X.env = pure none) (hn : noStar tg = true) :
    PS X (.Assign [tg] e p) (tS X.K fun env st => (me env st).bind fun d st1 => (mt d env st1).bind fun env1 st2 => .ok (.next env1) st2) :=
  ps_imp (ps_asg he hg hs hw (by rw [assign_cons hn]; rfl)) fun D σ H ⟨as, st, env, rel, re, g⟩ => tE_mono (one_of rel re g) fun v H1 ⟨as1, st1, d, e1, r1, re1, rv, g1⟩ =>
    ⟨as1, st1, env, d, r1, re1, rv, g1.bind.imp fun env1 as2 H2 e2 ⟨st2, _, r2, g2⟩ σ' re' _ => g2.here r2 σ' re'⟩
theorem s_par2 {es : Es} {i j : Nat} {x y : Str} {a b : Expr} {px py pt pos : Pos} {kt k2 : Nat} {pt2 : Pos} (fx : Fit X) (hN : X.N.Nodup) (hi : X.N[i]? = some x) (hj : X.N[j]? = some y) (hij : i ≠ j)
    (hx : X.env.scope.names.lookup x = some .local) (hy : X.env.scope.names.lookup y = some .local) (ha : PAll F G X es [a, b])
    (hw : swappedStores [.Tuple [.Name x px, .Name y py] kt pt] (.Tuple [a, b] k2 pt2) X.env = pure (some [x, y])) :
    PS X (.Assign [.Tuple [.Name x px, .Name y py] kt pt] (.Tuple [a, b] k2 pt2) pos) (tS X.K fun env st => (evs F G es env st).bind fun ds st1 => if ds.length = [i, j].length then .ok (.next (setAll env [i, j] ds)) st1 else .bad) :=
  ps_imp (ps_par fx.hc hN hi hj hij hx hy ha.pa hw rfl) fun D σ H ⟨as, st, env, rel, re, g⟩ => tA_mono (evs_of rel re g) fun vs H1 ⟨as1, st1, ds, e1, r1, re1, rvs, hl, g1⟩ => by
    match ds, hl.trans ha.len.symm with
    | [d, d'], _ =>
      obtain ⟨v, w, rfl, r2, r3⟩ := rvs_two rvs
      exact ⟨v, w, rfl, g1.here r1 _ ((re1.set r2 i).set r3 j)⟩
theorem s_par3 {es : Es} {i j l : Nat} {x y z : Str} {a b c : Expr} {px py pz pt pos : Pos} {kt k2 : Nat} {pt2 : Pos} (fx : Fit X) (hN : X.N.Nodup) (hi : X.N[i]? = some x) (hj : X.N[j]? = some y) (hl : X.N[l]? = some z) (hij : i ≠ j) (hil : i ≠ l) (hjl : j ≠ l)
    (hx : X.env.scope.names.lookup x = some .local) (hy : X.env.scope.names.lookup y = some .local) (hz : X.env.scope.names.lookup z = some .local) (ha : PAll F G X es [a, b, c])
    (hw : swappedStores [.Tuple [.Name x px, .Name y py, .Name z pz] kt pt] (.Tuple [a, b, c] k2 pt2) X.env = pure (some [x, y, z])) :
    PS X (.Assign [.Tuple [.Name x px, .Name y py, .Name z pz] kt pt] (.Tuple [a, b, c] k2 pt2) pos) (tS X.K fun env st => (evs F G es env st).bind fun ds st1 => if ds.length = [i, j, l].length then .ok (.next (setAll env [i, j, l] ds)) st1 else .bad) :=
  ps_imp (ps_par3 fx.hc hN hi hj hl hij hil hjl hx hy hz ha.pa hw rfl) fun D σ H ⟨as, st, env, rel, re, g⟩ => tA_mono (evs_of rel re g) fun vs H1 ⟨as1, st1, ds, e1, r1, re1, rvs, hl, g1⟩ => by
    match ds, hl.trans ha.len.symm with
    | [d, d', d''], _ =>
      obtain ⟨v, ws, rfl, r2, r3⟩ := rvs
      obtain ⟨w, u, rfl, r4, r5⟩ := rvs_two r3
      exact ⟨v, w, u, rfl, g1.here r1 _ (((re1.set r2 i).set r4 j).set r5 l)⟩
theorem s_exp {e : Expr} {p : Pos} (he : L2.PE X e (tE X.K me)) (hn : noComp e = true) : PS X (.Expr e p) (tS X.K fun env st => (me env st).bind fun _ st1 => .ok (.next env) st1) :=
  ps_imp (ps_expr he (noComp_sw hn _ _ _)) fun D σ H ⟨as, st, env, rel, re, g⟩ => tE_mono (one_of rel re g) fun v H1 ⟨as1, st1, d, e1, r1, re1, rv, g1⟩ => g1.here r1 σ re1
theorem s_ret {e : Expr} {p : Pos} (he : L2.PE X e (tE X.K me)) : PS X (.Return (some e) p) (tS X.K fun env st => (me env st).bind fun d st1 => .ok (.ret d) st1) :=
  ps_imp (ps_ret he) fun D σ H ⟨as, st, env, rel, re, g⟩ => tE_mono (one_of rel re g) fun v H1 ⟨as1, st1, d, e1, r1, re1, rv, g1⟩ => g1.here r1 v rv
theorem s_retN {p : Pos} : PS X (.Return none p) (tS X.K fun env st => .ok (.ret .non) st) :=
  ps_imp ps_retN fun D σ H ⟨as, st, env, rel, re, g⟩ => g.here rel _ rfl
theorem s_ite {c : Expr} {a b : List Stmt} {p : Pos} {mc : Env → Sto → Res Bool} {ma mb : Env → Sto → Res Out} (hc : L2.PT X c (tT X.K mc)) (ha : PSs X a (tS X.K ma)) (hb : PSs X b (tS X.K mb)) :
    PS X (.If c a b p) (tS X.K fun env st => (mc env st).bind fun k st1 => if k then ma env st1 else mb env st1) :=
  ps_imp (ps_if hc ha hb) fun D σ H ⟨as, st, env, rel, re, g⟩ => tT_mono (test_of rel re g) fun b H1 ⟨as1, st1, e1, r1, re1, g1⟩ => by
    cases b with
    | true => rw [if_pos rfl]; exact ⟨as1, st1, env, r1, re1, g1⟩
    | false => rw [if_neg (by simp)]; exact ⟨as1, st1, env, r1, re1, g1⟩
theorem s_brk {p : Pos} : PS X (.Break p) (tS X.K fun env st => .ok (.brk env) st) := ps_imp ps_break fun D σ H ⟨as, st, env, rel, re, g⟩ => g.here rel _ re
theorem s_cnt {p : Pos} : PS X (.Continue p) (tS X.K fun env st => .ok (.cnt env) st) := ps_imp ps_continue fun D σ H ⟨as, st, env, rel, re, g⟩ => g.here rel _ re
theorem s_pass {p : Pos} : PS X (.Pass p) (tS X.K fun env st => .ok (.next env) st) := ps_imp ps_pass fun D σ H ⟨as, st, env, rel, re, g⟩ => g.here rel _ re
theorem s_never {st : Stmt} : PS X st (tS X.K fun env st => .bad) := ps_imp ps_never fun D σ H ⟨as, st, env, rel, re, g⟩ => g
theorem ss_nil : PSs X [] (tS X.K fun env st => .ok (.next env) st) := pss_imp pss_nil fun D σ H ⟨as, st, env, rel, re, g⟩ => g.here rel _ re
theorem ss_cons {s : Stmt} {l : List Stmt} {m m' : Env → Sto → Res Out} (h : PS X s (tS X.K m)) (h' : PSs X l (tS X.K m')) : PSs X (s :: l) (tS X.K fun env st => (m env st).bind fun o st1 => match o with
    | .next env1 => m' env1 st1
    | .brk env1 => .ok (.brk env1) st1
    | .cnt env1 => .ok (.cnt env1) st1
    | .ret d => .ok (.ret d) st1) :=
  pss_imp (pss_cons h h') fun D σ H ⟨as, st, env, rel, re, g⟩ => ⟨as, st, env, rel, re, g.bind.imp fun o as1 H1 e1 ⟨st1, _, r1, g1⟩ => by
    cases o with
    | next env1 => exact fun σ1 re1 => ⟨as1, st1, env1, r1, re1, g1⟩
    | brk env1 => exact g1.here r1
    | cnt env1 => exact g1.here r1
    | ret d => exact g1.here r1⟩
theorem s_for {k : ItK} {tg it : Expr} {body : List Stmt} {p : Pos} {ow : List Nat → Bool} {ms : Env → Sto → Res (List D)} {mt : D → Env → Sto → Res Env} {mb : Env → Sto → Res Out} (fx : Fit X) (hp : PassesOwn (model X.prog X.w) X.A X.env X.xe)
    (hi : PI X tg it (tI X.K k ms)) (hg : PG X tg (tG X.K ow mt)) (hb : PSs X body (tS X.K mb)) (hs : noSet it = true) :
    PS X (.For tg it body [] p) (tS X.K fun env st => (ms env st).bind fun ds st1 => match srcD k ds st1 with
      | none => .bad
      | some s => forLoop s (fun d env st => (mt d env st).bind fun env1 st1 => mb env1 st1) (s.len st1 + 1) 0 env st1) := by
  refine ps_imp (ps_for hp fx.hc hi hg hb (noSet_fold hs X.env)) fun D σ H ⟨as, st, env, rel, re, g⟩ => ?_
  have eq := src_bind (r := ms env st) (k := k) (L := fun s st1 => forLoop s (fun d env st => (mt d env st).bind fun env1 st1 => mb env1 st1) (s.len st1 + 1) 0 env st1)
  have g : Good X.K (OutP X.K D) as H (((ms env st).bind fun ds st1 => liftO (srcD k ds st1) st1).bind fun s st1 => forLoop s (fun d env st => (mt d env st).bind fun env1 st1 => mb env1 st1) (s.len st1 + 1) 0 env st1) := by rw [← eq]; exact g
  refine ⟨as, st, env, rel, re, g.bind.imp fun s as0 H0 e1 ⟨st0, _, r1, g1⟩ J hJ => ?_⟩
  refine ⟨fun i m σ' H' => ∃ as' st' env', Ext X.K as0 H0 as' H' ∧ Rel X.K as' st' H' ∧ REnv X.K as' H' env' σ' ∧ Good X.K (OutP X.K D) as' H' (forLoop s (fun d env st => (mt d env st).bind fun env1 st1 => mb env1 st1) m i env' st'),
    ⟨s.len st0 + 1, as0, st0, env, Ext.refl, r1, re.mono e1, g1⟩, ?_⟩
  rintro i m σ' H' ⟨as', st', env', e2, r2, re2, g2⟩
  cases m with
  | zero => exact g2.elim
  | succ m =>
    rw [forLoop] at g2
    split at g2
    · exact g2.elim
    · rename_i hat
      exact .inl ⟨hJ.stop as' H' st' i e2 r2 hat, g2.here r2 _ re2⟩
    · rename_i d hat
      obtain ⟨hgo, hy⟩ := hJ.go as' H' st' i d e2 r2 hat
      refine .inr ⟨hgo, _, fun σ1 H1 hN => ⟨m, Nat.lt_succ_self m, hN⟩, fun x H3 yl => ?_⟩
      obtain ⟨e3, r3, rx⟩ := hy x H3 yl
      simp only [Res.bind_assoc] at g2
      have g3 := g2.mono e3
      refine ⟨as', st', env', d, r3, re2.mono e3, rx, g3.bind.imp fun env1 as4 H4 e4 ⟨st4, _, r4, g4⟩ σ4 re4 _ => ?_⟩
      refine ⟨as4, st4, env1, r4, re4, g4.bind.imp fun o as5 H5 e5 ⟨st5, _, r5, g5⟩ => ?_⟩
      have ee := ((e2.trans e3).trans e4).trans e5
      cases o with
      | next env2 => exact fun σ5 re5 => ⟨as5, st5, env2, ee, r5, re5, g5⟩
      | cnt env2 => exact fun σ5 re5 => ⟨as5, st5, env2, ee, r5, re5, g5⟩
      | brk env2 => exact fun σ5 re5 => g5.here r5 σ5 re5
      | ret d => exact fun v rv => g5.here r5 v rv
theorem s_whl {c : Expr} {body : List Stmt} {p : Pos} {mc : Env → Sto → Res Bool} {mb : Env → Sto → Res Out} {n : Nat} (hp : PassesOwn (model X.prog X.w) X.A X.env X.xe)
    (hc : L2.PT X c (tT X.K mc)) (hb : PSs X body (tS X.K mb)) : PS X (.While c body [] p) (tS X.K fun env st => whlLoop mc mb n env st) := by
  refine ps_imp (ps_while hp hc hb) fun D σ H ⟨as, st, env, rel, re, g⟩ => ?_
  refine ⟨fun m σ' H' => ∃ as' st' env', Rel X.K as' st' H' ∧ REnv X.K as' H' env' σ' ∧ Good X.K (OutP X.K D) as' H' (whlLoop mc mb m env' st'), ⟨n, as, st, env, rel, re, g⟩, ?_⟩
  rintro m σ' H' ⟨as', st', env', r2, re2, g2⟩
  cases m with
  | zero => exact g2.elim
  | succ m =>
    rw [whlLoop] at g2
    refine tT_mono (test_of r2 re2 g2) fun b H3 ⟨as3, st3, e3, r3, re3, g3⟩ => ?_
    cases b with
    | false =>
      rw [if_neg (by simp)] at g3 ⊢
      exact g3.here r3 _ re3
    | true =>
      rw [if_pos rfl] at g3 ⊢
      refine ⟨_, fun σ1 H1 hN => ⟨m, Nat.lt_succ_self m, hN⟩, as3, st3, env', r3, re3, g3.bind.imp fun o as5 H5 e5 ⟨st5, _, r5, g5⟩ => ?_⟩
      cases o with
      | next env2 => exact fun σ5 re5 => ⟨as5, st5, env2, r5, re5, g5⟩
      | cnt env2 => exact fun σ5 re5 => ⟨as5, st5, env2, r5, re5, g5⟩
      | brk env2 => exact fun σ5 re5 => g5.here r5 σ5 re5
      | ret d => exact fun v rv => g5.here r5 v rv
end

/-! ### the look -/
section
variable (B : Tab) (N : List Str) (sc : Scope)
def locB1 (i : Nat) (x : Str) : Bool := decide (N[i]? = some x) && (match sc.names.lookup x with | some .local => true | _ => false)
def parB (is : List Nat) (tg v : Expr) : Option (List Expr) := match is, tg, v with
  | [i, j], .Tuple [.Name x _, .Name y _] _ _, .Tuple [a, b] _ _ => onlyIf ((locB1 N sc i x && locB1 N sc j y) && (decide (i ≠ j) && decide (swp sc tg v = some (some [x, y])))) [a, b]
  | [i, j, l], .Tuple [.Name x _, .Name y _, .Name z _] _ _, .Tuple [a, b, c] _ _ => onlyIf ((locB1 N sc i x && (locB1 N sc j y && locB1 N sc l z)) && ((decide (i ≠ j) && (decide (i ≠ l) && decide (j ≠ l))) && decide (swp sc tg v = some (some [x, y, z])))) [a, b, c]
  | _, _, _ => none
def nameB (i : Nat) (tg : Expr) : Bool := match asName tg with | some x => locB1 N sc i x | none => false
mutual
def chkS : S → Stmt → Bool
  | .asg t e, st => match asAssign st with
    | some (tg, v, _) => (decide (swp sc tg v = some none) && (decide (swB sc tg v = some false) && noStar tg)) && (chkTg B N t sc tg && chkE B N e sc v)
    | none => false
  | .asgC i own elt t k es c, st => match asAssign st with
    | some (tg, v, _) => (nameB N sc i tg && decide (swB sc tg v = some true)) && chkE B N (.lc own elt t k es c) sc v
    | none => false
  | .par is es, st => match asAssign st with
    | some (tg, v, _) => (match parB N sc is tg v with | some l => chkEs B N es sc l | none => false)
    | none => false
  | .exp e, st => match asExpr st with | some x => noComp x && chkE B N e sc x | none => false
  | .ret e, st => match asRet st with | some x => chkE B N e sc x | none => false
  | .retN, st => asRetN st
  | .ite c a b, st => match asIfS st with | some (x, p, q) => chkT B N c sc x && (chkSs a p && chkSs b q) | none => false
  | .for_ t k es body, st => match asFor st with
    | some (tg, it, b) => noSet it && ((match itA B sc k it tg with | some l => chkEs B N es sc l | none => false) && (chkTg B N t sc tg && chkSs body b))
    | none => false
  | .whl c body, st => match asWhl st with | some (x, b) => chkT B N c sc x && chkSs body b | none => false
  | .brk, st => isBrk st
  | .cnt, st => isCnt st
  | .pass, st => isPass st
  | .never, _ => true
def chkSs : Ss → List Stmt → Bool
  | .nil, [] => true
  | .cons s ss, x :: l => chkS s x && chkSs ss l
  | _, _ => false
end
end

section
variable {B : Tab} {F : Nat → List D → Sto → Res D} {G : List D} {N : List Str} {k : Nat} {sc : Scope} {X : Cx}
structure StC (B : Tab) (F : Nat → List D → Sto → Res D) (G : List D) (N : List Str) (sc : Scope) (k : Nat) (X : Cx) : Prop where
  cx : Ctx B F G N sc k X
  hsc : X.env.scope = sc
  hk : sc.kind = .function
  hp : PassesOwn (model X.prog X.w) X.A X.env X.xe
theorem locB1_of (c : StC B F G N sc k X) {i : Nat} {x : Str} (h : locB1 N sc i x = true) : X.N[i]? = some x ∧ X.env.scope.names.lookup x = some .local := by
  unfold locB1 at h
  rw [Bool.and_eq_true] at h
  rw [c.cx.hN, c.hsc]
  refine ⟨of_decide_eq_true h.1, ?_⟩
  have h2 := h.2
  split at h2
  · assumption
  · cases h2
theorem tS_eq {x : Stmt} {m m' : Env → Sto → Res Out} (h : ∀ env st, m' env st = m env st) (p : PS X x (tS X.K m)) : PS X x (tS X.K m') := by
  have : m' = m := by funext env st; exact h env st
  rw [this]; exact p
theorem tSs_eq {x : List Stmt} {m m' : Env → Sto → Res Out} (h : ∀ env st, m' env st = m env st) (p : PSs X x (tS X.K m)) : PSs X x (tS X.K m') := by
  have : m' = m := by funext env st; exact h env st
  rw [this]; exact p
theorem par_of (c : StC B F G N sc k X) {is : List Nat} {tg v : Expr} {l : List Expr} {es : Es} {p : Pos} (h : parB N sc is tg v = some l) (ha : PAll F G X es l) :
    PS X (.Assign [tg] v p) (tS X.K fun env st => (evs F G es env st).bind fun ds st1 => if ds.length = is.length then .ok (.next (setAll env is ds)) st1 else .bad) := by
  have hN : X.N.Nodup := by rw [c.cx.hN]; exact c.cx.nd
  unfold parB at h
  split at h
  · obtain ⟨hh, rfl⟩ := onlyIf_of h
    simp only [Bool.and_eq_true, decide_eq_true_eq] at hh
    obtain ⟨⟨h1, h2⟩, h3, h4⟩ := hh
    obtain ⟨a1, a2⟩ := locB1_of c h1
    obtain ⟨b1, b2⟩ := locB1_of c h2
    exact s_par2 c.cx.fit hN a1 b1 h3 a2 b2 ha (swp_eq c.hsc c.hk h4)
  · obtain ⟨hh, rfl⟩ := onlyIf_of h
    simp only [Bool.and_eq_true, decide_eq_true_eq] at hh
    obtain ⟨⟨h1, h2, h2'⟩, ⟨h3, h3', h3''⟩, h4⟩ := hh
    obtain ⟨a1, a2⟩ := locB1_of c h1
    obtain ⟨b1, b2⟩ := locB1_of c h2
    obtain ⟨c1, c2⟩ := locB1_of c h2'
    exact s_par3 c.cx.fit hN a1 b1 c1 h3 h3' h3'' a2 b2 c2 ha (swp_eq c.hsc c.hk h4)
  · cases h
/-- name = [..], the store within the comprehension -/
theorem s_asgC (c : StC B F G N sc k X) {i : Nat} {own : List Nat} {elt : E} {t : Tg} {kk : ItK} {es : Es} {t' : T} {tg v : Expr} {p : Pos} (h1 : nameB N sc i tg = true) (h2 : swB sc tg v = some true) (h : chkE B N (.lc own elt t kk es t') sc v = true) :
    PS X (.Assign [tg] v p) (tS X.K fun env st => (ev F G (.lc own elt t kk es t') env st).bind fun d st1 => .ok (.next (env.set i (some d))) st1) := by
  obtain ⟨y, py, rfl, _, hsw⟩ := swB_true (l := p.line) c.hsc c.hk h2
  have h1 : locB1 N sc i y = true := h1
  obtain ⟨hi, hl⟩ := locB1_of c h1
  have hN : X.N.Nodup := by rw [c.cx.hN]; exact c.cx.nd
  rw [chkE] at h
  split at h
  · rename_i x tg' it ifs sc' e
    obtain ⟨pc, rfl⟩ := asLc_eq e
    simp only [Bool.and_eq_true] at h
    obtain ⟨⟨h1, h2, h3⟩, h4, h5, h6, h7⟩ := h
    have hown : (own.map fun j => (N.getD j "", j)).map (·.2) = own := by
      rw [List.map_map]
      exact List.map_id' _
    have hts : ∀ (s : Shared) (H : Hp) (C : Addr) (cl : List (Str × Addr)) (fp : List Addr), PTs (X.blk s H sc' (compEnvC sc' cl C X.env) fp) ifs (tT X.K (evT F G t')) := by
      intro s H C cl fp
      split at h6
      · cases t' <;> first | cases h6 | skip
        have e : evT F G .yes = fun _ st => Res.ok true st := by funext env st; rw [evT]
        rw [e]; exact pts_yes
      · exact pts_one (soundT t' (c.cx.blk sc' s H C cl fp) h6).1
      · cases h6
    have hit : PI X tg' it (tI X.K kk (evs F G es)) := by
      split at h4
      · rename_i l hl; exact it_of c.cx hl (soundEs es c.cx h4)
      · cases h4
    have hlc := ps_setLc (own := own.map fun j => (N.getD j "", j)) (spos := p) (te := tE X.K (ev F G elt)) (tt := tT X.K (evT F G t')) (g := tG X.K (tgOwn t) (asg F G t)) c.cx.fit.hc hN hi hl hsw hit (c.cx.blkOk (blkOk_by h1)) (fun s H C cl fp => soundTg t (c.cx.blk sc' s H C cl fp) h5) hts (fun s H C cl fp => soundE elt (c.cx.blk sc' s H C cl fp) h7) (noSet_fold h3 X.env)
    rw [hown] at hlc
    refine ps_imp hlc fun D σ H ⟨as, st, env, rel, re, g⟩ => ?_
    refine lc_of (Q := fun v H1 => D.nx (σ.set i (some v)) H1) h2 ⟨as, st, env, rel, re, ?_⟩
    have e2 : ev F G (.lc own elt t kk es t') env st = mLc own kk (evs F G es) (asg F G t) (evT F G t') (ev F G elt) env st := by rw [ev]; rfl
    simp only [] at g
    rw [e2] at g
    exact g.bind.imp fun d as1 H1 e1 ⟨st1, _, r1, g1⟩ v rv => g1.here r1 _ ((re.mono e1).set rv i)
  · cases h
set_option maxHeartbeats 40000000 in
mutual
theorem soundS (c : StC B F G N sc k X) : ∀ (s : S) {x : Stmt}, chkS B N sc s x = true → PS X x (tS X.K (ex F G s))
  | .asg t e, x, h => by
    rw [chkS] at h
    split at h
    · rename_i tg v l e'
      obtain ⟨p, rfl, rfl⟩ := asAssign_eq e'
      simp only [Bool.and_eq_true, decide_eq_true_eq] at h
      obtain ⟨⟨h1, h2, h3⟩, h4, h5⟩ := h
      refine tS_eq ?_ (s_asg (soundE e c.cx h5) (soundTg t c.cx h4) (swB_false c.hsc c.hk h2) (swp_eq c.hsc c.hk h1) h3)
      intro env st; rw [ex]; try rfl
    · cases h
  | .asgC i own elt t kk es t', x, h => by
    rw [chkS] at h
    split at h
    · rename_i tg v l e'
      obtain ⟨p, rfl, rfl⟩ := asAssign_eq e'
      simp only [Bool.and_eq_true, decide_eq_true_eq] at h
      obtain ⟨⟨h1, h2⟩, h3⟩ := h
      refine tS_eq ?_ (s_asgC c h1 h2 h3)
      intro env st; rw [ex]; try rfl
    · cases h
  | .par is es, x, h => by
    rw [chkS] at h
    split at h
    · rename_i tg v l e'
      obtain ⟨p, rfl, rfl⟩ := asAssign_eq e'
      split at h
      · rename_i l hl
        refine tS_eq ?_ (par_of c hl (soundEs es c.cx h))
        intro env st; rw [ex]; try rfl
      · cases h
    · cases h
  | .exp e, x, h => by
    rw [chkS] at h
    split at h
    · rename_i y e'
      obtain ⟨p, rfl⟩ := asExpr_eq e'
      rw [Bool.and_eq_true] at h
      refine tS_eq ?_ (s_exp (soundE e c.cx h.2) h.1)
      intro env st; rw [ex]; try rfl
    · cases h
  | .ret e, x, h => by
    rw [chkS] at h
    split at h
    · rename_i y e'
      obtain ⟨p, rfl⟩ := asRet_eq e'
      refine tS_eq ?_ (s_ret (soundE e c.cx h))
      intro env st; rw [ex]; try rfl
    · cases h
  | .retN, x, h => by
    rw [chkS] at h
    obtain ⟨p, rfl⟩ := asRetN_eq h
    refine tS_eq ?_ s_retN
    intro env st; rw [ex]; try rfl
  | .ite t a b, x, h => by
    rw [chkS] at h
    split at h
    · rename_i y p q e'
      obtain ⟨p, rfl⟩ := asIfS_eq e'
      simp only [Bool.and_eq_true] at h
      refine tS_eq ?_ (s_ite (soundT t c.cx h.1).1 (soundSs c a h.2.1) (soundSs c b h.2.2))
      intro env st; rw [ex]; try rfl
    · cases h
  | .for_ t kk es body, x, h => by
    rw [chkS] at h
    split at h
    · rename_i tg it b e'
      obtain ⟨p, rfl⟩ := asFor_eq e'
      simp only [Bool.and_eq_true] at h
      obtain ⟨h1, h2, h3, h4⟩ := h
      have hit : PI X tg it (tI X.K kk (evs F G es)) := by
        split at h2
        · rename_i l hl; exact it_of c.cx hl (soundEs es c.cx h2)
        · cases h2
      refine tS_eq ?_ (s_for c.cx.fit c.hp hit (soundTg t c.cx h3) (soundSs c body h4) h1)
      intro env st; rw [ex]; try rfl
    · cases h
  | .whl t body, x, h => by
    rw [chkS] at h
    split at h
    · rename_i y b e'
      obtain ⟨p, rfl⟩ := asWhl_eq e'
      rw [Bool.and_eq_true] at h
      refine tS_eq ?_ (s_whl (n := whileMost) c.hp (soundT t c.cx h.1).1 (soundSs c body h.2))
      intro env st; rw [ex]; try rfl
    · cases h
  | .brk, x, h => by
    rw [chkS] at h
    obtain ⟨p, rfl⟩ := isBrk_eq h
    refine tS_eq ?_ s_brk
    intro env st; rw [ex]; try rfl
  | .cnt, x, h => by
    rw [chkS] at h
    obtain ⟨p, rfl⟩ := isCnt_eq h
    refine tS_eq ?_ s_cnt
    intro env st; rw [ex]; try rfl
  | .pass, x, h => by
    rw [chkS] at h
    obtain ⟨p, rfl⟩ := isPass_eq h
    refine tS_eq ?_ s_pass
    intro env st; rw [ex]; try rfl
  | .never, x, h => by
    refine tS_eq ?_ s_never
    intro env st; rw [ex]; try rfl
theorem soundSs (c : StC B F G N sc k X) : ∀ (s : Ss) {x : List Stmt}, chkSs B N sc s x = true → PSs X x (tS X.K (exs F G s))
  | .nil, [], h => by
    refine tSs_eq ?_ ss_nil
    intro env st; rw [exs]; try rfl
  | .nil, _ :: _, h => by rw [chkSs] at h <;> first | cases h | simp
  | .cons s ss, [], h => by rw [chkSs] at h <;> first | cases h | simp
  | .cons s ss, x :: l, h => by
    rw [chkSs, Bool.and_eq_true] at h
    refine tSs_eq ?_ (ss_cons (soundS c s h.1) (soundSs c ss h.2))
    intro env st; rw [exs]; try rfl
end
end
end PL

set_option Elab.async false
set_option linter.all false
set_option maxRecDepth 100000
set_option maxHeartbeats 4000000
/-! PLO: defs, the law, the head. -/
namespace PL
open PySem PySem.Spec PyProof.Rows L2

/-! ### one def -/
theorem fn_ofG {CX : CXT} {P : Program} {w : World} {K : PySem.W.Frag} {mg : Str → Option Value} {base : Heap} {k : Nat} {f : Addr} {name qual : Str} {params : Arguments} {body : List Stmt} {scope : Scope} {dV kV doc pm cdv ct oc : Value} {an od : Option Addr}
    {osl : Array (Option Value)} {N ps : List Str} {sp : Sp} (lk : K.lookup f = some ⟨oc, od, .func (PySem.W.fnOf name qual params body scope dV kV doc pm an cdv ct), osl⟩) (hcd : PySem.W.codeIn K cdv qual = true) (S : FnScope N ps scope)
    (len : ∀ vs H Q E, sp vs H Q E → vs.length = ps.length)
    (hbody : ∀ (A : Around) (outer : List PySem.Env) (s : Shared) (H : Hp) (vs : List V) (Q : VK) (E : XK), A.guards = some [] → Room k (A.deeper (envOfC qual scope s.heap.objs.size f cdv)) → sp vs H Q E →
      ∃ t, PSs (cxOf CX P w K mg base N qual scope f cdv A outer s H E) body t ∧ t { nx := fun _ H' => Q .non H', rt := Q } (start N vs) H) :
    FnOkG P w K mg base CX (k + 1) f (PySem.W.fnOf name qual params body scope dV kV doc pm an cdv ct) ps sp := by
  refine ⟨len, fun A outer s H args us vs Q E hg hr e0 hb r hsp => ?_⟩
  have hl := len _ _ _ _ hsp
  have KX : K.In s.heap := e0.mod.kin.keeps fun b o e => (e0.bs b o e).1
  have lim : s.heap.NoLimit := e0.mod.nolimit.keeps fun b o e => (e0.bs b o e).1
  have hkind : ∀ y ∈ ps.zip us, scope.names.lookup y.1 = some .local ∨ (scope.names.lookup y.1 = some .cell ∧ ((cellsFrom (s.heap.objs.size + 1) scope.names []).lookup y.1).isSome = true) := fun ⟨n, v⟩ hy => by
    rcases S.par n (List.of_mem_zip hy).1 with q | q
    · exact .inl q
    · exact .inr ⟨q, PySem.W.cellsFrom_some _ _ _ (.inl q)⟩
  refine codeAny_call_function hr.depth (KX _ _ lk) rfl S.co S.gen rfl (PySem.W.codeRec_of KX hcd) (hb _ _ _ _ ?_)
  refine wpAny_newFunctionEnv_cells S.kind hkind fun env he s1 x => ?_
  subst he
  refine ⟨lim.keeps x.toInCall.keep, codeAny_func ?_⟩
  obtain ⟨t, ht, hq⟩ := hbody A outer s H vs Q E hg (hr.deeper _) hsp
  have I : Inv (cxOf CX P w K mg base N qual scope f cdv A outer s H E) [] (start N vs) H s1 := inv_start S hr.hd e0 hl r x
  refine wpAny_mono (ht.run [] s1 (start N vs) H _ I hq) (fun fl s' hs => ?_) fun e s' hs => hs
  have fin : ∀ {σ' : L2.St} {H' : Hp} {v : V} {u : Value}, Inv (cxOf CX P w K mg base N qual scope f cdv A outer s H E) [] σ' H' s' → RelV v u → Q v H' → CE outer P w H s Q u s' :=
    fun {σ' H' v u} J rv q => ⟨v, H', J.os, J.bare, J.base, J.hok, rv, q⟩
  cases fl with
  | ret u =>
    obtain ⟨v, σ', H', J, rv, q⟩ := hs
    exact fin J rv q
  | next =>
    obtain ⟨σ', H', J, q⟩ := hs
    exact fin (v := V.non) (u := Value.none) J rfl q
  | brk =>
    obtain ⟨_, _, _, q⟩ := hs
    exact False.elim q
  | cont =>
    obtain ⟨_, _, _, q⟩ := hs
    exact False.elim q
theorem FunD_okG {CX : CXT} {P : Program} {w : World} {K : PySem.W.Frag} {mg : Str → Option Value} {base : Heap} {x qual : Str} {params : Arguments} {body : List Stmt} {scope : Scope} {dvs : List V} {kws : List (Str × V)} {f : Addr} {fd : FuncData}
    {N ps : List Str} {k : Nat} {sp : Sp} (F : FunD K x qual params body scope dvs kws f fd) (S : FnScope N ps scope) (len : ∀ vs H Q E, sp vs H Q E → vs.length = ps.length)
    (hbody : ∀ (cdv : Value) (A : Around) (outer : List PySem.Env) (s : Shared) (H : Hp) (vs : List V) (Q : VK) (E : XK), A.guards = some [] → Room k (A.deeper (envOfC qual scope s.heap.objs.size f cdv)) → sp vs H Q E →
      ∃ t, PSs (cxOf CX P w K mg base N qual scope f cdv A outer s H E) body t ∧ t { nx := fun _ H' => Q .non H', rt := Q } (start N vs) H) : FnOkG P w K mg base CX (k + 1) f fd ps sp := by
  obtain ⟨oc, od, dV, kV, doc, pm, an, cdv, ct, osl, rfl, lk, hcd, _, _⟩ := F.ex
  exact fn_ofG lk hcd S len fun A outer s H vs Q E hg hr hsp => hbody cdv A outer s H vs Q E hg hr hsp
theorem FunD_bindK {K : PySem.W.Frag} {x qual : Str} {params : Arguments} {body : List Stmt} {scope : Scope} {kws : List (Str × V)} {f : Addr} {fd : FuncData} (F : FunD K x qual params body scope [] kws f fd) {args : Args} {bs : List (Str × Value)}
    (h : ∀ (kV doc pm : Value) (an : Option Addr) (cdv ct : Value), bindArgs (PySem.W.fnOf x qual params body scope .none kV doc pm an cdv ct) args = pure bs) (s : Shared) : BindsTo s fd args bs := by
  obtain ⟨oc, od, dV, kV, doc, pm, an, cdv, ct, osl, rfl, lk, hcd, hD, hK⟩ := F.ex
  rcases hD with ⟨_, rfl⟩ | ⟨e, _⟩
  · exact .of_eq (h kV doc pm an cdv ct)
  · exact absurd rfl e

/-! ### all defs -/
/-- what is known of a def of the program -/
structure DefOk (B : Tab) (Pf : List Fn) (K : PySem.W.Frag) (mg : Str → Option Value) (i : Nat) (x : Str) (ps : List Str) (f : Addr) (fd : FuncData) : Prop where
  mg : mg x = some (.ref f)
  bind : ∀ (s : Shared) (us : List Value), us.length = ps.length → BindsTo s fd ⟨us, []⟩ (ps.zip us)
  bindK : ∀ q ∈ B.kwsOf i, ∀ (s : Shared) (us ws : List Value), us.length = q.1 → ws.length = q.2.1.length → BindsTo s fd ⟨us, q.2.1.zip ws⟩ (ps.zip (q.2.2.map fun j => (us ++ ws).getD j .none))
  fn : ∃ (params : Arguments) (body : List Stmt) (scope : Scope) (N : List Str) (fn : Fn), FunD K x x params body scope [] [] f fd ∧ Pf[i]? = some fn ∧ fn.np = ps.length ∧ fn.ns = N.length ∧ FnScope N ps scope ∧ chkSs B N scope fn.body body = true
structure Mods (B : Tab) (Pf : List Fn) (G : List D) (K : PySem.W.Frag) (mg : Str → Option Value) : Prop where
  defs : ∀ (i : Nat) (x : Str) (ps : List Str), B.fns[i]? = some (x, ps) → ∃ f fd, DefOk B Pf K mg i x ps f fd
  free : ∀ x ∈ B.free, mg x = none
  con : ∀ (i : Nat) (x : Str) (d : D), B.cons[i]? = some (x, d) → G[i]? = some d ∧ ∃ u v, mg x = some u ∧ RelV v u ∧ ∀ as H, RV K as H d v
theorem renv_start {K : PySem.W.Frag} {as : List Addr} {H : Hp} {N : List Str} {ds : List D} {vs : List V} {np : Nat} (r : RVs K as H ds vs) (hn : ds.length = np) : REnv K as H (ds.map some ++ List.replicate (N.length - np) none) (L2.start N vs) := by
  have hl := r.length
  refine ⟨by unfold L2.start; simp only [List.length_append, List.length_map, List.length_replicate]; omega, fun i d h => ?_⟩
  by_cases hi : i < ds.length
  · rw [List.getElem?_append_left (by simpa using hi)] at h
    rw [List.getElem?_map] at h
    obtain ⟨d', h1, h2⟩ := Option.map_eq_some_iff.mp h
    cases h2
    obtain ⟨v, h3, h4⟩ := r.get h1
    refine ⟨v, ?_, h4⟩
    unfold L2.start
    rw [List.getElem?_append_left (by rw [List.length_map]; omega), List.getElem?_map, h3]; rfl
  · rw [List.getElem?_append_right (by simpa using hi)] at h
    rw [List.length_map] at h
    by_cases h2 : i - ds.length < N.length - np
    · rw [List.getElem?_replicate_of_lt h2] at h; cases h
    · rw [List.getElem?_eq_none (by simpa using h2)] at h; cases h
theorem sp_len {K : PySem.W.Frag} {m : List D → Sto → Res D} {n : Nat} {vs : List V} {H : Hp} {Q : VK} {E : XK} (h : spU K m n vs H Q E) : vs.length = n := by
  obtain ⟨as, st, ds, _, r, hl, _⟩ := h
  rw [← r.length, hl]
theorem all_ok {P : Program} {w : World} {K : PySem.W.Frag} {mg : Str → Option Value} {base : Heap} {B : Tab} {Pf : List Fn} {G : List D} (M : Mods B Pf G K mg) : ∀ (k : Nat) (i : Nat) (x : Str) (ps : List Str) (f : Addr) (fd : FuncData), DefOk B Pf K mg i x ps f fd →
    FnOkG P w K mg base CXP k f fd ps (spU K (run Pf G k i) ps.length)
  | 0, i, x, ps, f, fd, dk => ⟨fun vs H Q E h => sp_len h, fun A outer s H args us vs Q E _ _ _ _ _ h => by
    obtain ⟨as, st, ds, _, _, _, g⟩ := h
    exact g.elim⟩
  | k + 1, i, x, ps, f, fd, dk => by
    obtain ⟨params, body, scope, N, fn, hF, hPf, hnp, hns, S, hchk⟩ := dk.fn
    refine FunD_okG hF S (fun vs H Q E h => sp_len h) fun cdv A outer s H vs Q E hg hr hsp => ?_
    obtain ⟨as, st, ds, rel, rvs, hl, g⟩ := hsp
    have c : StC B (run Pf G k) G N scope k (cxOf CXP P w K mg base N x scope f cdv A outer s H E) := {
      cx := {
        fit := ⟨by have := hr.un; show (A.deeper _).units + 100 < cLine; omega, hg, rfl⟩
        hN := rfl
        nd := S.nd
        sub := fun y q h => ⟨q, h, .inl rfl⟩
        fnc := fun _ _ => rfl
        room := hr
        fns := fun j y qs h => by
          obtain ⟨f', fd', dk'⟩ := M.defs j y qs h
          obtain ⟨_, _, _, _, _, hF', _⟩ := dk'.fn
          exact ⟨f', fd', ⟨dk'.mg, hF'.kp, dk'.bind, dk'.bindK, all_ok M k j y qs f' fd' dk'⟩⟩
        free := M.free
        con := M.con }
      hsc := rfl
      hk := S.kind
      hp := passes_of (K := fun e s'' => CXP outer H s E e s'') (E₁ := fun e s'' => CXP outer H s E e s'') rfl }
    refine ⟨_, soundSs c fn.body hchk, as, st, _, rel, renv_start (N := N) rvs hl, ?_⟩
    rw [run, hPf] at g
    simp only [] at g
    rw [if_pos (by rw [hl, hnp]), hns, hnp] at g
    exact g.bind.imp fun o as1 H1 e1 ⟨st1, _, r1, g1⟩ => by
      cases o with
      | ret d => exact g1.here r1
      | next env => exact fun σ _ => g1.here r1 _ rfl
      | brk _ => exact g1.elim
      | cnt _ => exact g1.elim

/-! ### the look at a def -/
def scopeB (N ps : List Str) (sc : Scope) : Bool := (match sc.kind with | .function => true | _ => false) && (!sc.isCoroutine && (!sc.isGenerator && (decide N.Nodup && (decide (N.take ps.length = ps) &&
  ((ps.all fun x => match sc.names.lookup x with | some .local => true | some .cell => true | _ => false) && sc.names.all fun y => !(y.2 == .free))))))
theorem scopeB_of {N ps : List Str} {sc : Scope} (h : scopeB N ps sc = true) : FnScope N ps sc := by
  unfold scopeB at h
  simp only [Bool.and_eq_true, Bool.not_eq_true', decide_eq_true_eq, List.all_eq_true] at h
  obtain ⟨h1, h2, h3, h4, h5, h6, h7⟩ := h
  refine ⟨?_, h2, h3, h4, h5, fun x hx => ?_, fun y hy e => ?_⟩
  · split at h1
    · assumption
    · cases h1
  · have := h6 x hx
    split at this
    · exact .inl (by assumption)
    · exact .inr (by assumption)
    · cases this
  · have := h7 y hy
    rw [e] at this
    cases this
def defB (B : Tab) (fn : Fn) (st : Stmt) (N ps : List Str) : Bool := (decide (fn.np = ps.length) && decide (fn.ns = N.length)) && (scopeB N ps (defScope st) && chkSs B N (defScope st) fn.body (defBody st))
theorem defOk_by {B : Tab} {Pf : List Fn} {K : PySem.W.Frag} {mg : Str → Option Value} {i : Nat} {x : Str} {ps : List Str} {f : Addr} {fd : FuncData} {fn : Fn} {st : Stmt} {N : List Str} (hm : mg x = some (.ref f)) (hF : FunD K x x (defArgs st) (defBody st) (defScope st) [] [] f fd)
    (hPf : Pf[i]? = some fn) (h : defB B fn st N ps = true)
    (hb : ∀ (kV doc pm : Value) (an : Option Addr) (cdv ct : Value) (us : List Value), us.length = ps.length → bindArgs (PySem.W.fnOf x x (defArgs st) (defBody st) (defScope st) .none kV doc pm an cdv ct) ⟨us, []⟩ = pure (ps.zip us))
    (hk : ∀ q ∈ B.kwsOf i, ∀ (kV doc pm : Value) (an : Option Addr) (cdv ct : Value) (us ws : List Value), us.length = q.1 → ws.length = q.2.1.length →
      bindArgs (PySem.W.fnOf x x (defArgs st) (defBody st) (defScope st) .none kV doc pm an cdv ct) ⟨us, q.2.1.zip ws⟩ = pure (ps.zip (q.2.2.map fun j => (us ++ ws).getD j .none))) : DefOk B Pf K mg i x ps f fd := by
  unfold defB at h
  simp only [Bool.and_eq_true, decide_eq_true_eq] at h
  obtain ⟨⟨h1, h2⟩, h3, h4⟩ := h
  exact ⟨hm, hF.bindsA hb, fun q hq s us ws l1 l2 => FunD_bindK hF (fun kV doc pm an cdv ct => hk q hq kV doc pm an cdv ct us ws l1 l2) s, _, _, _, N, fn, hF, hPf, h1, h2, scopeB_of h3, h4⟩

/-! ### the law -/
theorem sqS_of {K : PySem.W.Frag} {H : Hp} {a : Addr} {vs : List V} (hO : Only H) (h : SqL K H a vs) : SqS K H a vs := by
  rcases h with (h | ⟨o, h⟩) | ⟨o, its, n, h⟩
  · rcases hO a with z | ⟨o, xs, z⟩
    · rw [z] at h; cases h
    · rw [z] at h; cases h
  · exact .inl ⟨o, h⟩
  · exact .inr ⟨o, h.1, .inr ⟨o, its, n, h⟩⟩
def scriptD (ns : List Int) : D := .scr (ns.map .int)
theorem rvs_ints {K : PySem.W.Frag} {as : List Addr} {H : Hp} : ∀ ns : List Int, RVs K as H (ns.map D.int) (ns.map V.int)
  | [] => rfl
  | n :: ns => ⟨_, _, rfl, rfl, rvs_ints ns⟩
theorem law_callG {P : Program} {w : World} {K : PySem.W.Frag} {mg mb : Str → Option Value} {CX : CXT} {k : Nat} {fa a : Addr} {fd : FuncData} {x : Str} {sp : Sp} {s₁ : Shared} {vs : List Value} {ns : List Int}
    (KX : K.In s₁.heap) (hns : s₁.heap.Ns mainGlobals mg) (hb : s₁.heap.Ns builtinsNs mb) (hbb : ∀ x : Str, x ≠ "__name__" → mb x = bootBuiltins x) (hlim : s₁.heap.NoLimit) (hg : s₁.gens = #[])
    (ha : s₁.heap.get? a = some { cls := .type "list", data := .seq vs.toArray }) (hi : IntsAre vs ns) (hl : ns.length ≤ sizeLine) (hr : Room k callerA)
    (F : ∀ base : Heap, K.In base → base.Ns mainGlobals mg → FnOkG P w K mg base CX k fa fd [x] sp) (hbind : ∀ (s : Shared) (u : Value), BindsTo s fd ⟨[u], []⟩ [(x, u)])
    (hsp : ∀ H : Hp, Only H → SqL K H a (ns.map V.int) → sp [.ref a] H (fun v _ => v = .bl true) fun _ _ _ => False)
    (hCX : ∀ H e s', CX [] H s₁ (fun _ _ _ => False) e s' → False) :
    codeAny (model P w) callerA (.call (.ref fa) ⟨[.ref a], []⟩) (fun r s' => r = .ok (.ret (.bool true)) ∧ OldK s₁.heap s'.heap ∧ s'.os = s₁.os ∧ AllBare s'.gens) s₁ := by
  have rv := vals_ints hi
  have lenV := hi.length
  have core : ∀ H : Hp, Only H → SqL K H a (ns.map V.int) → HOk P w H s₁.heap → (∀ b, H b ≠ none → b = a) → (H a ≠ none → K.lookup a = none) →
      codeAny (model P w) callerA (.call (.ref fa) ⟨[.ref a], []⟩) (fun r s' => r = .ok (.ret (.bool true)) ∧ OldK s₁.heap s'.heap ∧ s'.os = s₁.os ∧ AllBare s'.gens) s₁ := by
    intro H hO hS hok hA hK
    have base_of : ∀ {b : Addr} {o : Obj}, s₁.heap.get? b = some o → H b = none → (hidT s₁.heap H).get? b = some o := fun e n => hidT_get e n
    have noA : ∀ {b : Addr} {o : Obj} {es : Array DictEntry} {ep : Nat}, s₁.heap.get? b = some o → o.data = .dict es ep → H b = none := fun {b o es ep} e d => by
      cases q : H b with
      | none => rfl
      | some u =>
        have e' : b = a := hA b (by rw [q]; simp)
        subst e'
        rw [ha] at e; cases e
        have d' : Data.seq vs.toArray _ = Data.dict es ep := d
        cases d'
    have nsK : ∀ {b : Addr} {m : Str → Option Value}, s₁.heap.Ns b m → (hidT s₁.heap H).Ns b m := fun {b m} ⟨o, es, ep, e, d, r⟩ => ⟨o, es, ep, base_of e (noA e d), d, r⟩
    have hKb : K.In (hidT s₁.heap H) := fun b o e => base_of (KX b o e) (by
      cases q : H b with
      | none => rfl
      | some u =>
        have e' : b = a := hA b (by rw [q]; simp)
        subst e'
        rw [hK (by rw [q]; simp)] at e; cases e)
    have hM : Mod K mg (hidT s₁.heap H) := ⟨hKb, nsK hns, ⟨mb, nsK hb, hbb⟩, let ⟨mc, h1, h2⟩ := hlim; ⟨mc, nsK h1, h2⟩⟩
    have e0 : Env0 P w K mg (hidT s₁.heap H) callerA [] s₁ H := ⟨rfl, hM, fun b o e => of_hidT e, Nat.le_of_eq (hidT_size _ _), trivial, fun b hb => absurd (show b ∈ ([] : List Addr) from hb) (by simp), hok, .of_eq hg⟩
    refine codeAny_mono ((F _ hKb (nsK hns)).run callerA [] s₁ H ⟨[.ref a], []⟩ [.ref a] [.ref a] _ _ rfl hr e0 (hbind s₁ (.ref a)) (.cons rfl .nil) (hsp H hO hS)) fun r s' h => ?_
    cases r with
    | error e => exact (hCX H e s' h).elim
    | ok fl =>
      cases fl with
      | next => exact False.elim h
      | brk => exact False.elim h
      | cont => exact False.elim h
      | ret u =>
        obtain ⟨v, H', os, bare, un, hok', r', q⟩ := h
        have q' : v = .bl true := q
        subst q'
        obtain rfl : u = Value.bool true := r'
        refine ⟨rfl, OldK.of_keep fun b o e => ?_, os, bare⟩
        cases q : H b with
        | none => exact un.keep b o e q (by intro z; exact absurd (show b ∈ ([] : List Addr) from z) (by simp)) (by simp)
        | some u =>
          rcases hO b with z | ⟨ob, xs, z⟩
          · rw [q] at z; cases z
          · have z2 := un.frzs b ob _ z
            obtain ⟨e1, _⟩ := hok b _ z
            obtain ⟨e2, _⟩ := hok' b _ z2
            rw [e] at e1; cases e1
            exact e2
  cases hk : K.lookup a with
  | some o =>
    have e := KX a o hk
    rw [ha] at e
    cases e
    refine core (fun _ => none) (fun _ => .inl rfl) (.inr ⟨_, vs.toArray, _, hk, rfl, rfl, rfl, by rw [List.size_toArray, lenV]; exact hl, by simpa using rv⟩) (fun b u z => by have z' : (none : Option HO) = some u := z; cases z') (fun b z => absurd rfl z) fun z => absurd rfl z
  | none =>
    refine core (fun b => if b = a then some (.frz { cls := .type "list", data := .seq vs.toArray } (.lst (ns.map V.int))) else none) (fun b => ?_) (.inl (.inr ⟨{ cls := .type "list", data := .seq vs.toArray }, if_pos rfl⟩)) (fun b u z => ?_) (fun b z => ?_) fun _ => hk
    · by_cases hb : b = a
      · exact .inr ⟨_, _, if_pos hb⟩
      · exact .inl (if_neg hb)
    · by_cases hb : b = a
      · have z' := (if_pos hb).symm.trans z
        cases z'
        subst hb
        exact ⟨ha, by rw [List.length_map]; exact hl, vs, _, rv, ha⟩
      · have z' := (if_neg hb).symm.trans z
        cases z'
    · by_cases hb : b = a
      · exact hb
      · exact absurd (if_neg hb) z
/-- THE ROAD: a law whose program passes the look holds when the small language's run comes to True -/
theorem walk_PL {l : PySem.W.OpenLaw} {n k : Nat} {q : Program} {loose : List Str} {XP : (Str → Option Value) → Heap → Prop} {YP : World → Heap → Prop} {d : DefRec} {x : Str} {B : Tab} {Pf : List Fn} {G : List D} {i : Nat}
    (hn : l.most = some n) (hn2 : n ≤ sizeLine) (hdf : d.params.defaults = []) (hr : Room k callerA) (hfn : B.fns[i]? = some (d.name, [x]))
    (F : ∀ (w : World) (mg : Str → Option Value) (h : Heap), YP w h → h.Ns mainGlobals mg → ∃ (K : PySem.W.Frag), K.In h ∧ Mods B Pf G K mg)
    (hrun : ∀ ns : List Int, ns.length ≤ n → ∃ st, run Pf G k i [scriptD ns] [] = .ok (.bl true) st) :
    PySem.W.WalkO q loose XP YP l.row.toRowW d [] (fun f vs => PySem.call f vs) := by
  refine Att.attach_call hn hdf fun w s₀ s₁ mg mb fa o pm cd doc a vs ns G' Y ho hd hcd hmg hobj hints hlen hg => ?_
  obtain ⟨K, KX, M⟩ := F w mg _ Y G'.T.g
  obtain ⟨f, fd, dk⟩ := M.defs i d.name [x] hfn
  have e := hmg.symm.trans dk.mg
  cases e
  refine law_callG (CX := CXP) (sp := spU K (run Pf G k i) [x].length) KX G'.T.g G'.T.b G'.T.builtins G'.T.nolimit hg hobj hints (Nat.le_trans hlen hn2) hr (fun base hKb _ => all_ok M k i d.name [x] _ fd dk) (fun s u => dk.bind s [u] rfl) (fun H hO hS => ?_) fun H e s' z => z
  obtain ⟨st, e⟩ := hrun ns hlen
  refine ⟨[], [], [scriptD ns], ⟨rfl, fun i o a h _ => by simp at h, fun i j a o o' h _ _ _ _ _ => by simp at h⟩, ?_, rfl, ?_⟩
  · exact ⟨_, _, rfl, ⟨a, _, rfl, sqS_of hO hS, rvs_ints ns⟩, rfl⟩
  · rw [e]
    exact fun as' H' _ _ v rv => rv
end PL

set_option Elab.async false
set_option linter.all false
set_option maxRecDepth 100000
set_option maxHeartbeats 4000000
/-! PLQ: a program's run where some defs are taken by what they are known to tell. -/
namespace PL
open PySem PySem.Spec PyProof.Rows L2

/-! ### data without references -/
mutual
def ground : D → Bool
  | .ref _ => false
  | .tup ds => grounds ds
  | .scr ds => grounds ds
  | _ => true
def grounds : List D → Bool
  | [] => true
  | d :: ds => ground d && grounds ds
end
section
variable {K : PySem.W.Frag} {as as' : List Addr} {H : Hp}
mutual
theorem RV.grd : ∀ (d : D) (v : V), ground d = true → RV K as H d v → RV K as' H d v
  | .non, _, _, h => h
  | .bl _, _, _, h => h
  | .int _, _, _, h => h
  | .str _, _, _, h => h
  | .rep _, _, _, h => h
  | .tup ds, _, g, h => by
    obtain ⟨a, vs, rfl, ht, hs⟩ := h
    exact ⟨a, vs, rfl, ht, RVs.grd ds vs (by simpa [ground] using g) hs⟩
  | .scr ds, _, g, h => by
    obtain ⟨a, vs, rfl, ht, hs⟩ := h
    exact ⟨a, vs, rfl, ht, RVs.grd ds vs (by simpa [ground] using g) hs⟩
  | .ref _, _, g, _ => by simp [ground] at g
theorem RVs.grd : ∀ (ds : List D) (vs : List V), grounds ds = true → RVs K as H ds vs → RVs K as' H ds vs
  | [], _, _, h => h
  | d :: ds, _, g, h => by
    obtain ⟨v, vs', rfl, h1, h2⟩ := h
    simp only [grounds, Bool.and_eq_true] at g
    exact ⟨v, vs', rfl, RV.grd d v g.1 h1, RVs.grd ds vs' g.2 h2⟩
end
end

/-! ### a run with contracts -/
def runC (P : List Fn) (G : List D) (C : Nat → Option (List D → Sto → Res D)) : Nat → Nat → List D → Sto → Res D
  | 0, f, ds, st => match C f with
    | some c => c ds st
    | none => .bad
  | n + 1, f, ds, st => match C f with
    | some c => c ds st
    | none => match P[f]? with
      | none => .bad
      | some fn => if ds.length = fn.np then
          (exs (runC P G C n) G fn.body (ds.map some ++ List.replicate (fn.ns - fn.np) none) st).bind fun o st1 => match o with
            | .ret d => .ok d st1
            | .next _ => .ok .non st1
            | _ => .bad
        else .bad
theorem FnOkG.mono {P : Program} {w : World} {K : PySem.W.Frag} {mg : Str → Option Value} {base : Heap} {CX : CXT} {j k : Nat} {f : Addr} {fd : FuncData} {ps : List Str} {sp : Sp} (F : FnOkG P w K mg base CX j f fd ps sp) (h : j ≤ k) :
    FnOkG P w K mg base CX k f fd ps sp := ⟨F.len, fun A outer s H args us vs Q E hg hr => F.run A outer s H args us vs Q E hg (hr.mono h)⟩
theorem FnOkG.imp {P : Program} {w : World} {K : PySem.W.Frag} {mg : Str → Option Value} {base : Heap} {CX : CXT} {k : Nat} {f : Addr} {fd : FuncData} {ps : List Str} {sp sp' : Sp} (F : FnOkG P w K mg base CX k f fd ps sp)
    (h : ∀ vs H Q E, sp' vs H Q E → sp vs H Q E) : FnOkG P w K mg base CX k f fd ps sp' := ⟨fun vs H Q E q => F.len vs H Q E (h vs H Q E q), fun A outer s H args us vs Q E hg hr e0 hb r q => F.run A outer s H args us vs Q E hg hr e0 hb r (h vs H Q E q)⟩
/-- what a def tells of data without references, wherever it is called -/
structure Pure (m : List D → Sto → Res D) (c : List D → Sto → Res D) : Prop where
  of : ∀ ds st d st1, c ds st = .ok d st1 → st1 = st ∧ grounds ds = true ∧ ground d = true ∧ ∃ st', m ds [] = .ok d st'
  noex : ∀ ds st k xs st1, c ds st ≠ .exc k xs st1
/-- what a def tells, told of every store -/
def pureC (m : List D → Sto → Res D) (ds : List D) (st : Sto) : Res D := if grounds ds = true then match m ds [] with
  | .ok d _ => if ground d = true then .ok d st else .bad
  | _ => .bad
  else .bad
theorem pureC_pure (m : List D → Sto → Res D) : Pure m (pureC m) := by
  refine ⟨fun ds st d st1 h => ?_, fun ds st k xs st1 h => ?_⟩
  · unfold pureC at h
    split at h
    · rename_i hg
      split at h
      · rename_i d' st' e
        split at h
        · rename_i hd
          cases h
          exact ⟨rfl, hg, hd, st', e⟩
        · cases h
      · cases h
    · cases h
  · unfold pureC at h
    split at h
    · split at h
      · split at h <;> cases h
      · cases h
    · cases h
theorem pureC_ok {m : List D → Sto → Res D} {ds : List D} {st st' : Sto} {d : D} (hg : grounds ds = true) (h : m ds [] = .ok d st') (hd : ground d = true) : pureC m ds st = .ok d st := by
  unfold pureC
  rw [if_pos hg, h]
  simp only []
  rw [if_pos hd]
theorem pure_imp {K : PySem.W.Frag} {m c : List D → Sto → Res D} {n : Nat} (p : Pure m c) (vs : List V) (H : Hp) (Q : VK) (E : XK) (h : spU K c n vs H Q E) : spU K m n vs H Q E := by
  obtain ⟨as, st, ds, rel, rvs, hl, g⟩ := h
  cases e : c ds st with
  | bad => rw [e] at g; exact g.elim
  | exc _ _ _ => rw [e] at g; exact g.elim
  | ok d st1 =>
    obtain ⟨rfl, h1, h2, st', h3⟩ := p.of ds st d st1 e
    rw [e] at g
    refine ⟨[], [], ds, ⟨rfl, fun i o a h _ => by simp at h, fun i j a o o' h _ _ _ _ _ => by simp at h⟩, RVs.grd ds vs h1 rvs, hl, ?_⟩
    rw [h3]
    intro as' H' e' r' v rv
    have keep : ∀ a u, H a = some u → H' a = some u := fun a u q => e'.frm a u (by simp) q
    have e2 : Ext K as H as H' := ⟨⟨[], by simp, by simp⟩, fun a o _ q => keep a o q, e'.tup, e'.frz⟩
    refine g as H' e2 ⟨rel.len, fun i o a q1 q2 => (rel.at_ i o a q1 q2).mono e2.wk fun u q _ => keep a u q, rel.inj⟩ v (RV.grd d v h2 rv)
theorem all_okC {P : Program} {w : World} {K : PySem.W.Frag} {mg : Str → Option Value} {base : Heap} {B : Tab} {Pf : List Fn} {G : List D} {C : Nat → Option (List D → Sto → Res D)} {kc : Nat} (M : Mods B Pf G K mg)
    (hC : ∀ i c, C i = some c → Pure (run Pf G kc i) c) : ∀ (k : Nat) (i : Nat) (x : Str) (ps : List Str) (f : Addr) (fd : FuncData), DefOk B Pf K mg i x ps f fd →
    FnOkG P w K mg base CXP (kc + k) f fd ps (spU K (runC Pf G C k i) ps.length)
  | 0, i, x, ps, f, fd, dk => by
    cases e : C i with
    | none => exact ⟨fun vs H Q E h => sp_len h, fun A outer s H args us vs Q E _ _ _ _ _ h => by
        obtain ⟨as, st, ds, _, _, _, g⟩ := h
        rw [runC, e] at g
        exact g.elim⟩
    | some c =>
      have : runC Pf G C 0 i = c := by funext ds st; rw [runC, e]
      rw [this]
      exact ((all_ok M kc i x ps f fd dk).imp (pure_imp (hC i c e))).mono (Nat.le_refl _)
  | k + 1, i, x, ps, f, fd, dk => by
    cases e : C i with
    | some c =>
      have : runC Pf G C (k + 1) i = c := by funext ds st; rw [runC, e]
      rw [this]
      exact ((all_ok M kc i x ps f fd dk).imp (pure_imp (hC i c e))).mono (Nat.le_add_right _ _)
    | none =>
      obtain ⟨params, body, scope, N, fn, hF, hPf, hnp, hns, S, hchk⟩ := dk.fn
      show FnOkG P w K mg base CXP (kc + k + 1) f fd ps _
      refine FunD_okG hF S (fun vs H Q E h => sp_len h) fun cdv A outer s H vs Q E hg hr hsp => ?_
      obtain ⟨as, st, ds, rel, rvs, hl, g⟩ := hsp
      have c : StC B (runC Pf G C k) G N scope (kc + k) (cxOf CXP P w K mg base N x scope f cdv A outer s H E) := {
        cx := {
          fit := ⟨by have := hr.un; show (A.deeper _).units + 100 < cLine; omega, hg, rfl⟩
          hN := rfl
          nd := S.nd
          sub := fun y q h => ⟨q, h, .inl rfl⟩
          fnc := fun _ _ => rfl
          room := hr
          fns := fun j y qs h => by
            obtain ⟨f', fd', dk'⟩ := M.defs j y qs h
            obtain ⟨_, _, _, _, _, hF', _⟩ := dk'.fn
            exact ⟨f', fd', ⟨dk'.mg, hF'.kp, dk'.bind, dk'.bindK, all_okC M hC k j y qs f' fd' dk'⟩⟩
          free := M.free
          con := M.con }
        hsc := rfl
        hk := S.kind
        hp := passes_of (K := fun e s'' => CXP outer H s E e s'') (E₁ := fun e s'' => CXP outer H s E e s'') rfl }
      refine ⟨_, soundSs c fn.body hchk, as, st, _, rel, renv_start (N := N) rvs hl, ?_⟩
      rw [runC, e, hPf] at g
      simp only [] at g
      rw [if_pos (by rw [hl, hnp]), hns, hnp] at g
      exact g.bind.imp fun o as1 H1 e1 ⟨st1, _, r1, g1⟩ => by
        cases o with
        | ret d => exact g1.here r1
        | next env => exact fun σ _ => g1.here r1 _ rfl
        | brk _ => exact g1.elim
        | cnt _ => exact g1.elim
/-- THE ROAD with contracts -/
theorem walk_PLC {l : PySem.W.OpenLaw} {n k kc : Nat} {q : Program} {loose : List Str} {XP : (Str → Option Value) → Heap → Prop} {YP : World → Heap → Prop} {d : DefRec} {x : Str} {B : Tab} {Pf : List Fn} {G : List D} {C : Nat → Option (List D → Sto → Res D)} {i : Nat}
    (hn : l.most = some n) (hn2 : n ≤ sizeLine) (hdf : d.params.defaults = []) (hr : Room (kc + k) callerA) (hfn : B.fns[i]? = some (d.name, [x]))
    (F : ∀ (w : World) (mg : Str → Option Value) (h : Heap), YP w h → h.Ns mainGlobals mg → ∃ (K : PySem.W.Frag), K.In h ∧ Mods B Pf G K mg)
    (hC : ∀ i c, C i = some c → Pure (run Pf G kc i) c)
    (hrun : ∀ ns : List Int, ns.length ≤ n → ∃ st, runC Pf G C k i [scriptD ns] [] = .ok (.bl true) st) :
    PySem.W.WalkO q loose XP YP l.row.toRowW d [] (fun f vs => PySem.call f vs) := by
  refine Att.attach_call hn hdf fun w s₀ s₁ mg mb fa o pm cd doc a vs ns G' Y ho hd hcd hmg hobj hints hlen hg => ?_
  obtain ⟨K, KX, M⟩ := F w mg _ Y G'.T.g
  obtain ⟨f, fd, dk⟩ := M.defs i d.name [x] hfn
  have e := hmg.symm.trans dk.mg
  cases e
  refine law_callG (CX := CXP) (sp := spU K (runC Pf G C k i) [x].length) KX G'.T.g G'.T.b G'.T.builtins G'.T.nolimit hg hobj hints (Nat.le_trans hlen hn2) hr (fun base hKb _ => all_okC M hC k i d.name [x] _ fd dk) (fun s u => dk.bind s [u] rfl) (fun H hO hS => ?_) fun H e s' z => z
  obtain ⟨st, e⟩ := hrun ns hlen
  refine ⟨[], [], [scriptD ns], ⟨rfl, fun i o a h _ => by simp at h, fun i j a o o' h _ _ _ _ _ => by simp at h⟩, ?_, rfl, ?_⟩
  · exact ⟨_, _, rfl, ⟨a, _, rfl, sqS_of hO hS, rvs_ints ns⟩, rfl⟩
  · rw [e]
    exact fun as' H' _ _ v rv => rv

/-! ### a tree of words -/
inductive Tr where
  | leaf | node (i : Nat) (ts : List Tr)
def setW (w : Nat → Str) (i : Nat) (x : Str) : Nat → Str := fun j => if j = i then x else w j
theorem setW_self (w : Nat → Str) (i : Nat) : setW w i (w i) = w := by
  funext j; unfold setW; split
  · rename_i e; rw [e]
  · rfl
section
variable (dom : Nat → List Str) (lf : (Nat → Str) → Bool)
mutual
def Tr.chk : Tr → (Nat → Str) → Bool
  | .leaf, w => lf w
  | .node i ts, w => chkAll ts (dom i) i w
def chkAll : List Tr → List Str → Nat → (Nat → Str) → Bool
  | t :: ts, x :: xs, i, w => t.chk (setW w i x) && chkAll ts xs i w
  | [], [], _, _ => true
  | _, _, _, _ => false
end
end
section
variable {dom : Nat → List Str} {lf : (Nat → Str) → Bool} {w : Nat → Str}
mutual
theorem Tr.chk_of (hw : ∀ i, w i ∈ dom i) : ∀ t : Tr, t.chk dom lf w = true → lf w = true
  | .leaf, h => by rw [Tr.chk] at h; exact h
  | .node i ts, h => by
    rw [Tr.chk] at h
    exact chkAll_of hw ts (dom i) i (hw i) h
theorem chkAll_of (hw : ∀ i, w i ∈ dom i) : ∀ (ts : List Tr) (xs : List Str) (i : Nat), w i ∈ xs → chkAll dom lf ts xs i w = true → lf w = true
  | t :: ts, x :: xs, i, hm, h => by
    rw [chkAll, Bool.and_eq_true] at h
    rcases List.mem_cons.mp hm with e | hm
    · have h1 := h.1
      rw [← e, setW_self] at h1
      exact Tr.chk_of hw t h1
    · exact chkAll_of hw ts xs i hm h.2
  | [], [], i, hm, h => by cases hm
  | t :: ts, [], i, hm, h => by cases hm
  | [], x :: xs, i, hm, h => by rw [chkAll] at h <;> first | cases h | simp
end
end
end PL

set_option Elab.async false
set_option linter.all false
set_option maxRecDepth 100000
set_option maxHeartbeats 4000000
/-! PLW: what the small language does, step by step, as propositions. -/
namespace PL
open PySem

def Wd {α : Type} (r : Res α) (P : α → Sto → Prop) : Prop := match r with
  | .ok a st => P a st
  | _ => False
section
variable {α β : Type}
theorem Wd_ok {a : α} {st : Sto} {P : α → Sto → Prop} : Wd (.ok a st) P ↔ P a st := Iff.rfl
theorem Wd_bad {P : α → Sto → Prop} : Wd (.bad : Res α) P ↔ False := Iff.rfl
theorem Wd_bind {r : Res α} {k : α → Sto → Res β} {P : β → Sto → Prop} : Wd (r.bind k) P ↔ Wd r fun a st => Wd (k a st) P := by
  cases r <;> exact Iff.rfl
theorem Wd.mono {r : Res α} {P Q : α → Sto → Prop} (h : Wd r P) (f : ∀ a st, P a st → Q a st) : Wd r Q := by
  cases r with
  | ok a st => exact f a st h
  | exc _ _ _ => exact h
  | bad => exact h
theorem Wd_lift {o : Option α} {st : Sto} {P : α → Sto → Prop} : Wd (liftO o st) P ↔ ∃ a, o = some a ∧ P a st := by
  cases o with
  | some a => exact ⟨fun h => ⟨a, rfl, h⟩, fun ⟨b, e, h⟩ => by cases e; exact h⟩
  | none => exact ⟨fun h => h.elim, fun ⟨b, e, h⟩ => by cases e⟩
theorem Wd_ite {c : Prop} [Decidable c] {x y : Res α} {P : α → Sto → Prop} : Wd (if c then x else y) P ↔ if c then Wd x P else Wd y P := by
  split <;> exact Iff.rfl
theorem Wd_ok_of {r : Res α} {P : α → Sto → Prop} (h : Wd r P) : ∃ a st, r = .ok a st ∧ P a st := by
  cases r with
  | ok a st => exact ⟨a, st, rfl, h⟩
  | exc _ _ _ => exact h.elim
  | bad => exact h.elim
end
section
variable {F : Nat → List D → Sto → Res D} {G : List D} {env : Env} {st : Sto} {P : D → Sto → Prop} {PL' : List D → Sto → Prop} {PT' : Bool → Sto → Prop} {PE' : Env → Sto → Prop} {PO' : Out → Sto → Prop}
theorem W_var {i : Nat} : Wd (ev F G (.var i) env st) P ↔ ∃ d, env[i]? = some (some d) ∧ P d st := by
  rw [ev]
  split
  · rename_i d e; rw [e]; simp [Wd]
  · rename_i h
    refine ⟨fun z => z.elim, fun ⟨d, e, _⟩ => (h d e).elim⟩
theorem W_cI {i : Int} : Wd (ev F G (.cI i) env st) P ↔ P (.int i) st := by rw [ev]; exact Iff.rfl
theorem W_cB {i : Bool} : Wd (ev F G (.cB i) env st) P ↔ P (.bl i) st := by rw [ev]; exact Iff.rfl
theorem W_cS {i : Str} : Wd (ev F G (.cS i) env st) P ↔ P (.str i) st := by rw [ev]; exact Iff.rfl
theorem W_cN : Wd (ev F G .cN env st) P ↔ P .non st := by rw [ev]; exact Iff.rfl
theorem W_gcon {i : Nat} : Wd (ev F G (.gcon i) env st) P ↔ ∃ d, G[i]? = some d ∧ P d st := by rw [ev]; exact Wd_lift
theorem W_bin {op : Bop} {a b : E} : Wd (ev F G (.bin op a b) env st) P ↔ Wd (ev F G a env st) fun x st1 => Wd (ev F G b env st1) fun y st2 => Wd (binD op x y st2) P := by
  rw [ev]; simp only [Wd_bind]
theorem W_neg {a : E} : Wd (ev F G (.neg a) env st) P ↔ Wd (ev F G a env st) fun x st1 => ∃ i, x = .int i ∧ P (.int (-i)) st1 := by
  rw [ev]; simp only [Wd_bind]
  constructor
  · intro h; refine h.mono fun x st1 h => ?_
    split at h
    · exact ⟨_, rfl, h⟩
    · exact h.elim
  · intro h; refine h.mono fun x st1 ⟨i, e, h⟩ => ?_
    subst e; exact h
theorem W_notE {a : E} : Wd (ev F G (.notE a) env st) P ↔ Wd (ev F G a env st) fun x st1 => ∃ k, truth st1 x = some k ∧ P (.bl (!k)) st1 := by
  rw [ev]; simp only [Wd_bind, Wd_lift, Option.map_eq_some_iff]
  constructor
  · intro h; exact h.mono fun x st1 ⟨d, ⟨k, e, e2⟩, h⟩ => ⟨k, e, by rw [e2]; exact h⟩
  · intro h; exact h.mono fun x st1 ⟨k, e, h⟩ => ⟨_, ⟨k, e, rfl⟩, h⟩
theorem W_and1 {a : E} : Wd (ev F G (.and1 a) env st) P ↔ Wd (ev F G a env st) P := by rw [ev]
theorem W_or1 {a : E} : Wd (ev F G (.or1 a) env st) P ↔ Wd (ev F G a env st) P := by rw [ev]
theorem W_and2 {a r : E} : Wd (ev F G (.and2 a r) env st) P ↔ Wd (ev F G a env st) fun x st1 => ∃ k, truth st1 x = some k ∧ if k = true then Wd (ev F G r env st1) P else P x st1 := by
  rw [ev]; simp only [Wd_bind]
  constructor
  · intro h; refine h.mono fun x st1 h => ?_
    split at h
    · rename_i e; exact ⟨true, e, by rw [if_pos rfl]; exact h⟩
    · rename_i e; exact ⟨false, e, by rw [if_neg (by simp)]; exact h⟩
    · exact h.elim
  · intro h; refine h.mono fun x st1 ⟨k, e, h⟩ => ?_
    rw [e]
    cases k
    · rw [if_neg (by simp)] at h; exact h
    · rw [if_pos rfl] at h; exact h
theorem W_or2 {a r : E} : Wd (ev F G (.or2 a r) env st) P ↔ Wd (ev F G a env st) fun x st1 => ∃ k, truth st1 x = some k ∧ if k = true then P x st1 else Wd (ev F G r env st1) P := by
  rw [ev]; simp only [Wd_bind]
  constructor
  · intro h; refine h.mono fun x st1 h => ?_
    split at h
    · rename_i e; exact ⟨true, e, by rw [if_pos rfl]; exact h⟩
    · rename_i e; exact ⟨false, e, by rw [if_neg (by simp)]; exact h⟩
    · exact h.elim
  · intro h; refine h.mono fun x st1 ⟨k, e, h⟩ => ?_
    rw [e]
    cases k
    · rw [if_neg (by simp)] at h; exact h
    · rw [if_pos rfl] at h; exact h
theorem W_cmp {op : Cop} {a b : E} : Wd (ev F G (.cmp op a b) env st) P ↔ Wd (ev F G a env st) fun x st1 => Wd (ev F G b env st1) fun y st2 => ∃ k, cmpD op x y st2 = some k ∧ P (.bl k) st2 := by
  rw [ev]; simp only [Wd_bind, Wd_lift, Option.map_eq_some_iff]
  constructor
  · intro h; exact h.mono fun x st1 h => h.mono fun y st2 ⟨d, ⟨k, e, e2⟩, h⟩ => ⟨k, e, by rw [e2]; exact h⟩
  · intro h; exact h.mono fun x st1 h => h.mono fun y st2 ⟨k, e, h⟩ => ⟨_, ⟨k, e, rfl⟩, h⟩
theorem W_ife {c : T} {a b : E} : Wd (ev F G (.ife c a b) env st) P ↔ Wd (evT F G c env st) fun k st1 => if k = true then Wd (ev F G a env st1) P else Wd (ev F G b env st1) P := by
  rw [ev]; simp only [Wd_bind, Wd_ite]
theorem W_tup {es : Es} : Wd (ev F G (.tup es) env st) P ↔ Wd (evs F G es env st) fun ds st1 => ds.length ≤ sizeLine ∧ P (.tup ds) st1 := by
  rw [ev]; simp only [Wd_bind, Wd_ite]
  constructor
  · intro h; refine h.mono fun x st1 h => ?_
    split at h
    · rename_i e; exact ⟨e, h⟩
    · exact h.elim
  · intro h; exact h.mono fun x st1 ⟨e, h⟩ => by rw [if_pos e]; exact h
theorem W_lst {es : Es} : Wd (ev F G (.lst es) env st) P ↔ Wd (evs F G es env st) fun ds st1 => ds.length ≤ sizeLine ∧ P (.ref st1.length) (st1 ++ [.lst ds]) := by
  rw [ev]; simp only [Wd_bind, Wd_ite]
  constructor
  · intro h; refine h.mono fun x st1 h => ?_
    split at h
    · rename_i e; exact ⟨e, h⟩
    · exact h.elim
  · intro h; exact h.mono fun x st1 ⟨e, h⟩ => by rw [if_pos e]; exact h
theorem W_dic {ks : List L2.Key} {es : Es} : Wd (ev F G (.dic ks es) env st) P ↔ Wd (evs F G es env st) fun ds st1 => (ks.length = ds.length ∧ ks.length ≤ 15) ∧ P (.ref st1.length) (st1 ++ [.dct ((ks.zip ds).foldl (fun acc kv => putKV acc kv.1 kv.2) [])]) := by
  rw [ev]; simp only [Wd_bind, Wd_ite]
  constructor
  · intro h; refine h.mono fun x st1 h => ?_
    split at h
    · rename_i e; exact ⟨e, h⟩
    · exact h.elim
  · intro h; exact h.mono fun x st1 ⟨e, h⟩ => by rw [if_pos e]; exact h
theorem W_call {f : Nat} {es : Es} : Wd (ev F G (.call f es) env st) P ↔ Wd (evs F G es env st) fun ds st1 => Wd (F f ds st1) P := by rw [ev]; simp only [Wd_bind]
theorem W_callK {f : Nat} {es ks : Es} {g : List Nat} : Wd (ev F G (.callK f es ks g) env st) P ↔ Wd (evs F G es env st) fun ds st1 => Wd (evs F G ks env st1) fun zs st2 => Wd (F f (g.map fun j => (ds ++ zs).getD j .non) st2) P := by rw [ev]; simp only [Wd_bind]
theorem W_blt {b : Blt} {es : Es} : Wd (ev F G (.blt b es) env st) P ↔ Wd (evs F G es env st) fun ds st1 => Wd (bltD b ds st1) P := by rw [ev]; simp only [Wd_bind]
theorem W_meth {m : Mt} {o : E} {es : Es} : Wd (ev F G (.meth m o es) env st) P ↔ Wd (ev F G o env st) fun x st1 => isLst x st1 = true ∧ Wd (evs F G es env st1) fun ds st2 => Wd (methD m x ds st2) P := by
  rw [ev]; simp only [Wd_bind, Wd_ite]
  constructor
  · intro h; refine h.mono fun x st1 h => ?_
    split at h
    · rename_i e; exact ⟨e, h⟩
    · exact h.elim
  · intro h; exact h.mono fun x st1 ⟨e, h⟩ => by rw [if_pos e]; exact h
theorem W_idx {a b : E} : Wd (ev F G (.idx a b) env st) P ↔ Wd (ev F G a env st) fun x st1 => Wd (ev F G b env st1) fun y st2 => Wd (idxD x y st2) P := by rw [ev]; simp only [Wd_bind]
theorem W_sl {a b c : E} : Wd (ev F G (.sl a b c) env st) P ↔ Wd (ev F G a env st) fun x st1 => Wd (ev F G b env st1) fun y st2 => Wd (ev F G c env st2) fun z st3 => Wd (slD x y z st3) P := by rw [ev]; simp only [Wd_bind]
theorem W_rev {a : E} : Wd (ev F G (.rev a) env st) P ↔ Wd (ev F G a env st) fun x st1 => Wd (revD x st1) P := by rw [ev]; simp only [Wd_bind]
theorem W_lc {own : List Nat} {elt : E} {t : Tg} {k : ItK} {es : Es} {c : T} : Wd (ev F G (.lc own elt t k es c) env st) P ↔ Wd (evs F G es env st) fun ds st1 => ∃ s, srcD k ds st1 = some s ∧
    Wd (lcLoop s (fun d st2 => (asg F G t d (wipeE env own) st2).bind fun env1 st3 => (evT F G c env1 st3).bind fun b st4 => if b then (ev F G elt env1 st4).bind fun y st5 => .ok (some y) st5 else .ok none st4) (s.len st1 + 1) 0 [] st1) P := by
  rw [ev]; simp only [Wd_bind]
  constructor
  · intro h; refine h.mono fun x st1 h => ?_
    split at h
    · exact h.elim
    · rename_i s e; exact ⟨s, e, h⟩
  · intro h; refine h.mono fun x st1 ⟨s, e, h⟩ => ?_
    rw [e]; exact h
theorem W_nil : Wd (evs F G .nil env st) PL' ↔ PL' [] st := by rw [evs]; exact Iff.rfl
theorem W_cons {e : E} {es : Es} : Wd (evs F G (.cons e es) env st) PL' ↔ Wd (ev F G e env st) fun d st1 => Wd (evs F G es env st1) fun ds st2 => PL' (d :: ds) st2 := by rw [evs]; simp only [Wd_bind, Wd_ok]
theorem W_val {e : E} : Wd (evT F G (.val e) env st) PT' ↔ Wd (ev F G e env st) fun x st1 => ∃ k, truth st1 x = some k ∧ PT' k st1 := by rw [evT]; simp only [Wd_bind, Wd_lift]
theorem W_vc {op : Cop} {a b : E} : Wd (evT F G (.vc op a b) env st) PT' ↔ Wd (ev F G a env st) fun x st1 => Wd (ev F G b env st1) fun y st2 => ∃ k, cmpD op x y st2 = some k ∧ PT' k st2 := by rw [evT]; simp only [Wd_bind, Wd_lift]
theorem W_not {t : T} : Wd (evT F G (.not t) env st) PT' ↔ Wd (evT F G t env st) fun b st1 => PT' (!b) st1 := by rw [evT]; simp only [Wd_bind, Wd_ok]
theorem W_tand1 {t : T} : Wd (evT F G (.and1 t) env st) PT' ↔ Wd (evT F G t env st) PT' := by rw [evT]
theorem W_tor1 {t : T} : Wd (evT F G (.or1 t) env st) PT' ↔ Wd (evT F G t env st) PT' := by rw [evT]
theorem W_tand2 {t r : T} : Wd (evT F G (.and2 t r) env st) PT' ↔ Wd (evT F G t env st) fun b st1 => if b = true then Wd (evT F G r env st1) PT' else PT' false st1 := by rw [evT]; simp only [Wd_bind, Wd_ite, Wd_ok]
theorem W_tor2 {t r : T} : Wd (evT F G (.or2 t r) env st) PT' ↔ Wd (evT F G t env st) fun b st1 => if b = true then PT' true st1 else Wd (evT F G r env st1) PT' := by rw [evT]; simp only [Wd_bind, Wd_ite, Wd_ok]
theorem W_yes : Wd (evT F G .yes env st) PT' ↔ PT' true st := by rw [evT]; exact Iff.rfl
theorem W_name {i : Nat} {d : D} : Wd (asg F G (.name i) d env st) PE' ↔ PE' (env.set i (some d)) st := by rw [asg]; exact Iff.rfl
theorem W_tgt {ts : Tgs} {d : D} : Wd (asg F G (.tup ts) d env st) PE' ↔ ∃ ds, partsOf d st = some ds ∧ Wd (asgs F G ts ds env st) PE' := by
  rw [asg]
  constructor
  · intro h; split at h
    · rename_i ds e; exact ⟨ds, e, h⟩
    · exact h.elim
  · intro ⟨ds, e, h⟩; rw [e]; exact h
theorem W_tgsub {o i : E} {d : D} : Wd (asg F G (.sub o i) d env st) PE' ↔ Wd (ev F G o env st) fun x st1 => Wd (ev F G i env st1) fun y st2 => ∃ st3, setD x y d st2 = some st3 ∧ PE' env st3 := by
  rw [asg]; simp only [Wd_bind]
  constructor
  · intro h; refine h.mono fun x st1 h => h.mono fun y st2 h => ?_
    split at h
    · rename_i s e; exact ⟨s, e, h⟩
    · exact h.elim
  · intro h; refine h.mono fun x st1 h => h.mono fun y st2 ⟨s, e, h⟩ => ?_
    rw [e]; exact h
theorem W_tgnil : Wd (asgs F G .nil [] env st) PE' ↔ PE' env st := by rw [asgs]; exact Iff.rfl
theorem W_tgcons {t : Tg} {ts : Tgs} {d : D} {ds : List D} : Wd (asgs F G (.cons t ts) (d :: ds) env st) PE' ↔ Wd (asg F G t d env st) fun env1 st1 => Wd (asgs F G ts ds env1 st1) PE' := by rw [asgs]; simp only [Wd_bind]
theorem W_asg {t : Tg} {e : E} : Wd (ex F G (.asg t e) env st) PO' ↔ Wd (ev F G e env st) fun d st1 => Wd (asg F G t d env st1) fun env1 st2 => PO' (.next env1) st2 := by rw [ex]; simp only [Wd_bind, Wd_ok]
theorem W_asgC {i : Nat} {own : List Nat} {elt : E} {t : Tg} {k : ItK} {es : Es} {c : T} : Wd (ex F G (.asgC i own elt t k es c) env st) PO' ↔ Wd (ev F G (.lc own elt t k es c) env st) fun d st1 => PO' (.next (env.set i (some d))) st1 := by rw [ex]; simp only [Wd_bind, Wd_ok]
theorem W_par {is : List Nat} {es : Es} : Wd (ex F G (.par is es) env st) PO' ↔ Wd (evs F G es env st) fun ds st1 => ds.length = is.length ∧ PO' (.next (setAll env is ds)) st1 := by
  rw [ex]; simp only [Wd_bind, Wd_ite]
  constructor
  · intro h; refine h.mono fun x st1 h => ?_
    split at h
    · rename_i e; exact ⟨e, h⟩
    · exact h.elim
  · intro h; exact h.mono fun x st1 ⟨e, h⟩ => by rw [if_pos e]; exact h
theorem W_exp {e : E} : Wd (ex F G (.exp e) env st) PO' ↔ Wd (ev F G e env st) fun _ st1 => PO' (.next env) st1 := by rw [ex]; simp only [Wd_bind, Wd_ok]
theorem W_ret {e : E} : Wd (ex F G (.ret e) env st) PO' ↔ Wd (ev F G e env st) fun d st1 => PO' (.ret d) st1 := by rw [ex]; simp only [Wd_bind, Wd_ok]
theorem W_if {c : T} {a b : Ss} : Wd (ex F G (.ite c a b) env st) PO' ↔ Wd (evT F G c env st) fun k st1 => if k = true then Wd (exs F G a env st1) PO' else Wd (exs F G b env st1) PO' := by rw [ex]; simp only [Wd_bind, Wd_ite]
theorem W_for {t : Tg} {k : ItK} {es : Es} {body : Ss} : Wd (ex F G (.for_ t k es body) env st) PO' ↔ Wd (evs F G es env st) fun ds st1 => ∃ s, srcD k ds st1 = some s ∧
    Wd (forLoop s (fun d env st => (asg F G t d env st).bind fun env1 st1 => exs F G body env1 st1) (s.len st1 + 1) 0 env st1) PO' := by
  rw [ex]; simp only [Wd_bind]
  constructor
  · intro h; refine h.mono fun x st1 h => ?_
    split at h
    · exact h.elim
    · rename_i s e; exact ⟨s, e, h⟩
  · intro h; refine h.mono fun x st1 ⟨s, e, h⟩ => ?_
    rw [e]; exact h
theorem W_snil : Wd (exs F G .nil env st) PO' ↔ PO' (.next env) st := by rw [exs]; exact Iff.rfl
/-- what is done behind a statement -/
def Then (Q : Env → Sto → Prop) (PO' : Out → Sto → Prop) : Out → Sto → Prop
  | .next env1, st1 => Q env1 st1
  | .brk env1, st1 => PO' (.brk env1) st1
  | .cnt env1, st1 => PO' (.cnt env1) st1
  | .ret d, st1 => PO' (.ret d) st1
theorem Then_next {Q : Env → Sto → Prop} : Then Q PO' (.next env) st ↔ Q env st := Iff.rfl
theorem Then_ret {Q : Env → Sto → Prop} {d : D} : Then Q PO' (.ret d) st ↔ PO' (.ret d) st := Iff.rfl
theorem W_scons {s : S} {ss : Ss} : Wd (exs F G (.cons s ss) env st) PO' ↔ Wd (ex F G s env st) (Then (fun env1 st1 => Wd (exs F G ss env1 st1) PO') PO') := by
  rw [exs]; simp only [Wd_bind]
  constructor
  · intro h; refine h.mono fun o st1 h => ?_
    cases o <;> exact h
  · intro h; refine h.mono fun o st1 h => ?_
    cases o <;> exact h
/-- what a def's body comes to -/
def Back (P : D → Sto → Prop) : Out → Sto → Prop
  | .ret d, st => P d st
  | .next _, st => P .non st
  | _, _ => False
theorem Back_ret {d : D} : Back P (.ret d) st ↔ P d st := Iff.rfl
theorem Back_next : Back P (.next env) st ↔ P .non st := Iff.rfl
end
section
variable {Pf : List Fn} {G : List D} {C : Nat → Option (List D → Sto → Res D)} {n f : Nat} {ds : List D} {st : Sto} {P : D → Sto → Prop}
/-- a def by its body -/
theorem W_def {fn : Fn} (hC : C f = none) (hf : Pf[f]? = some fn) (hl : ds.length = fn.np) (h : Wd (exs (runC Pf G C n) G fn.body (ds.map some ++ List.replicate (fn.ns - fn.np) none) st) (Back P)) : Wd (runC Pf G C (n + 1) f ds st) P := by
  rw [runC, hC, hf]
  simp only []
  rw [if_pos hl, Wd_bind]
  refine h.mono fun o st1 h => ?_
  cases o <;> exact h
/-- a def by its contract -/
theorem W_con {c : List D → Sto → Res D} (hC : C f = some c) (h : Wd (c ds st) P) : Wd (runC Pf G C n f ds st) P := by
  cases n <;> (rw [runC, hC]; exact h)
end

/-! ### loops -/
section
variable {step : D → Env → Sto → Res Out} {P : Out → Sto → Prop} {s : Src}
/-- a turn of a for: what it leaves -/
def Turn (Inv : Env → Sto → Prop) (P : Out → Sto → Prop) : Out → Sto → Prop
  | .next env, st => Inv env st
  | .cnt env, st => Inv env st
  | .brk env, st => P (.next env) st
  | .ret d, st => P (.ret d) st
theorem W_loop (Inv : Nat → Env → Sto → Prop) (m : Nat) (hs : ∀ i env st, i < m → Inv i env st → ∃ d, s.at st i = some (some d) ∧ Wd (step d env st) (Turn (Inv (i + 1)) P)) (hd : ∀ env st, Inv m env st → s.at st m = some none ∧ P (.next env) st) :
    ∀ (n i : Nat) (env : Env) (st : Sto), i + n = m + 1 → i ≤ m → Inv i env st → Wd (forLoop s step n i env st) P
  | 0, i, env, st, e, hi, _ => by omega
  | n + 1, i, env, st, e, hi, h => by
    rw [forLoop]
    by_cases hm : i < m
    · obtain ⟨d, h1, h2⟩ := hs i env st hm h
      rw [h1]
      simp only [Wd_bind]
      refine h2.mono fun o st1 h => ?_
      cases o with
      | next env1 => exact W_loop Inv m hs hd n (i + 1) env1 st1 (by omega) (by omega) h
      | cnt env1 => exact W_loop Inv m hs hd n (i + 1) env1 st1 (by omega) (by omega) h
      | brk env1 => exact h
      | ret d => exact h
    · have : i = m := by omega
      subst this
      obtain ⟨h1, h2⟩ := hd env st h
      rw [h1]
      exact h2
theorem W_for_fix {ds : List D} {env : Env} {st : Sto} (Inv : Nat → Env → Sto → Prop) (h0 : Inv 0 env st) (hs : ∀ i d env st, ds[i]? = some d → Inv i env st → Wd (step d env st) (Turn (Inv (i + 1)) P)) (hd : ∀ env st, Inv ds.length env st → P (.next env) st) :
    Wd (forLoop (.fix ds) step ((Src.fix ds).len st + 1) 0 env st) P := by
  refine W_loop Inv ds.length (fun i env st hi h => ?_) (fun env st h => ?_) _ 0 env st (by simp [Src.len]) (Nat.zero_le _) h0
  · refine ⟨ds[i], ?_, hs i ds[i] env st (List.getElem?_eq_getElem hi) h⟩
    rw [Src.at, if_pos (by omega), List.getElem?_eq_getElem hi]
  · refine ⟨?_, hd env st h⟩
    rw [Src.at, if_pos (Nat.le_refl _), List.getElem?_eq_none (Nat.le_refl _)]
theorem W_for_live {r : Nat} {ds : List D} {env : Env} {st : Sto} (Inv : Nat → Env → Sto → Prop) (h0 : Inv 0 env st) (hl : ∀ i env st, Inv i env st → st[r]? = some (.lst ds)) (hs : ∀ i d env st, ds[i]? = some d → Inv i env st → Wd (step d env st) (Turn (Inv (i + 1)) P)) (hd : ∀ env st, Inv ds.length env st → P (.next env) st) :
    Wd (forLoop (.live r) step ((Src.live r).len st + 1) 0 env st) P := by
  refine W_loop Inv ds.length (fun i env st hi h => ?_) (fun env st h => ?_) _ 0 env st ?_ (Nat.zero_le _) h0
  · refine ⟨ds[i], ?_, hs i ds[i] env st (List.getElem?_eq_getElem hi) h⟩
    rw [Src.at, hl i env st h]
    simp only []
    rw [if_pos (by omega), List.getElem?_eq_getElem hi]
  · refine ⟨?_, hd env st h⟩
    rw [Src.at, hl _ env st h]
    simp only []
    rw [if_pos (Nat.le_refl _), List.getElem?_eq_none (Nat.le_refl _)]
  · rw [Src.len, hl 0 env st h0]; simp
theorem W_for_enum {s : Src} {ds : List D} {env : Env} {st : Sto} (Inv : Nat → Env → Sto → Prop) (h0 : Inv 0 env st) (hl : ∀ i env st, i ≤ ds.length → Inv i env st → s.at st i = some ds[i]?) (hlen : s.len st = ds.length) (hs : ∀ i d env st, ds[i]? = some d → Inv i env st → Wd (step (.tup [.int (i : Int), d]) env st) (Turn (Inv (i + 1)) P)) (hd : ∀ env st, Inv ds.length env st → P (.next env) st) :
    Wd (forLoop (.enum s) step ((Src.enum s).len st + 1) 0 env st) P := by
  refine W_loop Inv ds.length (fun i env st hi h => ?_) (fun env st h => ?_) _ 0 env st (by rw [Src.len, hlen]; omega) (Nat.zero_le _) h0
  · refine ⟨.tup [.int (i : Int), ds[i]], ?_, hs i ds[i] env st (List.getElem?_eq_getElem hi) h⟩
    rw [Src.at, hl i env st (by omega) h, List.getElem?_eq_getElem hi]
  · refine ⟨?_, hd env st h⟩
    rw [Src.at, hl _ env st (Nat.le_refl _) h, List.getElem?_eq_none (Nat.le_refl _)]
end
section
variable {step : D → Sto → Res (Option D)} {P : D → Sto → Prop} {s : Src}
/-- a turn of a comprehension -/
def LTurn (Inv : List D → Sto → Prop) (acc : List D) : Option D → Sto → Prop
  | none, st => Inv acc st
  | some y, st => acc.length < sizeLine ∧ Inv (acc ++ [y]) st
theorem W_lcl (Inv : Nat → List D → Sto → Prop) (m : Nat) (hs : ∀ i acc st, i < m → Inv i acc st → ∃ d, s.at st i = some (some d) ∧ Wd (step d st) (LTurn (Inv (i + 1)) acc)) (hd : ∀ acc st, Inv m acc st → s.at st m = some none ∧ P (.ref st.length) (st ++ [.lst acc])) :
    ∀ (n i : Nat) (acc : List D) (st : Sto), i + n = m + 1 → i ≤ m → Inv i acc st → Wd (lcLoop s step n i acc st) P
  | 0, i, acc, st, e, hi, _ => by omega
  | n + 1, i, acc, st, e, hi, h => by
    rw [lcLoop]
    by_cases hm : i < m
    · obtain ⟨d, h1, h2⟩ := hs i acc st hm h
      rw [h1]
      simp only [Wd_bind]
      refine h2.mono fun o st1 h => ?_
      cases o with
      | none => exact W_lcl Inv m hs hd n (i + 1) acc st1 (by omega) (by omega) h
      | some y =>
        simp only []
        rw [if_pos h.1]
        exact W_lcl Inv m hs hd n (i + 1) _ st1 (by omega) (by omega) h.2
    · have : i = m := by omega
      subst this
      obtain ⟨h1, h2⟩ := hd acc st h
      rw [h1]
      exact h2
theorem W_lc_fix {ds : List D} {st : Sto} (Inv : Nat → List D → Sto → Prop) (h0 : Inv 0 [] st) (hs : ∀ i d acc st, ds[i]? = some d → Inv i acc st → Wd (step d st) (LTurn (Inv (i + 1)) acc)) (hd : ∀ acc st, Inv ds.length acc st → P (.ref st.length) (st ++ [.lst acc])) :
    Wd (lcLoop (.fix ds) step ((Src.fix ds).len st + 1) 0 [] st) P := by
  refine W_lcl Inv ds.length (fun i env st hi h => ?_) (fun env st h => ?_) _ 0 [] st (by simp [Src.len]) (Nat.zero_le _) h0
  · refine ⟨ds[i], ?_, hs i ds[i] env st (List.getElem?_eq_getElem hi) h⟩
    rw [Src.at, if_pos (by omega), List.getElem?_eq_getElem hi]
  · refine ⟨?_, hd env st h⟩
    rw [Src.at, if_pos (Nat.le_refl _), List.getElem?_eq_none (Nat.le_refl _)]
theorem W_lc_live {r : Nat} {ds : List D} {st : Sto} (Inv : Nat → List D → Sto → Prop) (h0 : Inv 0 [] st) (hl : ∀ i acc st, Inv i acc st → st[r]? = some (.lst ds)) (hs : ∀ i d acc st, ds[i]? = some d → Inv i acc st → Wd (step d st) (LTurn (Inv (i + 1)) acc)) (hd : ∀ acc st, Inv ds.length acc st → P (.ref st.length) (st ++ [.lst acc])) :
    Wd (lcLoop (.live r) step ((Src.live r).len st + 1) 0 [] st) P := by
  refine W_lcl Inv ds.length (fun i env st hi h => ?_) (fun env st h => ?_) _ 0 [] st ?_ (Nat.zero_le _) h0
  · refine ⟨ds[i], ?_, hs i ds[i] env st (List.getElem?_eq_getElem hi) h⟩
    rw [Src.at, hl i env st h]
    simp only []
    rw [if_pos (by omega), List.getElem?_eq_getElem hi]
  · refine ⟨?_, hd env st h⟩
    rw [Src.at, hl _ env st h]
    simp only []
    rw [if_pos (Nat.le_refl _), List.getElem?_eq_none (Nat.le_refl _)]
  · rw [Src.len, hl 0 [] st h0]; simp
end

/-! ### operations -/
section
variable {st : Sto} {P : D → Sto → Prop} {Q : Sto → Prop} {i j : Int} {x y : Str} {r : Nat}
theorem X_add : Wd (binD .add (.int i) (.int j) st) P ↔ P (.int (i + j)) st := Iff.rfl
theorem X_sub : Wd (binD .sub (.int i) (.int j) st) P ↔ P (.int (i - j)) st := Iff.rfl
theorem X_mul : Wd (binD .mul (.int i) (.int j) st) P ↔ (small64 i || small64 j) = true ∧ P (.int (i * j)) st := by
  unfold binD; simp only []; rw [Wd_ite]
  constructor
  · intro h; split at h
    · rename_i e; exact ⟨e, h⟩
    · exact h.elim
  · intro ⟨e, h⟩; rw [if_pos e]; exact h
theorem X_fdiv : Wd (binD .fdiv (.int i) (.int j) st) P ↔ (0 < j ∧ j < 1073741824) ∧ P (.int (i / j)) st := by
  unfold binD; simp only [Bool.and_eq_true, decide_eq_true_eq]; rw [Wd_ite]
  constructor
  · intro h; split at h
    · rename_i e; exact ⟨e, h⟩
    · exact h.elim
  · intro ⟨e, h⟩; rw [if_pos e]; exact h
theorem X_md : Wd (binD .md (.int i) (.int j) st) P ↔ 0 < j ∧ P (.int (i % j)) st := by
  unfold binD; simp only [decide_eq_true_eq]; rw [Wd_ite]
  constructor
  · intro h; split at h
    · rename_i e; exact ⟨e, h⟩
    · exact h.elim
  · intro ⟨e, h⟩; rw [if_pos e]; exact h
theorem X_addT {xs ys : List D} : Wd (binD .add (.tup xs) (.tup ys) st) P ↔ xs.length + ys.length ≤ sizeLine ∧ P (.tup (xs ++ ys)) st := by
  unfold binD; simp only []; rw [Wd_ite]
  constructor
  · intro h; split at h
    · rename_i e; exact ⟨e, h⟩
    · exact h.elim
  · intro ⟨e, h⟩; rw [if_pos e]; exact h
theorem X_addL {r' : Nat} : Wd (binD .add (.ref r) (.ref r') st) P ↔ ∃ xs, st[r]? = some (.lst xs) ∧ ∃ ys, st[r']? = some (.lst ys) ∧ xs.length + ys.length ≤ sizeLine ∧ P (.ref st.length) (st ++ [.lst (xs ++ ys)]) := by
  unfold binD; simp only []
  constructor
  · intro h; split at h
    · rename_i e1 e2
      rw [Wd_ite] at h
      split at h
      · rename_i e; exact ⟨_, e1, _, e2, e, h⟩
      · exact h.elim
    · exact h.elim
  · intro ⟨xs, e1, ys, e2, e, h⟩
    rw [e1, e2]; simp only []; rw [if_pos e]; exact h
theorem X_int : Wd (bltD .int [.int i] st) P ↔ P (.int i) st := Iff.rfl
theorem X_intB {b : Bool} : Wd (bltD .int [.bl b] st) P ↔ P (.int (if b then 1 else 0)) st := Iff.rfl
theorem X_abs : Wd (bltD .abs [.int i] st) P ↔ P (.int (if i < 0 then -i else i)) st := Iff.rfl
theorem X_lenT {xs : List D} : Wd (bltD .len [.tup xs] st) P ↔ P (.int xs.length) st := Iff.rfl
theorem X_lenS {xs : List D} : Wd (bltD .len [.scr xs] st) P ↔ P (.int xs.length) st := Iff.rfl
theorem X_lenR : Wd (bltD .len [.ref r] st) P ↔ ∃ xs, st[r]? = some (.lst xs) ∧ P (.int xs.length) st := by
  unfold bltD; simp only []
  constructor
  · intro h; split at h
    · rename_i e; exact ⟨_, e, h⟩
    · exact h.elim
  · intro ⟨xs, e, h⟩; rw [e]; exact h
theorem X_tupR : Wd (bltD .tuple [.ref r] st) P ↔ ∃ xs, st[r]? = some (.lst xs) ∧ P (.tup xs) st := by
  unfold bltD; simp only []
  constructor
  · intro h; split at h
    · rename_i e; exact ⟨_, e, h⟩
    · exact h.elim
  · intro ⟨xs, e, h⟩; rw [e]; exact h
theorem X_idxT {xs : List D} : Wd (idxD (.tup xs) (.int i) st) P ↔ ∃ d, L2.atI xs i = some d ∧ P d st := Wd_lift
theorem X_idxS {xs : List D} : Wd (idxD (.scr xs) (.int i) st) P ↔ ∃ d, L2.atI xs i = some d ∧ P d st := Wd_lift
theorem X_idxR : Wd (idxD (.ref r) (.int i) st) P ↔ (∃ xs, st[r]? = some (.lst xs) ∧ ∃ d, L2.atI xs i = some d ∧ P d st) ∨ ∃ kvs, st[r]? = some (.dct kvs) ∧ ∃ d, getKV kvs (.inl i) = some d ∧ P d st := by
  unfold idxD; simp only []
  constructor
  · intro h; split at h
    · rename_i e1 e2; cases e2; exact .inl ⟨_, e1, Wd_lift.mp h⟩
    · rename_i e1; simp only [keyD] at h; exact .inr ⟨_, e1, Wd_lift.mp h⟩
    · exact h.elim
  · intro h
    rcases h with ⟨xs, e, h⟩ | ⟨kvs, e, h⟩
    · rw [e]; exact Wd_lift.mpr h
    · rw [e]; simp only [keyD]; exact Wd_lift.mpr h
theorem X_idxK : Wd (idxD (.ref r) (.str x) st) P ↔ ∃ kvs, st[r]? = some (.dct kvs) ∧ ∃ d, getKV kvs (.inr x) = some d ∧ P d st := by
  unfold idxD; simp only []
  constructor
  · intro h; split at h
    · rename_i e1 e2; cases e2
    · rename_i e1; simp only [keyD] at h; exact ⟨_, e1, Wd_lift.mp h⟩
    · exact h.elim
  · intro ⟨kvs, e, h⟩
    rw [e]; simp only [keyD]; exact Wd_lift.mpr h
theorem X_slT {xs : List D} {lo hi : D} : Wd (slD (.tup xs) lo hi st) P ↔ ∃ l, partD lo = some l ∧ ∃ h, partD hi = some h ∧ P (.tup (cutD xs l h)) st := by
  unfold slD
  constructor
  · intro h; split at h
    · rename_i e1 e2 e3; cases e3; exact ⟨_, e1, _, e2, h⟩
    · rename_i e3; cases e3
    · rename_i e3; cases e3
    · rename_i e3; cases e3
    · exact h.elim
  · intro ⟨l, e1, u, e2, h⟩; rw [e1, e2]; exact h
theorem X_slS {xs : List D} {lo hi : D} : Wd (slD (.scr xs) lo hi st) P ↔ ∃ l, partD lo = some l ∧ ∃ h, partD hi = some h ∧ P (.ref st.length) (st ++ [.lst (cutD xs l h)]) := by
  unfold slD
  constructor
  · intro h; split at h
    · rename_i e3; cases e3
    · rename_i e1 e2 e3; cases e3; exact ⟨_, e1, _, e2, h⟩
    · rename_i e3; cases e3
    · rename_i e3; cases e3
    · exact h.elim
  · intro ⟨l, e1, u, e2, h⟩; rw [e1, e2]; exact h
theorem X_setI {v : D} : (∃ st3, setD (.ref r) (.int i) v st = some st3 ∧ Q st3) ↔ (∃ xs, st[r]? = some (.lst xs) ∧ ∃ j, L2.ixN xs.length i = some j ∧ Q (st.set r (.lst (xs.set j v)))) ∨ ∃ kvs, st[r]? = some (.dct kvs) ∧ kvs.length < sizeLine ∧ Q (st.set r (.dct (putKV kvs (.inl i) v))) := by
  unfold setD; simp only []
  constructor
  · intro ⟨st3, e, h⟩
    split at e
    · rename_i e1 e2; cases e2
      obtain ⟨j, e4, rfl⟩ := Option.map_eq_some_iff.mp e
      exact .inl ⟨_, e1, j, e4, h⟩
    · rename_i e1; simp only [keyD] at e
      split at e
      · rename_i hl; cases e; exact .inr ⟨_, e1, hl, h⟩
      · cases e
    · cases e
  · intro h
    rcases h with ⟨xs, e, j, e2, h⟩ | ⟨kvs, e, hl, h⟩
    · rw [e]; simp only [e2, Option.map_some]; exact ⟨_, rfl, h⟩
    · rw [e]; simp only [keyD, hl, if_true]; exact ⟨_, rfl, h⟩
theorem X_setK {v : D} : (∃ st3, setD (.ref r) (.str x) v st = some st3 ∧ Q st3) ↔ ∃ kvs, st[r]? = some (.dct kvs) ∧ kvs.length < sizeLine ∧ Q (st.set r (.dct (putKV kvs (.inr x) v))) := by
  unfold setD; simp only []
  constructor
  · intro ⟨st3, e, h⟩
    split at e
    · rename_i e1 e2; cases e2
    · rename_i e1; simp only [keyD] at e
      split at e
      · rename_i hl; cases e; exact ⟨_, e1, hl, h⟩
      · cases e
    · cases e
  · intro ⟨kvs, e, hl, h⟩
    rw [e]; simp only [keyD, hl, if_true]; exact ⟨_, rfl, h⟩
theorem X_isLst {xs : List D} (h : st[r]? = some (.lst xs)) : isLst (.ref r) st = true := by unfold isLst; simp only [h]
theorem X_append {xs : List D} {d : D} (h : st[r]? = some (.lst xs)) (hl : xs.length < sizeLine) : Wd (methD .append (.ref r) [d] st) P ↔ P .non (st.set r (.lst (xs ++ [d]))) := by
  unfold methD; simp only [h, if_pos hl]; exact Iff.rfl
theorem X_pop0 {xs : List D} {d : D} (h : st[r]? = some (.lst (xs ++ [d]))) : Wd (methD .pop0 (.ref r) [] st) P ↔ P d (st.set r (.lst xs)) := by
  unfold methD; simp only [h]
  have : (xs ++ [d])[(xs ++ [d]).length - 1]? = some d := by simp
  rw [this]; simp only [List.dropLast_concat]; exact Iff.rfl
theorem X_popF {xs : List D} {d : D} (h : st[r]? = some (.lst (d :: xs))) : Wd (methD .popAt (.ref r) [.int 0] st) P ↔ P d (st.set r (.lst xs)) := by
  unfold methD; simp only [h]
  have e : seqIndex? 0 (d :: xs).length = some 0 := by unfold seqIndex?; simp
  rw [e]; exact Iff.rfl
theorem X_insF {xs : List D} {d : D} (h : st[r]? = some (.lst xs)) (hl : xs.length < sizeLine) : Wd (methD .insert (.ref r) [.int 0, d] st) P ↔ P .non (st.set r (.lst (d :: xs))) := by
  unfold methD; simp only [h]
  rw [if_pos (by simp [hl])]
  exact Iff.rfl
theorem X_extend {xs ys : List D} {q : Nat} (h : st[r]? = some (.lst xs)) (h2 : st[q]? = some (.lst ys)) (hl : xs.length + ys.length ≤ sizeLine) : Wd (methD .extend (.ref r) [.ref q] st) P ↔ P .non (st.set r (.lst (xs ++ ys))) := by
  unfold methD; simp only [h, h2, if_pos hl]; exact Iff.rfl
theorem C_lt : cmpD .lt (.int i) (.int j) st = some (decide (i < j)) := rfl
theorem C_le : cmpD .le (.int i) (.int j) st = some (decide (i ≤ j)) := rfl
theorem C_gt : cmpD .gt (.int i) (.int j) st = some (decide (j < i)) := rfl
theorem C_ge : cmpD .ge (.int i) (.int j) st = some (decide (j ≤ i)) := rfl
theorem C_eqI : cmpD .eq (.int i) (.int j) st = some (decide (i = j)) := rfl
theorem C_neI : cmpD .ne (.int i) (.int j) st = some (!decide (i = j)) := rfl
theorem C_eqS : cmpD .eq (.str x) (.str y) st = some (decide (x = y)) := rfl
theorem C_neS : cmpD .ne (.str x) (.str y) st = some (!decide (x = y)) := rfl
theorem C_rep {p q : PyData} (h : same p q = true) : cmpD .eq (.rep p) (.rep q) st = some true ∧ cmpD .ne (.rep p) (.rep q) st = some false := by
  constructor
  · show eqD st (.rep p) (.rep q) = _
    unfold eqD; simp only [h, if_true]
  · show (eqD st (.rep p) (.rep q)).map _ = _
    unfold eqD; simp only [h, if_true]; rfl
theorem toPys_ints {n : Nat} : ∀ ns : List Int, optMap (toPy st n) (ns.map D.int) = some (ns.map PyData.int)
  | [] => rfl
  | k :: ns => by rw [List.map_cons, optMap, toPys_ints ns]; cases n <;> rfl
theorem lay_ints : ∀ ns : List Int, PyData.canLayAll0 (ns.map PyData.int) = true
  | [] => rfl
  | k :: ns => by rw [List.map_cons, PyData.canLayAll0, lay_ints ns]; rfl
/-- a list of ints against the empty list -/
theorem C_neNil {ns : List Int} {q : Nat} (h : st[r]? = some (.lst (ns.map .int))) (h2 : st[q]? = some (.lst [])) : cmpD .ne (.ref r) (.ref q) st = some (!ns.isEmpty) := by
  show (eqD st (.ref r) (.ref q)).map _ = _
  have e1 : toPy st 60 (.ref r) = some (.list (ns.map .int)) := by rw [toPy, h]; simp only [toPys_ints, Option.map_some]
  have e2 : toPy st 60 (.ref q) = some (.list []) := by rw [toPy, h2]; rfl
  unfold eqD; simp only [e1, e2]
  have l1 : (PyData.list (ns.map .int)).canLay0 = true := by rw [PyData.canLay0]; exact lay_ints ns
  have l2 : (PyData.list []).canLay0 = true := rfl
  rw [l1, l2]
  cases ns with
  | nil => rfl
  | cons k ns => rfl
theorem get_app {o : Ob} {l : Sto} (h : st[r]? = some o) : (st ++ l)[r]? = some o := by
  rw [List.getElem?_append_left (List.getElem?_eq_some_iff.mp h).1]; exact h
theorem get_new {o : Ob} {l : Sto} : (st ++ o :: l)[st.length]? = some o := by
  rw [List.getElem?_append_right (Nat.le_refl _)]; simp
theorem get_set_self {o o' : Ob} (h : st[r]? = some o) : (st.set r o')[r]? = some o' := List.getElem?_set_self (List.getElem?_eq_some_iff.mp h).1
theorem get_set_ne {o o' : Ob} {q : Nat} (hn : q ≠ r) (h : st[r]? = some o) : (st.set q o')[r]? = some o := by rw [List.getElem?_set_ne hn]; exact h
end
end PL

set_option Elab.async false
set_option linter.all false
set_option maxRecDepth 100000
set_option maxHeartbeats 4000000
/-! PLV: books, as twelve words. -/
namespace PL
open PySem

def dom (i : Nat) : List Str := match i with
  | 0 => ["none", "perhaps", "sure"] | 1 => ["none", "perhaps", "sure"] | 2 => ["marked", "unraised", "never"] | 3 => ["answer", "check", "work"] | 4 => ["answer", "check", "work"] | 5 => ["values", "mark"] | 6 => ["none", "sure"]
  | 7 => ["first", "last", "between"] | 8 => ["ahead", "behind", "unless"] | 9 => ["ahead", "behind"] | 10 => ["struck", "kept"] | _ => ["one", "any"]
def bk (w : Nat → Str) : D := .tup [.str (w 0), .str (w 1), .str (w 2), .str (w 3), .str (w 4), .str (w 5), .str (w 6), .str (w 7), .str (w 8), .str (w 9), .str (w 10), .str (w 11)]
def pb (w : Nat → Str) : PyData := .tuple [.str (w 0), .str (w 1), .str (w 2), .str (w 3), .str (w 4), .str (w 5), .str (w 6), .str (w 7), .str (w 8), .str (w 9), .str (w 10), .str (w 11)]
def Gd (w : Nat → Str) : Prop := ∀ i, w i ∈ dom i
theorem Gd.set {w : Nat → Str} (h : Gd w) {i : Nat} {x : Str} (hx : x ∈ dom i) : Gd (setW w i x) := by
  intro j; unfold setW; split
  · rename_i e; rw [e]; exact hx
  · exact h j
theorem dom_out : ∀ {i : Nat}, 12 ≤ i → dom i = (["one", "any"] : List Str)
  | 0, h => by omega | 1, h => by omega | 2, h => by omega | 3, h => by omega | 4, h => by omega | 5, h => by omega | 6, h => by omega | 7, h => by omega | 8, h => by omega | 9, h => by omega | 10, h => by omega
  | _ + 11, _ => rfl
def domB (p : Str → Bool) : Bool := (List.range 12).all fun i => (dom i).all p
theorem domB_of {p : Str → Bool} (h : domB p = true) {i : Nat} {x : Str} (hx : x ∈ dom i) : p x = true := by
  unfold domB at h
  rw [List.all_eq_true] at h
  by_cases hi : i < 12
  · have := h i (List.mem_range.mpr hi)
    rw [List.all_eq_true] at this
    exact this x hx
  · rw [dom_out (by omega)] at hx
    have := h 11 (by simp)
    rw [List.all_eq_true] at this
    exact this x hx
theorem dom_ok : domB (fun x => PyData.canLay0 (.str x) && decide (x.length ≤ 8)) = true := by decide +kernel
theorem Gd.ok {w : Nat → Str} (h : Gd w) (i : Nat) : PyData.canLay0 (.str (w i)) = true ∧ (w i).length ≤ 8 := by
  have := domB_of dom_ok (h i)
  simpa only [Bool.and_eq_true, decide_eq_true_eq] using this
theorem grd_bk {w : Nat → Str} : ground (bk w) = true := rfl
theorem same_bk {w : Nat → Str} : same (pb w) (pb w) = true := by simp [pb, same, sameAll]
theorem toPy_bk {w : Nat → Str} {st : Sto} : toPy st 60 (bk w) = some (pb w) := rfl
theorem repr_bk {w : Nat → Str} (h : Gd w) {st : Sto} : bltD .repr [bk w] st = .ok (.rep (pb w)) st := by
  unfold bltD
  simp only [toPy_bk]
  have l : (pb w).canLay0 = true := by
    unfold pb
    simp only [PyData.canLay0, PyData.canLayAll0, Bool.and_eq_true, Bool.and_true]
    have o := fun i => by have := (h.ok i).1; rw [PyData.canLay0] at this; exact this
    exact ⟨o 0, o 1, o 2, o 3, o 4, o 5, o 6, o 7, o 8, o 9, o 10, o 11⟩
  have s : (pb w).showable = true := rfl
  have c : showCost (pb w) ≤ sizeLine := by
    unfold pb
    simp only [showCost, showCost.costAll]
    have o := fun i => (h.ok i).2
    have := o 0; have := o 1; have := o 2; have := o 3; have := o 4; have := o 5; have := o 6; have := o 7; have := o 8; have := o 9; have := o 10; have := o 11
    have : 2000 ≤ sizeLine := by decide
    omega
  rw [l, s, if_pos (by simp [c])]
/-- a book of a list of words -/
def wOf (ws : List Str) (i : Nat) : Str := match ws[i]? with | some x => x | none => "one"
theorem wOf_gd {ws : List Str} (hl : ws.length = 12) (h : ∀ i x, ws[i]? = some x → x ∈ dom i) : Gd (wOf ws) := by
  intro i; unfold wOf; split
  · rename_i e; exact h i _ e
  · rename_i e
    have : 12 ≤ i := by rw [← hl]; exact List.getElem?_eq_none_iff.mp e
    rw [dom_out this]; simp
theorem bk_wOf {ws : List Str} (hl : ws.length = 12) : D.tup (ws.map .str) = bk (wOf ws) := by
  match ws, hl with
  | [a, b, c, d, e, f, g, h, i, j, k, l], _ => rfl
theorem bk_at {w : Nat → Str} {i : Nat} (hi : i < 12) : L2.atI [D.str (w 0), .str (w 1), .str (w 2), .str (w 3), .str (w 4), .str (w 5), .str (w 6), .str (w 7), .str (w 8), .str (w 9), .str (w 10), .str (w 11)] (i : Int) = some (.str (w i)) := by
  match i, hi with
  | 0, _ => rfl | 1, _ => rfl | 2, _ => rfl | 3, _ => rfl | 4, _ => rfl | 5, _ => rfl | 6, _ => rfl | 7, _ => rfl | 8, _ => rfl | 9, _ => rfl | 10, _ => rfl | 11, _ => rfl
  | n + 12, h => omega
/-- by pure defs -/
theorem W_pure {Pf : List Fn} {G : List D} {C : Nat → Option (List D → Sto → Res D)} {n f : Nat} {ds : List D} {st st' : Sto} {d : D} {P : D → Sto → Prop} {m : List D → Sto → Res D} (hC : C f = some (pureC m)) (h : m ds [] = .ok d st') (hg : grounds ds = true) (hd : ground d = true) (k : P d st) :
    Wd (runC Pf G C n f ds st) P := W_con hC (by rw [pureC_ok hg h hd]; exact k)
end PL

set_option Elab.async false
set_option linter.all false
set_option maxRecDepth 100000
set_option maxHeartbeats 0
namespace K66
open PySem PySem.Spec PyProof.Rows L2
def top (i : Nat) : Stmt := PySem.Challenge.pw_keptmarks_k66_whole_numbers_of_books.main.body.getD i (.Pass ⟨0, 0, 0, 0⟩)
/-- can_stand -/
def n0 : List Str := ["book", "readers", "further", "change", "found"]
def f0 : PL.Fn := ⟨1, 5, (.cons (.par [1, 2, 3] (.cons (.idx (.var 0) (.cI 0)) (.cons (.idx (.var 0) (.cI 1)) (.cons (.idx (.var 0) (.cI 6)) .nil))))
    (.cons (.asg (.name 4) (.ife (.vc .isin (.cS ⟨#[112, 101, 114, 104, 97, 112, 115]⟩) (.tup (.cons (.var 1) (.cons (.var 2) .nil)))) (.lst (.cons (.cI 1) .nil)) (.lst .nil)))
    (.cons (.ret (.ife (.vc .isin (.cS ⟨#[115, 117, 114, 101]⟩) (.tup (.cons (.var 1) (.cons (.var 2) (.cons (.var 3) .nil))))) (.blt .tuple (.cons (.bin .add (.var 4) (.lst (.cons (.cI 2) .nil))) .nil)) (.blt .tuple (.cons (.var 4) .nil))))
    .nil)))⟩
/-- is_checked_by_mark -/
def n1 : List Str := ["book", "mark"]
def f1 : PL.Fn := ⟨2, 2, (.cons (.ret (.and2 (.cmp .isin (.var 1) (.call 0 (.cons (.var 0) .nil))) (.and2 (.cmp .eq (.idx (.var 0) (.bin .add (.cI 2) (.var 1))) (.cS ⟨#[99, 104, 101, 99, 107]⟩)) (.and1 (.cmp .eq (.idx (.var 0) (.cI 5)) (.cS ⟨#[109, 97, 114, 107]⟩))))))
    .nil)⟩
/-- is_left_marked -/
def n2 : List Str := ["book"]
def f2 : PL.Fn := ⟨1, 1, (.cons (.ite (.or2 (.vc .eq (.idx (.var 0) (.cI 6)) (.cS ⟨#[110, 111, 110, 101]⟩)) (.or1 (.vc .eq (.idx (.var 0) (.cI 2)) (.cS ⟨#[110, 101, 118, 101, 114]⟩)))) (.cons (.ret (.cB false))
    .nil) .nil)
    (.cons (.ite (.vc .eq (.idx (.var 0) (.cI 8)) (.cS ⟨#[97, 104, 101, 97, 100]⟩)) (.cons (.ret (.cmp .eq (.idx (.var 0) (.cI 9)) (.cS ⟨#[98, 101, 104, 105, 110, 100]⟩)))
    .nil) .nil)
    (.cons (.ret (.or2 (.cmp .eq (.idx (.var 0) (.cI 8)) (.cS ⟨#[117, 110, 108, 101, 115, 115]⟩)) (.or1 (.cmp .eq (.idx (.var 0) (.cI 10)) (.cS ⟨#[107, 101, 112, 116]⟩)))))
    .nil)))⟩
/-- slip_alone -/
def n3 : List Str := ["book", "mark"]
def f3 : PL.Fn := ⟨1, 2, (.cons (.ite (.vc .isin (.cS ⟨#[110, 111, 110, 101]⟩) (.sl (.var 0) .cN (.cI 2))) (.cons (.ret (.cI 1))
    .nil) .nil)
    (.cons (.ite (.vc .isin (.cS ⟨#[97, 110, 115, 119, 101, 114]⟩) (.lc [1] (.idx (.var 0) (.bin .add (.cI 2) (.var 1))) (.name 1) .plain (.cons (.call 0 (.cons (.var 0) .nil)) .nil) .yes)) (.cons (.ret (.cI 2))
    .nil) .nil)
    (.cons (.ite (.and2 (.val (.call 1 (.cons (.var 0) (.cons (.cI 1) .nil)))) (.and1 (.or2 (.vc .ne (.idx (.var 0) (.cI 0)) (.cS ⟨#[115, 117, 114, 101]⟩)) (.or1 (.vc .ne (.idx (.var 0) (.cI 6)) (.cS ⟨#[115, 117, 114, 101]⟩)))))) (.cons (.ret (.cI 3))
    .nil) .nil)
    (.cons (.ite (.and2 (.val (.call 1 (.cons (.var 0) (.cons (.cI 2) .nil)))) (.and1 (.vc .eq (.idx (.var 0) (.cI 8)) (.cS ⟨#[97, 104, 101, 97, 100]⟩)))) (.cons (.ret (.cI 4))
    .nil) .nil)
    (.cons (.ret (.ife (.val (.call 2 (.cons (.var 0) .nil))) (.cI 5) .cN))
    .nil)))))⟩
/-- slip -/
def n4 : List Str := ["book", "number"]
def f4 : PL.Fn := ⟨1, 2, (.cons (.asg (.name 1) (.call 3 (.cons (.var 0) .nil)))
    (.cons (.ite (.and2 (.vc .isnn (.var 1) .cN) (.and1 (.vc .lt (.var 1) (.cI 5)))) (.cons (.ret (.var 1))
    .nil) .nil)
    (.cons (.ite (.vc .eq (.idx (.var 0) (.cI 7)) (.cS ⟨#[108, 97, 115, 116]⟩)) (.cons (.ret (.cI 6))
    .nil) .nil)
    (.cons (.ite (.vc .eq (.idx (.var 0) (.cI 9)) (.cS ⟨#[98, 101, 104, 105, 110, 100]⟩)) (.cons (.ret (.cI 7))
    .nil) .nil)
    (.cons (.ite (.vc .eq (.idx (.var 0) (.cI 11)) (.cS ⟨#[97, 110, 121]⟩)) (.cons (.ret (.cI 8))
    .nil) .nil)
    (.cons (.ite (.or2 (.vc .eq (.idx (.var 0) (.cI 8)) (.cS ⟨#[98, 101, 104, 105, 110, 100]⟩)) (.or1 (.and2 (.vc .eq (.idx (.var 0) (.cI 8)) (.cS ⟨#[117, 110, 108, 101, 115, 115]⟩)) (.and1 (.vc .ne (.idx (.var 0) (.cI 2)) (.cS ⟨#[110, 101, 118, 101, 114]⟩)))))) (.cons (.ret (.cI 9))
    .nil) .nil)
    (.cons (.ret .cN)
    .nil)))))))⟩
/-- safe -/
def n5 : List Str := ["book"]
def f5 : PL.Fn := ⟨1, 1, (.cons (.ret (.cmp .isn (.call 4 (.cons (.var 0) .nil)) .cN))
    .nil)⟩
/-- _law_deck -/
def n6 : List Str := ["script", "cells", "stir", "cell"]
def f6 : PL.Fn := ⟨1, 4, (.cons (.par [1, 2] (.cons (.lc [3] (.bin .add (.bin .mul (.cI 2) (.blt .abs (.cons (.var 3) .nil))) (.blt .int (.cons (.cmp .lt (.var 3) (.cI 0)) .nil))) (.name 3) .plain (.cons (.sl (.var 0) .cN (.cI 63)) .nil) .yes) (.cons (.bin .add (.cI 66011) (.blt .len (.cons (.var 0) .nil))) .nil)))
    (.cons (.for_ (.name 3) .plain (.cons (.var 1) .nil) (.cons (.asg (.name 2) (.bin .md (.blt .int (.cons (.bin .add (.bin .add (.bin .mul (.var 2) (.cI 16807)) (.var 3)) (.cI 5)) .nil)) (.cI 4294967291)))
    .nil))
    (.cons (.ret (.lst (.cons (.lc [3] (.var 3) (.name 3) .plain (.cons (.var 1) .nil) (.vc .ge (.var 3) (.bin .pow (.cI 10) (.cI 15)))) (.cons (.var 2) (.cons (.cI 0) .nil)))))
    .nil)))⟩
/-- _law_draw -/
def n7 : List Str := ["deck", "many", "cell", "found"]
def f7 : PL.Fn := ⟨2, 4, (.cons (.ite (.vc .lt (.var 1) (.cI 2)) (.cons (.ret (.cI 0))
    .nil) .nil)
    (.cons (.ite (.vc .ne (.idx (.var 0) (.cI 0)) (.lst .nil)) (.cons (.asg (.name 2) (.meth .pop0 (.idx (.var 0) (.cI 0)) .nil))
    (.cons (.ite (.vc .ge (.var 2) (.var 1)) (.cons (.exp (.meth .append (.idx (.var 0) (.cI 0)) (.cons (.bin .fdiv (.var 2) (.var 1)) .nil)))
    .nil) .nil)
    (.cons (.ret (.bin .md (.blt .int (.cons (.var 2) .nil)) (.var 1)))
    .nil))) .nil)
    (.cons (.asg (.sub (.var 0) (.cI 2)) (.bin .add (.idx (.var 0) (.cI 2)) (.cI 1)))
    (.cons (.asg (.name 3) (.bin .md (.blt .int (.cons (.bin .add (.idx (.var 0) (.cI 1)) (.bin .mul (.cI 2654435761) (.idx (.var 0) (.cI 2)))) .nil)) (.cI 4294967291)))
    (.cons (.asg (.name 3) (.bin .md (.blt .int (.cons (.bin .add (.bin .add (.bin .mul (.var 3) (.var 3)) (.bin .mul (.cI 40503) (.idx (.var 0) (.cI 2)))) (.cI 11)) .nil)) (.cI 4294967279)))
    (.cons (.asg (.name 3) (.bin .md (.blt .int (.cons (.bin .add (.bin .mul (.var 3) (.var 3)) (.idx (.var 0) (.cI 1))) .nil)) (.cI 4294967231)))
    (.cons (.ret (.bin .md (.blt .int (.cons (.bin .fdiv (.var 3) (.cI 64)) .nil)) (.var 1)))
    .nil)))))))⟩
/-- _law_pick -/
def n8 : List Str := ["deck", "items"]
def f8 : PL.Fn := ⟨2, 2, (.cons (.ret (.idx (.var 1) (.call 7 (.cons (.var 0) (.cons (.blt .len (.cons (.var 1) .nil)) .nil)))))
    .nil)⟩
/-- _law_words -/
def n9 : List Str := ["three", "deeds"]
def f9 : PL.Fn := ⟨0, 2, (.cons (.asg (.tup (.cons (.name 0) (.cons (.name 1) .nil))) (.tup (.cons (.tup (.cons (.cS ⟨#[110, 111, 110, 101]⟩) (.cons (.cS ⟨#[112, 101, 114, 104, 97, 112, 115]⟩) (.cons (.cS ⟨#[115, 117, 114, 101]⟩) .nil)))) (.cons (.tup (.cons (.cS ⟨#[97, 110, 115, 119, 101, 114]⟩) (.cons (.cS ⟨#[99, 104, 101, 99, 107]⟩) (.cons (.cS ⟨#[119, 111, 114, 107]⟩) .nil)))) .nil))))
    (.cons (.ret (.lst (.cons (.tup (.cons (.cS ⟨#[114, 101, 97, 100, 101, 114, 115]⟩) (.cons (.var 0) .nil))) (.cons (.tup (.cons (.cS ⟨#[102, 117, 114, 116, 104, 101, 114]⟩) (.cons (.var 0) .nil))) (.cons (.tup (.cons (.cS ⟨#[115, 116, 111, 112]⟩) (.cons (.tup (.cons (.cS ⟨#[109, 97, 114, 107, 101, 100]⟩) (.cons (.cS ⟨#[117, 110, 114, 97, 105, 115, 101, 100]⟩) (.cons (.cS ⟨#[110, 101, 118, 101, 114]⟩) .nil)))) .nil))) (.cons (.tup (.cons (.cS ⟨#[112, 101, 114, 104, 97, 112, 115]⟩) (.cons (.var 1) .nil))) (.cons (.tup (.cons (.cS ⟨#[115, 117, 114, 101]⟩) (.cons (.var 1) .nil))) (.cons (.tup (.cons (.cS ⟨#[99, 104, 101, 99, 107]⟩) (.cons (.tup (.cons (.cS ⟨#[118, 97, 108, 117, 101, 115]⟩) (.cons (.cS ⟨#[109, 97, 114, 107]⟩) .nil))) .nil))) (.cons (.tup (.cons (.cS ⟨#[99, 104, 97, 110, 103, 101]⟩) (.cons (.tup (.cons (.cS ⟨#[110, 111, 110, 101]⟩) (.cons (.cS ⟨#[115, 117, 114, 101]⟩) .nil))) .nil))) (.cons (.tup (.cons (.cS ⟨#[119, 114, 105, 116, 101]⟩) (.cons (.tup (.cons (.cS ⟨#[102, 105, 114, 115, 116]⟩) (.cons (.cS ⟨#[108, 97, 115, 116]⟩) (.cons (.cS ⟨#[98, 101, 116, 119, 101, 101, 110]⟩) .nil)))) .nil))) (.cons (.tup (.cons (.cS ⟨#[115, 116, 114, 105, 107, 101]⟩) (.cons (.tup (.cons (.cS ⟨#[97, 104, 101, 97, 100]⟩) (.cons (.cS ⟨#[98, 101, 104, 105, 110, 100]⟩) (.cons (.cS ⟨#[117, 110, 108, 101, 115, 115]⟩) .nil)))) .nil))) (.cons (.tup (.cons (.cS ⟨#[101, 110, 116, 101, 114]⟩) (.cons (.tup (.cons (.cS ⟨#[97, 104, 101, 97, 100]⟩) (.cons (.cS ⟨#[98, 101, 104, 105, 110, 100]⟩) .nil))) .nil))) (.cons (.tup (.cons (.cS ⟨#[111, 108, 100]⟩) (.cons (.tup (.cons (.cS ⟨#[115, 116, 114, 117, 99, 107]⟩) (.cons (.cS ⟨#[107, 101, 112, 116]⟩) .nil))) .nil))) (.cons (.tup (.cons (.cS ⟨#[104, 97, 110, 100, 115]⟩) (.cons (.tup (.cons (.cS ⟨#[111, 110, 101]⟩) (.cons (.cS ⟨#[97, 110, 121]⟩) .nil))) .nil))) .nil))))))))))))))
    .nil))⟩
/-- _law_book -/
def n10 : List Str := ["deck", "name", "words"]
def f10 : PL.Fn := ⟨1, 3, (.cons (.ret (.blt .tuple (.cons (.lc [1, 2] (.call 8 (.cons (.var 0) (.cons (.var 2) .nil))) (.tup (.cons (.name 1) (.cons (.name 2) .nil))) .plain (.cons (.call 9 .nil) .nil) .yes) .nil)))
    .nil)⟩
/-- _law_safe_book -/
def n11 : List Str := ["deck", "readers", "further", "stop", "change", "check", "strike", "some", "other", "entries", "write", "old"]
def f11 : PL.Fn := ⟨1, 12, (.cons (.par [1, 2] (.cons (.call 8 (.cons (.var 0) (.cons (.lst (.cons (.cS ⟨#[112, 101, 114, 104, 97, 112, 115]⟩) (.cons (.cS ⟨#[115, 117, 114, 101]⟩) .nil))) .nil))) (.cons (.call 8 (.cons (.var 0) (.cons (.lst (.cons (.cS ⟨#[112, 101, 114, 104, 97, 112, 115]⟩) (.cons (.cS ⟨#[115, 117, 114, 101]⟩) .nil))) .nil))) .nil)))
    (.cons (.par [3, 4] (.cons (.call 8 (.cons (.var 0) (.cons (.lst (.cons (.cS ⟨#[109, 97, 114, 107, 101, 100]⟩) (.cons (.cS ⟨#[117, 110, 114, 97, 105, 115, 101, 100]⟩) (.cons (.cS ⟨#[110, 101, 118, 101, 114]⟩) .nil)))) .nil))) (.cons (.call 8 (.cons (.var 0) (.cons (.lst (.cons (.cS ⟨#[110, 111, 110, 101]⟩) (.cons (.cS ⟨#[115, 117, 114, 101]⟩) .nil))) .nil))) .nil)))
    (.cons (.par [5, 6] (.cons (.call 8 (.cons (.var 0) (.cons (.lst (.cons (.cS ⟨#[118, 97, 108, 117, 101, 115]⟩) (.cons (.cS ⟨#[109, 97, 114, 107]⟩) .nil))) .nil))) (.cons (.cS ⟨#[97, 104, 101, 97, 100]⟩) .nil)))
    (.cons (.ite (.and2 (.vc .eq (.var 3) (.cS ⟨#[110, 101, 118, 101, 114]⟩)) (.and1 (.vc .eq (.call 7 (.cons (.var 0) (.cons (.cI 2) .nil))) (.cI 0)))) (.cons (.asg (.name 6) (.cS ⟨#[117, 110, 108, 101, 115, 115]⟩))
    .nil) .nil)
    (.cons (.par [7, 8] (.cons (.lst (.cons (.cS ⟨#[99, 104, 101, 99, 107]⟩) (.cons (.cS ⟨#[119, 111, 114, 107]⟩) .nil))) (.cons (.lst (.cons (.cS ⟨#[99, 104, 101, 99, 107]⟩) (.cons (.cS ⟨#[119, 111, 114, 107]⟩) .nil))) .nil)))
    (.cons (.ite (.vc .notin (.cS ⟨#[112, 101, 114, 104, 97, 112, 115]⟩) (.tup (.cons (.var 1) (.cons (.var 2) .nil)))) (.cons (.asg (.name 7) (.lst (.cons (.cS ⟨#[97, 110, 115, 119, 101, 114]⟩) (.cons (.cS ⟨#[99, 104, 101, 99, 107]⟩) (.cons (.cS ⟨#[119, 111, 114, 107]⟩) .nil)))))
    .nil) (.cons (.ite (.and2 (.vc .eq (.var 5) (.cS ⟨#[109, 97, 114, 107]⟩)) (.and1 (.or2 (.vc .ne (.var 1) (.cS ⟨#[115, 117, 114, 101]⟩)) (.or1 (.vc .ne (.var 4) (.cS ⟨#[115, 117, 114, 101]⟩)))))) (.cons (.asg (.name 7) (.lst (.cons (.cS ⟨#[119, 111, 114, 107]⟩) .nil)))
    .nil) .nil)
    .nil))
    (.cons (.ite (.vc .notin (.cS ⟨#[115, 117, 114, 101]⟩) (.tup (.cons (.var 1) (.cons (.var 2) (.cons (.var 4) .nil))))) (.cons (.asg (.name 8) (.lst (.cons (.cS ⟨#[97, 110, 115, 119, 101, 114]⟩) (.cons (.cS ⟨#[99, 104, 101, 99, 107]⟩) (.cons (.cS ⟨#[119, 111, 114, 107]⟩) .nil)))))
    .nil) (.cons (.ite (.and2 (.vc .eq (.var 5) (.cS ⟨#[109, 97, 114, 107]⟩)) (.and1 (.vc .eq (.var 6) (.cS ⟨#[97, 104, 101, 97, 100]⟩)))) (.cons (.asg (.name 8) (.lst (.cons (.cS ⟨#[119, 111, 114, 107]⟩) .nil)))
    .nil) .nil)
    .nil))
    (.cons (.asg (.name 9) (.tup (.cons (.var 1) (.cons (.var 2) (.cons (.var 3) (.cons (.call 8 (.cons (.var 0) (.cons (.var 7) .nil))) (.cons (.call 8 (.cons (.var 0) (.cons (.var 8) .nil))) (.cons (.var 5) (.cons (.var 4) .nil)))))))))
    (.cons (.par [10, 11] (.cons (.call 8 (.cons (.var 0) (.cons (.lst (.cons (.cS ⟨#[102, 105, 114, 115, 116]⟩) (.cons (.cS ⟨#[98, 101, 116, 119, 101, 101, 110]⟩) .nil))) .nil))) (.cons (.call 8 (.cons (.var 0) (.cons (.lst (.cons (.cS ⟨#[115, 116, 114, 117, 99, 107]⟩) (.cons (.cS ⟨#[107, 101, 112, 116]⟩) .nil))) .nil))) .nil)))
    (.cons (.ret (.bin .add (.var 9) (.tup (.cons (.var 10) (.cons (.var 6) (.cons (.cS ⟨#[97, 104, 101, 97, 100]⟩) (.cons (.var 11) (.cons (.cS ⟨#[111, 110, 101]⟩) .nil))))))))
    .nil))))))))))⟩
/-- _law_beside -/
def n12 : List Str := ["book", "found", "place", "name", "words", "word"]
def f12 : PL.Fn := ⟨1, 6, (.cons (.asg (.name 1) (.lst .nil))
    (.cons (.for_ (.tup (.cons (.name 2) (.cons (.tup (.cons (.name 3) (.cons (.name 4) .nil))) .nil))) .enum (.cons (.call 9 .nil) .nil) (.cons (.exp (.meth .extend (.var 1) (.cons (.lc [5] (.bin .add (.bin .add (.sl (.var 0) .cN (.var 2)) (.tup (.cons (.var 5) .nil))) (.sl (.var 0) (.bin .add (.var 2) (.cI 1)) .cN)) (.name 5) .plain (.cons (.var 4) .nil) (.vc .ne (.var 5) (.idx (.var 0) (.var 2)))) .nil)))
    .nil))
    (.cons (.ret (.var 1))
    .nil)))⟩
/-- _law_number -/
def n13 : List Str := ["book", "can"]
def f13 : PL.Fn := ⟨1, 2, (.cons (.asg (.name 1) (.lst (.cons (.cmp .isin (.cS ⟨#[112, 101, 114, 104, 97, 112, 115]⟩) (.sl (.var 0) .cN (.cI 2))) (.cons (.or2 (.cmp .isin (.cS ⟨#[115, 117, 114, 101]⟩) (.sl (.var 0) .cN (.cI 2))) (.or1 (.cmp .eq (.idx (.var 0) (.cI 6)) (.cS ⟨#[115, 117, 114, 101]⟩)))) .nil))))
    (.cons (.ite (.vc .isin (.cS ⟨#[110, 111, 110, 101]⟩) (.sl (.var 0) .cN (.cI 2))) (.cons (.ret (.cI 1))
    .nil) .nil)
    (.cons (.ite (.or2 (.and2 (.val (.idx (.var 1) (.cI 0))) (.and1 (.vc .eq (.idx (.var 0) (.cI 3)) (.cS ⟨#[97, 110, 115, 119, 101, 114]⟩)))) (.or1 (.and2 (.val (.idx (.var 1) (.cI 1))) (.and1 (.vc .eq (.idx (.var 0) (.cI 4)) (.cS ⟨#[97, 110, 115, 119, 101, 114]⟩)))))) (.cons (.ret (.cI 2))
    .nil) .nil)
    (.cons (.ite (.and2 (.val (.idx (.var 1) (.cI 0))) (.and2 (.vc .eq (.idx (.var 0) (.cI 3)) (.cS ⟨#[99, 104, 101, 99, 107]⟩)) (.and2 (.vc .eq (.idx (.var 0) (.cI 5)) (.cS ⟨#[109, 97, 114, 107]⟩)) (.and1 (.or2 (.vc .ne (.idx (.var 0) (.cI 0)) (.cS ⟨#[115, 117, 114, 101]⟩)) (.or1 (.vc .ne (.idx (.var 0) (.cI 6)) (.cS ⟨#[115, 117, 114, 101]⟩)))))))) (.cons (.ret (.cI 3))
    .nil) .nil)
    (.cons (.ite (.and2 (.val (.idx (.var 1) (.cI 1))) (.and2 (.vc .eq (.idx (.var 0) (.cI 4)) (.cS ⟨#[99, 104, 101, 99, 107]⟩)) (.and2 (.vc .eq (.idx (.var 0) (.cI 5)) (.cS ⟨#[109, 97, 114, 107]⟩)) (.and1 (.vc .eq (.idx (.var 0) (.cI 8)) (.cS ⟨#[97, 104, 101, 97, 100]⟩)))))) (.cons (.ret (.cI 4))
    .nil) .nil)
    (.cons (.ite (.vc .eq (.idx (.var 0) (.cI 7)) (.cS ⟨#[108, 97, 115, 116]⟩)) (.cons (.ret (.cI 6))
    .nil) .nil)
    (.cons (.ite (.vc .eq (.idx (.var 0) (.cI 9)) (.cS ⟨#[98, 101, 104, 105, 110, 100]⟩)) (.cons (.ret (.cI 7))
    .nil) .nil)
    (.cons (.ite (.vc .eq (.idx (.var 0) (.cI 11)) (.cS ⟨#[97, 110, 121]⟩)) (.cons (.ret (.cI 8))
    .nil) .nil)
    (.cons (.ret (.ife (.or2 (.vc .eq (.idx (.var 0) (.cI 8)) (.cS ⟨#[98, 101, 104, 105, 110, 100]⟩)) (.or1 (.and2 (.vc .eq (.idx (.var 0) (.cI 8)) (.cS ⟨#[117, 110, 108, 101, 115, 115]⟩)) (.and1 (.vc .ne (.idx (.var 0) (.cI 2)) (.cS ⟨#[110, 101, 118, 101, 114]⟩)))))) (.cI 9) .cN))
    .nil)))))))))⟩
/-- _law_is_right -/
def n14 : List Str := ["book", "is_named", "known", "due", "came"]
def f14 : PL.Fn := ⟨2, 5, (.cons (.par [2, 3] (.cons (.blt .repr (.cons (.var 0) .nil)) (.cons (.call 13 (.cons (.var 0) .nil)) .nil)))
    (.cons (.asg (.name 4) (.ife (.val (.var 1)) (.lst (.cons (.callK 4 .nil (.cons (.var 0) .nil) [0]) (.cons (.callK 5 .nil (.cons (.var 0) .nil) [0]) .nil))) (.lst (.cons (.call 4 (.cons (.var 0) .nil)) (.cons (.call 5 (.cons (.var 0) .nil)) .nil)))))
    (.cons (.ite (.or2 (.vc .ne (.blt .repr (.cons (.var 4) .nil)) (.blt .repr (.cons (.lst (.cons (.var 3) (.cons (.cmp .isn (.var 3) .cN) .nil))) .nil))) (.or1 (.vc .ne (.blt .repr (.cons (.lst (.cons (.call 4 (.cons (.var 0) .nil)) (.cons (.call 5 (.cons (.var 0) .nil)) .nil))) .nil)) (.blt .repr (.cons (.var 4) .nil))))) (.cons (.ret (.cB false))
    .nil) .nil)
    (.cons (.ret (.cmp .eq (.blt .repr (.cons (.var 0) .nil)) (.var 2)))
    .nil))))⟩
/-- law -/
def n15 : List Str := ["script", "deck", "turn", "book", "other"]
def f15 : PL.Fn := ⟨1, 5, (.cons (.asg (.name 1) (.call 6 (.cons (.var 0) .nil)))
    (.cons (.for_ (.name 2) .range1 (.cons (.cI 7) .nil) (.cons (.asg (.name 3) (.call 11 (.cons (.var 1) .nil)))
    (.cons (.ite (.or2 (.vc .isnn (.call 13 (.cons (.var 3) .nil)) .cN) (.or1 (.not (.val (.call 14 (.cons (.var 3) (.cons (.cmp .eq (.var 2) (.cI 1)) .nil))))))) (.cons (.ret (.cB false))
    .nil) .nil)
    (.cons (.for_ (.name 4) .plain (.cons (.call 12 (.cons (.var 3) .nil)) .nil) (.cons (.ite (.not (.val (.call 14 (.cons (.var 4) (.cons (.cB false) .nil))))) (.cons (.ret (.cB false))
    .nil) .nil)
    .nil))
    .nil))))
    (.cons (.for_ (.name 2) .range1 (.cons (.cI 60) .nil) (.cons (.ite (.not (.val (.call 14 (.cons (.call 10 (.cons (.var 1) .nil)) (.cons (.cmp .eq (.var 2) (.cI 2)) .nil))))) (.cons (.ret (.cB false))
    .nil) .nil)
    .nil))
    (.cons (.ret (.cB true))
    .nil))))⟩
def tab : PL.Tab where
  fns := [("can_stand", ["book"]), ("is_checked_by_mark", ["book", "mark"]), ("is_left_marked", ["book"]), ("slip_alone", ["book"]), ("slip", ["book"]), ("safe", ["book"]), ("_law_deck", ["script"]), ("_law_draw", ["deck", "many"]), ("_law_pick", ["deck", "items"]), ("_law_words", []), ("_law_book", ["deck"]), ("_law_safe_book", ["deck"]), ("_law_beside", ["book"]), ("_law_number", ["book"]), ("_law_is_right", ["book", "is_named"]), ("law", ["script"])]
  kws := [(5, 0, ["book"], [0]), (4, 0, ["book"], [0])]
  free := ["tuple", "len", "abs", "int", "enumerate", "repr", "range"]
  cons := []
def prog : List PL.Fn := [f0, f1, f2, f3, f4, f5, f6, f7, f8, f9, f10, f11, f12, f13, f14, f15]
def cons : List PL.D := []
theorem chk0 : PL.defB tab f0 (top 1) n0 ["book"] = true := by decide +kernel
theorem chk1 : PL.defB tab f1 (top 3) n1 ["book", "mark"] = true := by decide +kernel
theorem chk2 : PL.defB tab f2 (top 4) n2 ["book"] = true := by decide +kernel
theorem chk3 : PL.defB tab f3 (top 5) n3 ["book"] = true := by decide +kernel
theorem chk4 : PL.defB tab f4 (top 7) n4 ["book"] = true := by decide +kernel
theorem chk5 : PL.defB tab f5 (top 8) n5 ["book"] = true := by decide +kernel
theorem chk6 : PL.defB tab f6 (top 10) n6 ["script"] = true := by decide +kernel
theorem chk7 : PL.defB tab f7 (top 11) n7 ["deck", "many"] = true := by decide +kernel
theorem chk8 : PL.defB tab f8 (top 12) n8 ["deck", "items"] = true := by decide +kernel
theorem chk9 : PL.defB tab f9 (top 13) n9 [] = true := by decide +kernel
theorem chk10 : PL.defB tab f10 (top 14) n10 ["deck"] = true := by decide +kernel
theorem chk11 : PL.defB tab f11 (top 15) n11 ["deck"] = true := by decide +kernel
theorem chk12 : PL.defB tab f12 (top 16) n12 ["book"] = true := by decide +kernel
theorem chk13 : PL.defB tab f13 (top 17) n13 ["book"] = true := by decide +kernel
theorem chk14 : PL.defB tab f14 (top 18) n14 ["book", "is_named"] = true := by decide +kernel
theorem chk15 : PL.defB tab f15 (top 19) n15 ["script"] = true := by decide +kernel
/-! ### the head -/
def d0 : He.DefD := ⟨("can_stand", none), "can_stand", "can_stand", defArgs (top 1), defBody (top 1), defScope (top 1), [], []⟩
def d1 : He.DefD := ⟨("is_checked_by_mark", none), "is_checked_by_mark", "is_checked_by_mark", defArgs (top 3), defBody (top 3), defScope (top 3), [], []⟩
def d2 : He.DefD := ⟨("is_left_marked", none), "is_left_marked", "is_left_marked", defArgs (top 4), defBody (top 4), defScope (top 4), [], []⟩
def d3 : He.DefD := ⟨("slip_alone", none), "slip_alone", "slip_alone", defArgs (top 5), defBody (top 5), defScope (top 5), [], []⟩
def d4 : He.DefD := ⟨("slip", none), "slip", "slip", defArgs (top 7), defBody (top 7), defScope (top 7), [], []⟩
def d5 : He.DefD := ⟨("safe", none), "safe", "safe", defArgs (top 8), defBody (top 8), defScope (top 8), [], []⟩
def d6 : He.DefD := ⟨("_law_deck", none), "_law_deck", "_law_deck", defArgs (top 10), defBody (top 10), defScope (top 10), [], []⟩
def d7 : He.DefD := ⟨("_law_draw", none), "_law_draw", "_law_draw", defArgs (top 11), defBody (top 11), defScope (top 11), [], []⟩
def d8 : He.DefD := ⟨("_law_pick", none), "_law_pick", "_law_pick", defArgs (top 12), defBody (top 12), defScope (top 12), [], []⟩
def d9 : He.DefD := ⟨("_law_words", none), "_law_words", "_law_words", defArgs (top 13), defBody (top 13), defScope (top 13), [], []⟩
def d10 : He.DefD := ⟨("_law_book", none), "_law_book", "_law_book", defArgs (top 14), defBody (top 14), defScope (top 14), [], []⟩
def d11 : He.DefD := ⟨("_law_safe_book", none), "_law_safe_book", "_law_safe_book", defArgs (top 15), defBody (top 15), defScope (top 15), [], []⟩
def d12 : He.DefD := ⟨("_law_beside", none), "_law_beside", "_law_beside", defArgs (top 16), defBody (top 16), defScope (top 16), [], []⟩
def d13 : He.DefD := ⟨("_law_number", none), "_law_number", "_law_number", defArgs (top 17), defBody (top 17), defScope (top 17), [], []⟩
def d14 : He.DefD := ⟨("_law_is_right", none), "_law_is_right", "_law_is_right", defArgs (top 18), defBody (top 18), defScope (top 18), [], []⟩
def d15 : He.DefD := ⟨("law", none), "law", "law", defArgs (top 19), defBody (top 19), defScope (top 19), [], []⟩
def fn : List He.DefD := [d0, d1, d2, d3, d4, d5, d6, d7, d8, d9, d10, d11, d12, d13, d14, d15]
def fa : List He.Fa := [.glo "can_stand", .glo "is_checked_by_mark", .glo "is_left_marked", .glo "slip_alone", .glo "slip", .glo "safe", .glo "_law_deck", .glo "_law_draw", .glo "_law_pick", .glo "_law_words", .glo "_law_book", .glo "_law_safe_book", .glo "_law_beside", .glo "_law_number", .glo "_law_is_right", .glo "law", .free "tuple", .free "len", .free "abs", .free "int", .free "enumerate", .free "repr", .free "range"]
abbrev R : PySem.W.OpenRow := PySem.W.OpenLaw.row PySem.Challenge.rw_keptmarks_k66_whole_numbers_of_books
abbrev hk : PySem.W.Hook := He.hookD 4 fa fn
def ob (s : PySem.W.SharedT) : He.AlD := He.obsDG 4 fa fn (HandSHeadRun.getT s)
theorem ob_eq (s : PySem.W.SharedT) : ob s = hk.obs s.abs := He.obsDG_eq (HandSHeadRun.getT_eq s)
def loose : List Str := (["can_stand", "is_checked_by_mark", "is_left_marked", "slip_alone", "slip", "safe", "_law_deck", "_law_draw", "_law_pick", "_law_words", "_law_book", "_law_safe_book", "_law_beside", "_law_number", "_law_is_right"] : List Str)
theorem run_top (w : World) : HandSHeadRun.RunEq R (PySem.W.view R.prog [19]) hk ob 1200 loose w := by
  intro os
  kernel_rfl
theorem mods {K : PySem.W.Frag} {h : Heap} {mg : Str → Option Value} (X : K.In h) (G : h.Ns mainGlobals mg) (c : He.SaysD fa fn K) : PL.Mods tab prog cons K mg where
  defs := fun i x ps hi => by
    match i, hi with
    | 0, hi =>
      cases hi
      obtain ⟨fd, F⟩ := c.def_ 0 (d := d0) rfl
      refine ⟨_, fd, PL.defOk_by (st := top 1) (N := n0) (He.glo_ok X G (c.fact 0 (f := .glo "can_stand") rfl)) F rfl chk0 (fun _ _ _ _ _ _ us hl => match us, hl with | [_], _ => rfl) ?_⟩
      intro q hq
      exact absurd (show q ∈ ([] : List (Nat × List Str × List Nat)) from hq) (by simp)
    | 1, hi =>
      cases hi
      obtain ⟨fd, F⟩ := c.def_ 1 (d := d1) rfl
      refine ⟨_, fd, PL.defOk_by (st := top 3) (N := n1) (He.glo_ok X G (c.fact 1 (f := .glo "is_checked_by_mark") rfl)) F rfl chk1 (fun _ _ _ _ _ _ us hl => match us, hl with | [_, _], _ => rfl) ?_⟩
      intro q hq
      exact absurd (show q ∈ ([] : List (Nat × List Str × List Nat)) from hq) (by simp)
    | 2, hi =>
      cases hi
      obtain ⟨fd, F⟩ := c.def_ 2 (d := d2) rfl
      refine ⟨_, fd, PL.defOk_by (st := top 4) (N := n2) (He.glo_ok X G (c.fact 2 (f := .glo "is_left_marked") rfl)) F rfl chk2 (fun _ _ _ _ _ _ us hl => match us, hl with | [_], _ => rfl) ?_⟩
      intro q hq
      exact absurd (show q ∈ ([] : List (Nat × List Str × List Nat)) from hq) (by simp)
    | 3, hi =>
      cases hi
      obtain ⟨fd, F⟩ := c.def_ 3 (d := d3) rfl
      refine ⟨_, fd, PL.defOk_by (st := top 5) (N := n3) (He.glo_ok X G (c.fact 3 (f := .glo "slip_alone") rfl)) F rfl chk3 (fun _ _ _ _ _ _ us hl => match us, hl with | [_], _ => rfl) ?_⟩
      intro q hq
      exact absurd (show q ∈ ([] : List (Nat × List Str × List Nat)) from hq) (by simp)
    | 4, hi =>
      cases hi
      obtain ⟨fd, F⟩ := c.def_ 4 (d := d4) rfl
      refine ⟨_, fd, PL.defOk_by (st := top 7) (N := n4) (He.glo_ok X G (c.fact 4 (f := .glo "slip") rfl)) F rfl chk4 (fun _ _ _ _ _ _ us hl => match us, hl with | [_], _ => rfl) ?_⟩
      intro q hq
      have hq : q ∈ ([(0, ["book"], [0])] : List (Nat × List Str × List Nat)) := hq
      simp only [List.mem_cons, List.not_mem_nil, or_false] at hq
      subst hq
      exact fun _ _ _ _ _ _ us ws l1 l2 => match us, ws, l1, l2 with | [], [_], _, _ => rfl
    | 5, hi =>
      cases hi
      obtain ⟨fd, F⟩ := c.def_ 5 (d := d5) rfl
      refine ⟨_, fd, PL.defOk_by (st := top 8) (N := n5) (He.glo_ok X G (c.fact 5 (f := .glo "safe") rfl)) F rfl chk5 (fun _ _ _ _ _ _ us hl => match us, hl with | [_], _ => rfl) ?_⟩
      intro q hq
      have hq : q ∈ ([(0, ["book"], [0])] : List (Nat × List Str × List Nat)) := hq
      simp only [List.mem_cons, List.not_mem_nil, or_false] at hq
      subst hq
      exact fun _ _ _ _ _ _ us ws l1 l2 => match us, ws, l1, l2 with | [], [_], _, _ => rfl
    | 6, hi =>
      cases hi
      obtain ⟨fd, F⟩ := c.def_ 6 (d := d6) rfl
      refine ⟨_, fd, PL.defOk_by (st := top 10) (N := n6) (He.glo_ok X G (c.fact 6 (f := .glo "_law_deck") rfl)) F rfl chk6 (fun _ _ _ _ _ _ us hl => match us, hl with | [_], _ => rfl) ?_⟩
      intro q hq
      exact absurd (show q ∈ ([] : List (Nat × List Str × List Nat)) from hq) (by simp)
    | 7, hi =>
      cases hi
      obtain ⟨fd, F⟩ := c.def_ 7 (d := d7) rfl
      refine ⟨_, fd, PL.defOk_by (st := top 11) (N := n7) (He.glo_ok X G (c.fact 7 (f := .glo "_law_draw") rfl)) F rfl chk7 (fun _ _ _ _ _ _ us hl => match us, hl with | [_, _], _ => rfl) ?_⟩
      intro q hq
      exact absurd (show q ∈ ([] : List (Nat × List Str × List Nat)) from hq) (by simp)
    | 8, hi =>
      cases hi
      obtain ⟨fd, F⟩ := c.def_ 8 (d := d8) rfl
      refine ⟨_, fd, PL.defOk_by (st := top 12) (N := n8) (He.glo_ok X G (c.fact 8 (f := .glo "_law_pick") rfl)) F rfl chk8 (fun _ _ _ _ _ _ us hl => match us, hl with | [_, _], _ => rfl) ?_⟩
      intro q hq
      exact absurd (show q ∈ ([] : List (Nat × List Str × List Nat)) from hq) (by simp)
    | 9, hi =>
      cases hi
      obtain ⟨fd, F⟩ := c.def_ 9 (d := d9) rfl
      refine ⟨_, fd, PL.defOk_by (st := top 13) (N := n9) (He.glo_ok X G (c.fact 9 (f := .glo "_law_words") rfl)) F rfl chk9 (fun _ _ _ _ _ _ us hl => match us, hl with | [], _ => rfl) ?_⟩
      intro q hq
      exact absurd (show q ∈ ([] : List (Nat × List Str × List Nat)) from hq) (by simp)
    | 10, hi =>
      cases hi
      obtain ⟨fd, F⟩ := c.def_ 10 (d := d10) rfl
      refine ⟨_, fd, PL.defOk_by (st := top 14) (N := n10) (He.glo_ok X G (c.fact 10 (f := .glo "_law_book") rfl)) F rfl chk10 (fun _ _ _ _ _ _ us hl => match us, hl with | [_], _ => rfl) ?_⟩
      intro q hq
      exact absurd (show q ∈ ([] : List (Nat × List Str × List Nat)) from hq) (by simp)
    | 11, hi =>
      cases hi
      obtain ⟨fd, F⟩ := c.def_ 11 (d := d11) rfl
      refine ⟨_, fd, PL.defOk_by (st := top 15) (N := n11) (He.glo_ok X G (c.fact 11 (f := .glo "_law_safe_book") rfl)) F rfl chk11 (fun _ _ _ _ _ _ us hl => match us, hl with | [_], _ => rfl) ?_⟩
      intro q hq
      exact absurd (show q ∈ ([] : List (Nat × List Str × List Nat)) from hq) (by simp)
    | 12, hi =>
      cases hi
      obtain ⟨fd, F⟩ := c.def_ 12 (d := d12) rfl
      refine ⟨_, fd, PL.defOk_by (st := top 16) (N := n12) (He.glo_ok X G (c.fact 12 (f := .glo "_law_beside") rfl)) F rfl chk12 (fun _ _ _ _ _ _ us hl => match us, hl with | [_], _ => rfl) ?_⟩
      intro q hq
      exact absurd (show q ∈ ([] : List (Nat × List Str × List Nat)) from hq) (by simp)
    | 13, hi =>
      cases hi
      obtain ⟨fd, F⟩ := c.def_ 13 (d := d13) rfl
      refine ⟨_, fd, PL.defOk_by (st := top 17) (N := n13) (He.glo_ok X G (c.fact 13 (f := .glo "_law_number") rfl)) F rfl chk13 (fun _ _ _ _ _ _ us hl => match us, hl with | [_], _ => rfl) ?_⟩
      intro q hq
      exact absurd (show q ∈ ([] : List (Nat × List Str × List Nat)) from hq) (by simp)
    | 14, hi =>
      cases hi
      obtain ⟨fd, F⟩ := c.def_ 14 (d := d14) rfl
      refine ⟨_, fd, PL.defOk_by (st := top 18) (N := n14) (He.glo_ok X G (c.fact 14 (f := .glo "_law_is_right") rfl)) F rfl chk14 (fun _ _ _ _ _ _ us hl => match us, hl with | [_, _], _ => rfl) ?_⟩
      intro q hq
      exact absurd (show q ∈ ([] : List (Nat × List Str × List Nat)) from hq) (by simp)
    | 15, hi =>
      cases hi
      obtain ⟨fd, F⟩ := c.def_ 15 (d := d15) rfl
      refine ⟨_, fd, PL.defOk_by (st := top 19) (N := n15) (He.glo_ok X G (c.fact 15 (f := .glo "law") rfl)) F rfl chk15 (fun _ _ _ _ _ _ us hl => match us, hl with | [_], _ => rfl) ?_⟩
      intro q hq
      exact absurd (show q ∈ ([] : List (Nat × List Str × List Nat)) from hq) (by simp)
    | n + 16, hi => cases hi
  free := fun x hx => by
    have hx : x ∈ (["tuple", "len", "abs", "int", "enumerate", "repr", "range"] : List Str) := hx
    simp only [List.mem_cons, List.not_mem_nil, or_false] at hx
    rcases hx with rfl | rfl | rfl | rfl | rfl | rfl | rfl
    · exact He.free_ok X G (c.fact 16 (f := .free "tuple") rfl)
    · exact He.free_ok X G (c.fact 17 (f := .free "len") rfl)
    · exact He.free_ok X G (c.fact 18 (f := .free "abs") rfl)
    · exact He.free_ok X G (c.fact 19 (f := .free "int") rfl)
    · exact He.free_ok X G (c.fact 20 (f := .free "enumerate") rfl)
    · exact He.free_ok X G (c.fact 21 (f := .free "repr") rfl)
    · exact He.free_ok X G (c.fact 22 (f := .free "range") rfl)
  con := fun i x d hi => by
    exact absurd hi (by simp [tab])
end K66

set_option Elab.async false
set_option linter.all false
set_option maxRecDepth 100000
set_option maxHeartbeats 4000000
namespace K66
open PL PySem
def pures : List Nat := [4, 13]
def C (f : Nat) : Option (List D → Sto → Res D) := if f ∈ pures then some (pureC (PL.run prog cons 8 f)) else none
abbrev RC (n : Nat) := runC prog cons C n
/-- the deck at r, its great cells at f (T: for the form's sake) -/
def Bag (r f T : Nat) (st : Sto) : Prop := r ≠ f ∧ ∃ (s t : Int) (ns : List Int), st[r]? = some (.lst [.ref f, .int s, .int t]) ∧ st[f]? = some (.lst (ns.map .int)) ∧ (0 ≤ s ∧ s < 4294967291) ∧ 0 ≤ t ∧ (∀ n ∈ ns, 0 ≤ n) ∧ ns.length < 1000
def Fr (r f : Nat) (st st' : Sto) : Prop := st.length ≤ st'.length ∧ ∀ j o, j ≠ r → j ≠ f → st[j]? = some o → st'[j]? = some o
theorem Fr.refl {r f : Nat} {st : Sto} : Fr r f st st := ⟨Nat.le_refl _, fun _ _ _ _ h => h⟩
theorem Fr.trans {r f : Nat} {st st1 st2 : Sto} (h : Fr r f st st1) (h' : Fr r f st1 st2) : Fr r f st st2 := ⟨Nat.le_trans h.1 h'.1, fun j o a b e => h'.2 j o a b (h.2 j o a b e)⟩
theorem Fr.app {r f : Nat} {st l : Sto} : Fr r f st (st ++ l) := ⟨by simp, fun j o _ _ e => get_app e⟩
theorem Fr.setR {r f : Nat} {st : Sto} {o : Ob} : Fr r f st (st.set r o) := ⟨by simp, fun j o a _ e => get_set_ne (Ne.symm a) e⟩
theorem Fr.setF {r f : Nat} {st : Sto} {o : Ob} : Fr r f st (st.set f o) := ⟨by simp, fun j o _ a e => get_set_ne (Ne.symm a) e⟩
theorem small_l {i j : Int} (h : small64 i = true) : (small64 i || small64 j) = true := by rw [h]; rfl
theorem small_r {i j : Int} (h : small64 j = true) : (small64 i || small64 j) = true := by rw [h, Bool.or_true]
theorem small_of {i : Int} (h : -18446744073709551616 < i ∧ i < 18446744073709551616) : small64 i = true := by
  unfold small64
  simp only [Bool.and_eq_true, decide_eq_true_eq]
  omega
theorem at0 {f : Nat} {s t : Int} : L2.atI [D.ref f, .int s, .int t] 0 = some (.ref f) := rfl
theorem at1 {f : Nat} {s t : Int} : L2.atI [D.ref f, .int s, .int t] 1 = some (.int s) := rfl
theorem at2 {f : Nat} {s t : Int} : L2.atI [D.ref f, .int s, .int t] 2 = some (.int t) := rfl
theorem draw_spec {n r f T : Nat} {m : Int} {st : Sto} {P : D → Sto → Prop} (h : Bag r f (T + 1) st) (hm : 0 < m ∧ m < 1000) (k : ∀ (v : Int) st', 0 ≤ v → v < m → Bag r f T st' → Fr r f st st' → P (.int v) st') : Wd (RC (n + 1) 7 [.ref r, .int m] st) P := by
  have hB := h
  obtain ⟨hrf, s, t, ns, h1, h2, h3, h4, h5, h6⟩ := h
  refine W_def (fn := f7) rfl rfl rfl ?_
  simp only [f7, W_var, W_cI, W_cB, W_cS, W_cN, W_gcon, W_bin, W_neg, W_notE, W_and1, W_or1, W_and2, W_or2, W_cmp, W_ife, W_tup, W_lst, W_dic, W_call, W_callK, W_blt, W_meth, W_idx, W_sl, W_rev, W_nil, W_cons, W_val, W_vc, W_not, W_tand1, W_tor1, W_tand2, W_tor2, W_yes, W_name, W_tgt, W_tgsub, W_tgnil, W_tgcons, W_asg, W_par, W_exp, W_ret, W_if, W_snil, W_scons, Then_next, Then_ret, Back_ret, Back_next, Wd_ok, Wd_bad, List.map_cons, List.map_nil, List.replicate_succ, List.replicate_zero, List.cons_append, List.nil_append, List.getElem?_cons_zero, List.getElem?_cons_succ, List.set_cons_zero, List.set_cons_succ, Option.some.injEq, exists_eq_left', List.length_cons, List.length_nil, setAll]
  refine ⟨_, C_lt, ?_⟩
  split
  · exact k 0 st (by decide) hm.1 hB Fr.refl
  refine X_idxR.mpr (.inl ⟨_, h1, _, at0, ?_⟩)
  refine ⟨by decide, _, C_neNil (get_app h2) get_new, ?_⟩
  have a1 : (st ++ [Ob.lst []])[r]? = some (.lst [.ref f, .int s, .int t]) := get_app h1
  have a2 : (st ++ [Ob.lst []])[f]? = some (.lst (ns.map .int)) := get_app h2
  have fr1 : Fr r f st (st ++ [Ob.lst []]) := Fr.app
  generalize hst1 : st ++ [Ob.lst []] = st1 at a1 a2 fr1
  rcases List.eq_nil_or_concat ns with rfl | ⟨ms, w, rfl⟩
  · rw [if_neg (by simp)]
    refine X_idxR.mpr (.inl ⟨_, a1, _, at2, ?_⟩)
    simp only [X_add]
    refine X_setI.mpr (.inl ⟨_, a1, 2, rfl, ?_⟩)
    rw [show [D.ref f, .int s, .int t].set 2 (.int (t + 1)) = [D.ref f, .int s, .int (t + 1)] from rfl]
    have b1 : (st1.set r (.lst [.ref f, .int s, .int (t + 1)]))[r]? = some (.lst [.ref f, .int s, .int (t + 1)]) := get_set_self a1
    have b2 : (st1.set r (.lst [.ref f, .int s, .int (t + 1)]))[f]? = some (.lst ([].map .int)) := get_set_ne hrf a2
    have fr2 : Fr r f st (st1.set r (.lst [.ref f, .int s, .int (t + 1)])) := fr1.trans Fr.setR
    generalize hst2 : st1.set r (.lst [.ref f, .int s, .int (t + 1)]) = st2 at b1 b2 fr2
    refine X_idxR.mpr (.inl ⟨_, b1, _, at1, ?_⟩)
    refine X_idxR.mpr (.inl ⟨_, b1, _, at2, ?_⟩)
    simp only [X_add, X_mul, X_int, X_md, X_fdiv]
    generalize hA : ((s + 2654435761 * (t + 1)) % 4294967291 : Int) = A
    have hA0 : 0 ≤ A ∧ A < 4294967291 := by rw [← hA]; exact ⟨Int.emod_nonneg _ (by decide), Int.emod_lt_of_pos _ (by decide)⟩
    refine ⟨small_l (by decide), by decide, small_l (small_of (by omega)), ?_⟩
    refine X_idxR.mpr (.inl ⟨_, b1, _, at2, ?_⟩)
    simp only [X_add, X_mul, X_int, X_md, X_fdiv]
    generalize hE : ((A * A + 40503 * (t + 1) + 11) % 4294967279 : Int) = E
    have hE0 : 0 ≤ E ∧ E < 4294967279 := by rw [← hE]; exact ⟨Int.emod_nonneg _ (by decide), Int.emod_lt_of_pos _ (by decide)⟩
    refine ⟨small_l (by decide), by decide, small_l (small_of (by omega)), ?_⟩
    refine X_idxR.mpr (.inl ⟨_, b1, _, at1, ?_⟩)
    simp only [X_add, X_mul, X_int, X_md, X_fdiv]
    exact ⟨by decide, by decide, hm.1, k _ _ (Int.emod_nonneg _ (by omega)) (Int.emod_lt_of_pos _ hm.1) ⟨hrf, s, t + 1, [], b1, b2, h3, by omega, by simp, by simp⟩ fr2⟩
  · rw [if_pos (by simp)]
    rw [List.concat_eq_append, List.map_append] at a2
    refine X_idxR.mpr (.inl ⟨_, a1, _, at0, ?_⟩)
    refine ⟨X_isLst a2, (X_pop0 (d := .int w) a2).mpr ?_⟩
    have b1 : (st1.set f (.lst (ms.map .int)))[r]? = some (.lst [.ref f, .int s, .int t]) := get_set_ne hrf.symm a1
    have b2 : (st1.set f (.lst (ms.map .int)))[f]? = some (.lst (ms.map .int)) := get_set_self a2
    have fr2 : Fr r f st (st1.set f (.lst (ms.map .int))) := fr1.trans Fr.setF
    have hw : 0 ≤ w := h5 w (by simp)
    have hms : ∀ n ∈ ms, 0 ≤ n := fun n hn => h5 n (by simp [hn])
    have hl : ms.length < 999 := by simp at h6; omega
    generalize hst2 : st1.set f (.lst (ms.map .int)) = st2 at b1 b2 fr2
    refine ⟨_, C_ge, ?_⟩
    by_cases hc : m ≤ w
    · rw [if_pos (by simpa using hc)]
      refine X_idxR.mpr (.inl ⟨_, b1, _, at0, ?_⟩)
      refine ⟨X_isLst b2, X_fdiv.mpr ⟨by omega, (X_append b2 (by rw [List.length_map]; exact Nat.lt_trans hl (by decide))).mpr ?_⟩⟩
      simp only [X_int, X_md]
      refine ⟨hm.1, k _ _ (Int.emod_nonneg _ (by omega)) (Int.emod_lt_of_pos _ hm.1) ⟨hrf, s, t, ms ++ [w / m], get_set_ne hrf.symm b1, by rw [List.map_append]; exact get_set_self b2, h3, h4, ?_, by simp; omega⟩ (fr2.trans Fr.setF)⟩
      intro n hn
      rcases List.mem_append.mp hn with hn | hn
      · exact hms n hn
      · simp at hn; subst hn; exact Int.ediv_nonneg hw (by omega)
    · rw [if_neg (by simpa using hc)]
      simp only [X_int, X_md]
      exact ⟨hm.1, k _ _ (Int.emod_nonneg _ (by omega)) (Int.emod_lt_of_pos _ hm.1) ⟨hrf, s, t, ms, b1, b2, h3, h4, hms, by omega⟩ fr2⟩
end K66

set_option Elab.async false
set_option linter.all false
set_option maxRecDepth 100000
set_option maxHeartbeats 4000000
namespace K66
open PL PySem
theorem Bag.app {r f T : Nat} {st l : Sto} (h : Bag r f T st) : Bag r f T (st ++ l) := by
  obtain ⟨hrf, s, t, ns, h1, h2, h⟩ := h
  exact ⟨hrf, s, t, ns, get_app h1, get_app h2, h⟩
theorem Bag.le {r f T T' : Nat} {st : Sto} (h : Bag r f T st) : Bag r f T' st := h
theorem Bag.lt {r f T : Nat} {st : Sto} (h : Bag r f T st) : r < st.length ∧ f < st.length := by
  obtain ⟨hrf, s, t, ns, h1, h2, _⟩ := h
  exact ⟨(List.getElem?_eq_some_iff.mp h1).1, (List.getElem?_eq_some_iff.mp h2).1⟩
theorem at_some {α : Type} {xs : List α} {v : Int} (h0 : 0 ≤ v) (h1 : v < xs.length) : ∃ x ∈ xs, L2.atI xs v = some x := by
  obtain ⟨k, rfl⟩ := Int.eq_ofNat_of_zero_le h0
  have hk : k < xs.length := by omega
  refine ⟨xs[k], List.getElem_mem hk, ?_⟩
  unfold L2.atI L2.ixN
  rw [if_pos h0, if_pos h1]
  simp [hk]
theorem pick_spec {n r f T : Nat} {xs : List D} {st : Sto} {P : D → Sto → Prop} (h : Bag r f (T + 1) st) (hm : xs ≠ [] ∧ xs.length < 1000) (k : ∀ x ∈ xs, ∀ st', Bag r f T st' → Fr r f st st' → P x st') : Wd (RC (n + 2) 8 [.ref r, .tup xs] st) P := by
  refine W_def (fn := f8) rfl rfl rfl ?_
  simp only [f8, W_var, W_cI, W_cB, W_cS, W_cN, W_gcon, W_bin, W_neg, W_notE, W_and1, W_or1, W_and2, W_or2, W_cmp, W_ife, W_tup, W_lst, W_dic, W_call, W_callK, W_blt, W_meth, W_idx, W_sl, W_rev, W_nil, W_cons, W_val, W_vc, W_not, W_tand1, W_tor1, W_tand2, W_tor2, W_yes, W_name, W_tgt, W_tgsub, W_tgnil, W_tgcons, W_asg, W_par, W_exp, W_ret, W_if, W_snil, W_scons, Then_next, Then_ret, Back_ret, Back_next, Wd_ok, Wd_bad, List.map_cons, List.map_nil, List.replicate_succ, List.replicate_zero, List.cons_append, List.nil_append, List.getElem?_cons_zero, List.getElem?_cons_succ, List.set_cons_zero, List.set_cons_succ, Option.some.injEq, exists_eq_left', List.length_cons, List.length_nil, setAll, X_lenT]
  have hp : 0 < xs.length := List.length_pos_iff.mpr hm.1
  refine draw_spec h ⟨by omega, by omega⟩ fun v st' h0 h1 hb hf => ?_
  obtain ⟨x, hx, e⟩ := at_some h0 h1
  exact X_idxT.mpr ⟨x, e, k x hx st' hb hf⟩
theorem pickL_spec {n r f T q : Nat} {xs : List D} {st : Sto} {P : D → Sto → Prop} (h : Bag r f (T + 1) st) (hq : st[q]? = some (.lst xs)) (hqr : q ≠ r ∧ q ≠ f) (hm : xs ≠ [] ∧ xs.length < 1000) (k : ∀ x ∈ xs, ∀ st', Bag r f T st' → Fr r f st st' → P x st') : Wd (RC (n + 2) 8 [.ref r, .ref q] st) P := by
  refine W_def (fn := f8) rfl rfl rfl ?_
  simp only [f8, W_var, W_cI, W_cB, W_cS, W_cN, W_gcon, W_bin, W_neg, W_notE, W_and1, W_or1, W_and2, W_or2, W_cmp, W_ife, W_tup, W_lst, W_dic, W_call, W_callK, W_blt, W_meth, W_idx, W_sl, W_rev, W_nil, W_cons, W_val, W_vc, W_not, W_tand1, W_tor1, W_tand2, W_tor2, W_yes, W_name, W_tgt, W_tgsub, W_tgnil, W_tgcons, W_asg, W_par, W_exp, W_ret, W_if, W_snil, W_scons, Then_next, Then_ret, Back_ret, Back_next, Wd_ok, Wd_bad, List.map_cons, List.map_nil, List.replicate_succ, List.replicate_zero, List.cons_append, List.nil_append, List.getElem?_cons_zero, List.getElem?_cons_succ, List.set_cons_zero, List.set_cons_succ, Option.some.injEq, exists_eq_left', List.length_cons, List.length_nil, setAll]
  refine X_lenR.mpr ⟨_, hq, ?_⟩
  have hp : 0 < xs.length := List.length_pos_iff.mpr hm.1
  refine draw_spec h ⟨by omega, by omega⟩ fun v st' h0 h1 hb hf => ?_
  obtain ⟨x, hx, e⟩ := at_some h0 h1
  exact X_idxR.mpr (.inl ⟨_, hf.2 _ _ hqr.1 hqr.2 hq, x, e, k x hx st' hb hf⟩)
theorem dom_ne {i : Nat} : dom i ≠ [] := by
  by_cases hi : i < 12
  · match i, hi with
    | 0, _ => exact List.cons_ne_nil _ _ | 1, _ => exact List.cons_ne_nil _ _ | 2, _ => exact List.cons_ne_nil _ _ | 3, _ => exact List.cons_ne_nil _ _ | 4, _ => exact List.cons_ne_nil _ _ | 5, _ => exact List.cons_ne_nil _ _
    | 6, _ => exact List.cons_ne_nil _ _ | 7, _ => exact List.cons_ne_nil _ _ | 8, _ => exact List.cons_ne_nil _ _ | 9, _ => exact List.cons_ne_nil _ _ | 10, _ => exact List.cons_ne_nil _ _ | 11, _ => exact List.cons_ne_nil _ _
    | n + 12, h => omega
  · rw [dom_out (by omega)]; simp
theorem dom_len {i : Nat} : (dom i).length < 1000 := by
  by_cases hi : i < 12
  · match i, hi with
    | 0, _ => decide | 1, _ => decide | 2, _ => decide | 3, _ => decide | 4, _ => decide | 5, _ => decide | 6, _ => decide | 7, _ => decide | 8, _ => decide | 9, _ => decide | 10, _ => decide | 11, _ => decide
    | n + 12, h => omega
  · rw [dom_out (by omega)]; decide
def Ap (st st' : Sto) : Prop := ∃ l, st' = st ++ l
theorem Ap.fr {r f : Nat} {st st' : Sto} (h : Ap st st') : Fr r f st st' := by obtain ⟨l, rfl⟩ := h; exact Fr.app
theorem Ap.bag {r f T : Nat} {st st' : Sto} (h : Ap st st') (b : Bag r f T st) : Bag r f T st' := by obtain ⟨l, rfl⟩ := h; exact b.app
theorem Ap.get {st st' : Sto} (h : Ap st st') {r : Nat} {o : Ob} (e : st[r]? = some o) : st'[r]? = some o := by obtain ⟨l, rfl⟩ := h; exact get_app e
def namD : List Str := ["readers", "further", "stop", "perhaps", "sure", "check", "change", "write", "strike", "enter", "old", "hands"]
def rows : List D := (List.range 12).map fun i => .tup [.str (namD.getD i ""), .tup ((dom i).map .str)]
theorem rows_at {i : Nat} (hi : i < 12) : rows[i]? = some (.tup [.str (namD.getD i ""), .tup ((dom i).map .str)]) := by
  unfold rows; rw [List.getElem?_map, List.getElem?_range hi]; rfl
theorem words_spec {n : Nat} {st : Sto} {P : D → Sto → Prop} (k : ∀ q st', st'[q]? = some (.lst rows) → st.length ≤ q → Ap st st' → P (.ref q) st') : Wd (RC (n + 1) 9 [] st) P := by
  refine W_def (fn := f9) rfl rfl rfl ?_
  simp only [f9, W_var, W_cI, W_cB, W_cS, W_cN, W_gcon, W_bin, W_neg, W_notE, W_and1, W_or1, W_and2, W_or2, W_cmp, W_ife, W_tup, W_lst, W_dic, W_call, W_callK, W_blt, W_meth, W_idx, W_sl, W_rev, W_nil, W_cons, W_val, W_vc, W_not, W_tand1, W_tor1, W_tand2, W_tor2, W_yes, W_name, W_tgt, W_tgsub, W_tgnil, W_tgcons, W_asg, W_par, W_exp, W_ret, W_if, W_snil, W_scons, Then_next, Then_ret, Back_ret, Back_next, Wd_ok, Wd_bad, List.map_cons, List.map_nil, List.replicate_succ, List.replicate_zero, List.cons_append, List.nil_append, List.getElem?_cons_zero, List.getElem?_cons_succ, List.set_cons_zero, List.set_cons_succ, Option.some.injEq, exists_eq_left', List.length_cons, List.length_nil, setAll, partsOf]
  refine ⟨by decide, by decide, by decide, ?_⟩
  refine ⟨by decide, by decide, by decide, by decide, by decide, by decide, by decide, by decide, by decide, by decide, by decide, by decide, by decide, by decide, by decide, by decide, by decide, by decide, by decide, by decide, by decide, k _ _ ?_ ?_ ⟨_, rfl⟩⟩
  · exact get_new
  · simp
/-- a book's word exchanged, as the text writes it -/
theorem put_eq {w : Nat → Str} {x : Str} : ∀ {i : Nat}, i < 12 → D.tup (cutD [D.str (w 0), .str (w 1), .str (w 2), .str (w 3), .str (w 4), .str (w 5), .str (w 6), .str (w 7), .str (w 8), .str (w 9), .str (w 10), .str (w 11)] none (some (i : Int)) ++ [.str x] ++
    cutD [D.str (w 0), .str (w 1), .str (w 2), .str (w 3), .str (w 4), .str (w 5), .str (w 6), .str (w 7), .str (w 8), .str (w 9), .str (w 10), .str (w 11)] (some ((i : Int) + 1)) none) = bk (setW w i x)
  | 0, _ => by kernel_rfl | 1, _ => by kernel_rfl | 2, _ => by kernel_rfl | 3, _ => by kernel_rfl | 4, _ => by kernel_rfl | 5, _ => by kernel_rfl | 6, _ => by kernel_rfl | 7, _ => by kernel_rfl | 8, _ => by kernel_rfl | 9, _ => by kernel_rfl
  | 10, _ => by kernel_rfl | 11, _ => by kernel_rfl
  | n + 12, h => by omega
theorem cut_le {α : Type} (xs : List α) (lo hi : Option Int) : (cutD xs lo hi).length ≤ xs.length := by
  unfold cutD; simp only [List.length_take, List.length_drop]; omega
/-- a drawn book -/
theorem any_spec {n r f T : Nat} {st : Sto} {P : D → Sto → Prop} (h : Bag r f T st) (k : ∀ w st', Gd w → Bag r f T st' → Fr r f st st' → P (bk w) st') : Wd (RC (n + 3) 10 [.ref r] st) P := by
  refine W_def (fn := f10) rfl rfl rfl ?_
  simp only [f10, W_var, W_cI, W_cB, W_cS, W_cN, W_gcon, W_bin, W_neg, W_notE, W_and1, W_or1, W_and2, W_or2, W_cmp, W_ife, W_tup, W_lst, W_dic, W_call, W_callK, W_blt, W_meth, W_idx, W_sl, W_rev, W_nil, W_cons, W_val, W_vc, W_not, W_tand1, W_tor1, W_tand2, W_tor2, W_yes, W_name, W_tgt, W_tgsub, W_tgnil, W_tgcons, W_asg, W_par, W_exp, W_ret, W_if, W_snil, W_scons, Then_next, Then_ret, Back_ret, Back_next, Wd_ok, Wd_bad, List.map_cons, List.map_nil, List.replicate_succ, List.replicate_zero, List.cons_append, List.nil_append, List.getElem?_cons_zero, List.getElem?_cons_succ, List.set_cons_zero, List.set_cons_succ, Option.some.injEq, exists_eq_left', List.length_cons, List.length_nil, setAll, W_lc]
  refine words_spec fun q st1 hq hlq ha => ?_
  have hb1 := ha.bag h
  have hlt := h.lt
  refine ⟨.live q, by simp only [srcD, seqD, hq], ?_⟩
  refine W_lc_live (ds := rows) (fun i acc st' => ∃ ws : List Str, acc = ws.map .str ∧ ws.length = i ∧ (∀ j x, ws[j]? = some x → x ∈ dom j) ∧ Bag r f T st' ∧ Fr r f st st' ∧ st'[q]? = some (.lst rows)) ?_ ?_ ?_ ?_
  · exact ⟨[], rfl, rfl, fun j x e => by simp at e, hb1, ha.fr, hq⟩
  · rintro i acc st' ⟨ws, _, _, _, _, _, h6⟩
    exact h6
  · rintro i d acc st' hd ⟨ws, rfl, rfl, h3, h4, h5, h6⟩
    have hi : ws.length < 12 := by
      have := (List.getElem?_eq_some_iff.mp hd).1
      exact this
    rw [rows_at hi] at hd
    cases hd
    simp only [Wd_bind, W_var, W_cI, W_cB, W_cS, W_cN, W_gcon, W_bin, W_neg, W_notE, W_and1, W_or1, W_and2, W_or2, W_cmp, W_ife, W_tup, W_lst, W_dic, W_call, W_callK, W_blt, W_meth, W_idx, W_sl, W_rev, W_nil, W_cons, W_val, W_vc, W_not, W_tand1, W_tor1, W_tand2, W_tor2, W_yes, W_name, W_tgt, W_tgsub, W_tgnil, W_tgcons, W_asg, W_par, W_exp, W_ret, W_if, W_snil, W_scons, Then_next, Then_ret, Back_ret, Back_next, Wd_ok, Wd_bad, List.map_cons, List.map_nil, List.replicate_succ, List.replicate_zero, List.cons_append, List.nil_append, List.getElem?_cons_zero, List.getElem?_cons_succ, List.set_cons_zero, List.set_cons_succ, Option.some.injEq, exists_eq_left', List.length_cons, List.length_nil, setAll, wipeE, List.set, if_true, partsOf]
    refine pick_spec (T := T) h4 ⟨by simp [dom_ne], by simpa using dom_len⟩ fun x hx st2 hb hf => ?_
    obtain ⟨s, hs, rfl⟩ := List.mem_map.mp hx
    refine ⟨?_, ws ++ [s], by simp, by simp, fun j y e => ?_, hb, h5.trans hf, hf.2 _ _ (by omega) (by omega) h6⟩
    · rw [List.length_map]; exact Nat.lt_trans hi (by decide)
    · rcases get_snoc e with e | ⟨rfl, rfl⟩
      · exact h3 j y e
      · exact hs
  · rintro acc st' ⟨ws, rfl, h2, h3, h4, h5, h6⟩
    have h2 : ws.length = 12 := h2
    refine X_tupR.mpr ⟨_, get_new, ?_⟩
    rw [bk_wOf h2]
    exact k _ _ (wOf_gd h2 h3) h4.app (h5.trans Fr.app)
end K66

set_option Elab.async false
set_option linter.all false
set_option maxRecDepth 100000
set_option maxHeartbeats 4000000
namespace K66
open PL PySem
/-- nothing older is changed -/
def Fa (st st' : Sto) : Prop := st.length ≤ st'.length ∧ ∀ (j : Nat) (o : Ob), st[j]? = some o → st'[j]? = some o
theorem Fa.refl {st : Sto} : Fa st st := ⟨Nat.le_refl _, fun _ _ h => h⟩
theorem Fa.trans {st st1 st2 : Sto} (h : Fa st st1) (h' : Fa st1 st2) : Fa st st2 := ⟨Nat.le_trans h.1 h'.1, fun j o e => h'.2 j o (h.2 j o e)⟩
theorem Fa.app {st l : Sto} : Fa st (st ++ l) := ⟨by simp, fun j o e => get_app e⟩
theorem Fa.set {st st' : Sto} {q : Nat} {o : Ob} (h : Fa st st') (hq : st.length ≤ q) : Fa st (st'.set q o) := ⟨by simpa using h.1, fun j o e => get_set_ne (by have := (List.getElem?_eq_some_iff.mp e).1; omega) (h.2 j o e)⟩
theorem Ap.fa {st st' : Sto} (h : Ap st st') : Fa st st' := by obtain ⟨l, rfl⟩ := h; exact Fa.app
theorem Fa.fr {r f : Nat} {st st' : Sto} (h : Fa st st') : Fr r f st st' := ⟨h.1, fun j o _ _ e => h.2 j o e⟩
theorem Fa.bag {r f T : Nat} {st st' : Sto} (h : Fa st st') (b : Bag r f T st) : Bag r f T st' := by
  obtain ⟨hrf, s, t, ns, h1, h2, h3⟩ := b
  exact ⟨hrf, s, t, ns, h.2 _ _ h1, h.2 _ _ h2, h3⟩
theorem X_bk {w : Nat → Str} {i : Nat} (hi : i < 12) {st : Sto} {P : D → Sto → Prop} : Wd (idxD (bk w) (.int (i : Int)) st) P ↔ P (.str (w i)) st := by
  unfold bk idxD; simp only []
  rw [bk_at hi]; exact Iff.rfl
theorem dom_three {i : Nat} : (dom i).length ≤ 3 := by
  by_cases hi : i < 12
  · match i, hi with
    | 0, _ => decide | 1, _ => decide | 2, _ => decide | 3, _ => decide | 4, _ => decide | 5, _ => decide | 6, _ => decide | 7, _ => decide | 8, _ => decide | 9, _ => decide | 10, _ => decide | 11, _ => decide
    | n + 12, h => omega
  · rw [dom_out (by omega)]; decide
def Good (x : D) : Prop := ∃ w, Gd w ∧ x = bk w
def wl (w : Nat → Str) : List D := [D.str (w 0), .str (w 1), .str (w 2), .str (w 3), .str (w 4), .str (w 5), .str (w 6), .str (w 7), .str (w 8), .str (w 9), .str (w 10), .str (w 11)]
theorem X_slB {w : Nat → Str} {lo hi : D} {st : Sto} {P : D → Sto → Prop} : Wd (slD (bk w) lo hi st) P ↔ ∃ l, partD lo = some l ∧ ∃ h, partD hi = some h ∧ P (.tup (cutD (wl w) l h)) st := X_slT (xs := wl w)
theorem put_wl {w : Nat → Str} {x : Str} {i : Nat} (hi : i < 12) : D.tup (cutD (wl w) none (some (i : Int)) ++ [.str x] ++ cutD (wl w) (some ((i : Int) + 1)) none) = bk (setW w i x) := put_eq hi
theorem wl_cut {w : Nat → Str} (lo hi : Option Int) : (cutD (wl w) lo hi).length ≤ 12 := cut_le (wl w) lo hi
theorem near_spec {n : Nat} {w : Nat → Str} {st : Sto} {P : D → Sto → Prop} (hw : Gd w) (k : ∀ q xs st', st'[q]? = some (.lst xs) → (∀ x ∈ xs, Good x) → xs.length ≤ 36 → st.length ≤ q → Fa st st' → P (.ref q) st') : Wd (RC (n + 2) 12 [bk w] st) P := by
  have big : 100 ≤ sizeLine := by decide
  refine W_def (fn := f12) rfl rfl rfl ?_
  simp only [f12, W_var, W_cI, W_cB, W_cS, W_cN, W_gcon, W_bin, W_neg, W_notE, W_and1, W_or1, W_and2, W_or2, W_cmp, W_ife, W_tup, W_lst, W_dic, W_call, W_callK, W_blt, W_meth, W_idx, W_sl, W_rev, W_nil, W_cons, W_val, W_vc, W_not, W_tand1, W_tor1, W_tand2, W_tor2, W_yes, W_name, W_tgt, W_tgsub, W_tgnil, W_tgcons, W_asg, W_par, W_exp, W_ret, W_if, W_snil, W_scons, Then_next, Then_ret, Back_ret, Back_next, Wd_ok, Wd_bad, List.map_cons, List.map_nil, List.replicate_succ, List.replicate_zero, List.cons_append, List.nil_append, List.getElem?_cons_zero, List.getElem?_cons_succ, List.set_cons_zero, List.set_cons_succ, Option.some.injEq, exists_eq_left', List.length_cons, List.length_nil, setAll, W_for]
  refine ⟨by decide, words_spec fun qr st1 hq hlq ha => ?_⟩
  have hlen0 : st.length < qr := by simp at hlq; omega
  refine ⟨.enum (.live qr), by simp only [srcD, seqD, hq, Option.map_some], ?_⟩
  refine W_for_enum (ds := rows) (fun i env st' => ∃ e2 e3 e4 xs, env = [some (bk w), some (.ref st.length), e2, e3, e4, none] ∧ st'[st.length]? = some (.lst xs) ∧ (∀ x ∈ xs, Good x) ∧ xs.length ≤ 3 * i ∧ st'[qr]? = some (.lst rows) ∧ Fa st st') ?_ ?_ ?_ ?_ ?_
  · exact ⟨none, none, none, [], rfl, ha.get get_new, fun x hx => (by cases hx), by simp, hq, Fa.app.trans ha.fa⟩
  · rintro i env st' hi ⟨_, _, _, _, _, _, _, _, h5, _⟩
    simp only [Src.at, h5]
    rw [if_pos hi]
  · simp only [Src.len, hq]
  · rintro i d env st' hd ⟨e2, e3, e4, xs, rfl, h2, h3, h4, h5, h6⟩
    have hi : i < 12 := (List.getElem?_eq_some_iff.mp hd).1
    rw [rows_at hi] at hd
    cases hd
    simp only [Wd_bind, W_var, W_cI, W_cB, W_cS, W_cN, W_gcon, W_bin, W_neg, W_notE, W_and1, W_or1, W_and2, W_or2, W_cmp, W_ife, W_tup, W_lst, W_dic, W_call, W_callK, W_blt, W_meth, W_idx, W_sl, W_rev, W_nil, W_cons, W_val, W_vc, W_not, W_tand1, W_tor1, W_tand2, W_tor2, W_yes, W_name, W_tgt, W_tgsub, W_tgnil, W_tgcons, W_asg, W_par, W_exp, W_ret, W_if, W_snil, W_scons, Then_next, Then_ret, Back_ret, Back_next, Wd_ok, Wd_bad, List.map_cons, List.map_nil, List.replicate_succ, List.replicate_zero, List.cons_append, List.nil_append, List.getElem?_cons_zero, List.getElem?_cons_succ, List.set_cons_zero, List.set_cons_succ, Option.some.injEq, exists_eq_left', List.length_cons, List.length_nil, setAll, partsOf, W_lc]
    refine ⟨X_isLst h2, _, rfl, ?_⟩
    refine W_lc_fix (fun j acc st'' => st'' = st' ∧ (∀ x ∈ acc, Good x) ∧ acc.length ≤ j) ⟨rfl, fun x hx => (by cases hx), by simp⟩ ?_ ?_
    · rintro j d acc st'' hd ⟨rfl, ha1, ha2⟩
      rw [List.getElem?_map] at hd
      obtain ⟨x, hx', rfl⟩ := Option.map_eq_some_iff.mp hd
      have hx : x ∈ dom i := List.mem_of_getElem? hx'
      have hj : j < 3 := by
        have h1 := (List.getElem?_eq_some_iff.mp hx').1
        have h2 : (dom i).length ≤ 3 := dom_three
        omega
      simp only [Wd_bind, W_var, W_cI, W_cB, W_cS, W_cN, W_gcon, W_bin, W_neg, W_notE, W_and1, W_or1, W_and2, W_or2, W_cmp, W_ife, W_tup, W_lst, W_dic, W_call, W_callK, W_blt, W_meth, W_idx, W_sl, W_rev, W_nil, W_cons, W_val, W_vc, W_not, W_tand1, W_tor1, W_tand2, W_tor2, W_yes, W_name, W_tgt, W_tgsub, W_tgnil, W_tgcons, W_asg, W_par, W_exp, W_ret, W_if, W_snil, W_scons, Then_next, Then_ret, Back_ret, Back_next, Wd_ok, Wd_bad, List.map_cons, List.map_nil, List.replicate_succ, List.replicate_zero, List.cons_append, List.nil_append, List.getElem?_cons_zero, List.getElem?_cons_succ, List.set_cons_zero, List.set_cons_succ, Option.some.injEq, exists_eq_left', List.length_cons, List.length_nil, setAll, wipeE, List.set]
      rw [X_bk hi]
      refine ⟨_, C_neS, ?_⟩
      rw [Wd_ite]
      split
      · simp only [Wd_bind, W_var, W_cI, W_cB, W_cS, W_cN, W_gcon, W_bin, W_neg, W_notE, W_and1, W_or1, W_and2, W_or2, W_cmp, W_ife, W_tup, W_lst, W_dic, W_call, W_callK, W_blt, W_meth, W_idx, W_sl, W_rev, W_nil, W_cons, W_val, W_vc, W_not, W_tand1, W_tor1, W_tand2, W_tor2, W_yes, W_name, W_tgt, W_tgsub, W_tgnil, W_tgcons, W_asg, W_par, W_exp, W_ret, W_if, W_snil, W_scons, Then_next, Then_ret, Back_ret, Back_next, Wd_ok, Wd_bad, List.map_cons, List.map_nil, List.replicate_succ, List.replicate_zero, List.cons_append, List.nil_append, List.getElem?_cons_zero, List.getElem?_cons_succ, List.set_cons_zero, List.set_cons_succ, Option.some.injEq, exists_eq_left', List.length_cons, List.length_nil, setAll]
        have c1 := wl_cut (w := w) none (some (i : Int))
        have c2 := wl_cut (w := w) (some ((i : Int) + 1)) none
        refine X_slB.mpr ⟨_, rfl, _, rfl, by decide, X_addT.mpr ⟨by simp only [List.length_cons, List.length_nil]; omega, ?_⟩⟩
        simp only [X_add]
        refine X_slB.mpr ⟨_, rfl, _, rfl, X_addT.mpr ⟨by simp only [List.length_append, List.length_cons, List.length_nil]; omega, ?_⟩⟩
        rw [put_wl hi]
        refine ⟨?_, rfl, fun y hy => ?_, ?_⟩
        · exact Nat.lt_of_le_of_lt ha2 (Nat.lt_trans hj (by decide))
        · rcases List.mem_append.mp hy with hy | hy
          · exact ha1 y hy
          · simp at hy; subst hy; exact ⟨_, hw.set hx, rfl⟩
        · simp; omega
      · exact ⟨rfl, ha1, by omega⟩
    · rintro acc st'' ⟨rfl, ha1, ha2⟩
      have hacc : acc.length ≤ 3 := by
        have : (dom i).length ≤ 3 := dom_three
        rw [List.length_map] at ha2
        omega
      have g1 : (st'' ++ [Ob.lst acc])[st.length]? = some (.lst xs) := get_app h2
      refine (X_extend g1 get_new (by omega)).mpr ?_
      refine ⟨_, _, _, xs ++ acc, rfl, get_set_self g1, fun x hx => ?_, by simp; omega, get_set_ne (by omega) (get_app h5), (h6.trans Fa.app).set (Nat.le_refl _)⟩
      rcases List.mem_append.mp hx with hx | hx
      · exact h3 x hx
      · exact ha1 x hx
  · rintro env st' ⟨e2, e3, e4, xs, rfl, h2, h3, h4, h5, h6⟩
    simp only [W_var, W_cI, W_cB, W_cS, W_cN, W_gcon, W_bin, W_neg, W_notE, W_and1, W_or1, W_and2, W_or2, W_cmp, W_ife, W_tup, W_lst, W_dic, W_call, W_callK, W_blt, W_meth, W_idx, W_sl, W_rev, W_nil, W_cons, W_val, W_vc, W_not, W_tand1, W_tor1, W_tand2, W_tor2, W_yes, W_name, W_tgt, W_tgsub, W_tgnil, W_tgcons, W_asg, W_par, W_exp, W_ret, W_if, W_snil, W_scons, Then_next, Then_ret, Back_ret, Back_next, Wd_ok, Wd_bad, List.map_cons, List.map_nil, List.replicate_succ, List.replicate_zero, List.cons_append, List.nil_append, List.getElem?_cons_zero, List.getElem?_cons_succ, List.set_cons_zero, List.set_cons_succ, Option.some.injEq, exists_eq_left', List.length_cons, List.length_nil, setAll]
    exact k _ _ _ h2 h3 h4 (Nat.le_refl _) h6
end K66

set_option Elab.async false
set_option linter.all false
set_option maxRecDepth 100000
set_option maxHeartbeats 4000000
namespace K66
open PL PySem
theorem cutD_map {α β : Type} (g : α → β) (xs : List α) (lo hi : Option Int) : cutD (xs.map g) lo hi = (cutD xs lo hi).map g := by
  unfold cutD; simp only [List.length_map, List.map_take, List.map_drop]
theorem cutD_len {α : Type} (xs : List α) (lo hi : Option Int) : (cutD xs lo hi).length ≤ xs.length := by
  unfold cutD; simp only [List.length_take, List.length_drop]; omega
theorem X_pow {i j : Int} {st : Sto} {P : D → Sto → Prop} (h : 0 ≤ j ∧ j ≤ 1000000 ∧ i.natAbs < 2 ^ 64) : Wd (binD .pow (.int i) (.int j) st) P ↔ P (.int (i ^ j.toNat)) st := by
  unfold binD; simp only []
  rw [if_pos (by simp [h.1, h.2.1, h.2.2])]; exact Iff.rfl
theorem bag_spec {n : Nat} {ns : List Int} {st : Sto} {P : D → Sto → Prop} (hn : ns.length ≤ 63) (k : ∀ r f st', Bag r f 1000000 st' → P (.ref r) st') : Wd (RC (n + 1) 6 [scriptD ns] st) P := by
  refine W_def (fn := f6) rfl rfl rfl ?_
  unfold scriptD
  simp only [f6, W_var, W_cI, W_cB, W_cS, W_cN, W_gcon, W_bin, W_neg, W_notE, W_and1, W_or1, W_and2, W_or2, W_cmp, W_ife, W_tup, W_lst, W_dic, W_call, W_callK, W_blt, W_meth, W_idx, W_sl, W_rev, W_nil, W_cons, W_val, W_vc, W_not, W_tand1, W_tor1, W_tand2, W_tor2, W_yes, W_name, W_tgt, W_tgsub, W_tgnil, W_tgcons, W_asg, W_par, W_exp, W_ret, W_if, W_snil, W_scons, Then_next, Then_ret, Back_ret, Back_next, Wd_ok, Wd_bad, List.map_cons, List.map_nil, List.replicate_succ, List.replicate_zero, List.cons_append, List.nil_append, List.getElem?_cons_zero, List.getElem?_cons_succ, List.set_cons_zero, List.set_cons_succ, Option.some.injEq, exists_eq_left', List.length_cons, List.length_nil, setAll, W_lc]
  refine X_slS.mpr ⟨_, rfl, _, rfl, ?_⟩
  rw [cutD_map]
  generalize hms : cutD ns none (some 63) = ms
  have hml : ms.length ≤ 63 := by rw [← hms]; exact Nat.le_trans (cutD_len _ _ _) hn
  have hq : (st ++ [Ob.lst (ms.map .int)])[st.length]? = some (.lst (ms.map .int)) := get_new
  refine ⟨.live st.length, by simp only [srcD, seqD, hq], ?_⟩
  refine W_lc_live (ds := ms.map .int) (fun i acc st' => st' = st ++ [Ob.lst (ms.map .int)] ∧ ∃ cs : List Int, acc = cs.map .int ∧ cs.length = i ∧ ∀ c ∈ cs, 0 ≤ c) ⟨rfl, [], rfl, rfl, fun c hc => (by cases hc)⟩ ?_ ?_ ?_
  · rintro i acc st' ⟨rfl, _⟩; exact hq
  · rintro i d acc st' hd ⟨rfl, cs, rfl, rfl, hc⟩
    have hi : cs.length < 63 := by
      have := (List.getElem?_eq_some_iff.mp hd).1
      rw [List.length_map] at this; omega
    rw [List.getElem?_map] at hd
    obtain ⟨x, hx, rfl⟩ := Option.map_eq_some_iff.mp hd
    simp only [Wd_bind, W_var, W_cI, W_cB, W_cS, W_cN, W_gcon, W_bin, W_neg, W_notE, W_and1, W_or1, W_and2, W_or2, W_cmp, W_ife, W_tup, W_lst, W_dic, W_call, W_callK, W_blt, W_meth, W_idx, W_sl, W_rev, W_nil, W_cons, W_val, W_vc, W_not, W_tand1, W_tor1, W_tand2, W_tor2, W_yes, W_name, W_tgt, W_tgsub, W_tgnil, W_tgcons, W_asg, W_par, W_exp, W_ret, W_if, W_snil, W_scons, Then_next, Then_ret, Back_ret, Back_next, Wd_ok, Wd_bad, List.map_cons, List.map_nil, List.replicate_succ, List.replicate_zero, List.cons_append, List.nil_append, List.getElem?_cons_zero, List.getElem?_cons_succ, List.set_cons_zero, List.set_cons_succ, Option.some.injEq, exists_eq_left', List.length_cons, List.length_nil, setAll, wipeE, List.set, if_true, X_abs, X_mul, C_lt, X_intB, X_add]
    refine ⟨by rw [Bool.or_eq_true]; exact .inl (by decide), by rw [List.length_map]; exact Nat.lt_trans hi (by decide), rfl, cs ++ [_], by rw [List.map_append]; rfl, by simp, fun c hc' => ?_⟩
    rcases List.mem_append.mp hc' with h | h
    · exact hc c h
    · simp at h; subst h
      split <;> omega
  · rintro acc st' ⟨rfl, cs, rfl, hcl, hc⟩
    have hcl : cs.length = ms.length := by rw [hcl, List.length_map]
    generalize hS : st ++ [Ob.lst (ms.map .int)] ++ [Ob.lst (cs.map .int)] = Z
    have hqc : Z[(st ++ [Ob.lst (ms.map .int)]).length]? = some (.lst (cs.map .int)) := by rw [← hS]; exact get_new
    generalize hQ : (st ++ [Ob.lst (ms.map .int)]).length = qc at hqc
    simp only [W_var, W_cI, W_cB, W_cS, W_cN, W_gcon, W_bin, W_neg, W_notE, W_and1, W_or1, W_and2, W_or2, W_cmp, W_ife, W_tup, W_lst, W_dic, W_call, W_callK, W_blt, W_meth, W_idx, W_sl, W_rev, W_nil, W_cons, W_val, W_vc, W_not, W_tand1, W_tor1, W_tand2, W_tor2, W_yes, W_name, W_tgt, W_tgsub, W_tgnil, W_tgcons, W_asg, W_par, W_exp, W_ret, W_if, W_snil, W_scons, Then_next, Then_ret, Back_ret, Back_next, Wd_ok, Wd_bad, List.map_cons, List.map_nil, List.replicate_succ, List.replicate_zero, List.cons_append, List.nil_append, List.getElem?_cons_zero, List.getElem?_cons_succ, List.set_cons_zero, List.set_cons_succ, Option.some.injEq, exists_eq_left', List.length_cons, List.length_nil, setAll, X_lenS, X_add, W_for]
    refine ⟨trivial, .live qc, by simp only [srcD, seqD, hqc], ?_⟩
    refine W_for_live (ds := cs.map .int) (fun i env st' => st' = Z ∧ ∃ s e, (0 ≤ s ∧ s < 4294967291) ∧ env = [some (.scr (ns.map .int)), some (.ref qc), some (.int s), e]) ⟨rfl, _, _, ?_, rfl⟩ ?_ ?_ ?_
    · simp only [List.length_map]; omega
    · rintro i env st' ⟨hz, _⟩; rw [hz]; exact hqc
    · rintro i d env st' hd ⟨hz, s, e, hs, rfl⟩
      replace hz := hz.symm; subst hz
      rw [List.getElem?_map] at hd
      obtain ⟨x, hx, rfl⟩ := Option.map_eq_some_iff.mp hd
      simp only [Wd_bind, W_var, W_cI, W_cB, W_cS, W_cN, W_gcon, W_bin, W_neg, W_notE, W_and1, W_or1, W_and2, W_or2, W_cmp, W_ife, W_tup, W_lst, W_dic, W_call, W_callK, W_blt, W_meth, W_idx, W_sl, W_rev, W_nil, W_cons, W_val, W_vc, W_not, W_tand1, W_tor1, W_tand2, W_tor2, W_yes, W_name, W_tgt, W_tgsub, W_tgnil, W_tgcons, W_asg, W_par, W_exp, W_ret, W_if, W_snil, W_scons, Then_next, Then_ret, Back_ret, Back_next, Wd_ok, Wd_bad, List.map_cons, List.map_nil, List.replicate_succ, List.replicate_zero, List.cons_append, List.nil_append, List.getElem?_cons_zero, List.getElem?_cons_succ, List.set_cons_zero, List.set_cons_succ, Option.some.injEq, exists_eq_left', List.length_cons, List.length_nil, setAll, X_mul, X_add, X_int, X_md]
      exact ⟨small_r (by decide), by decide, rfl, _, _, ⟨Int.emod_nonneg _ (by decide), Int.emod_lt_of_pos _ (by decide)⟩, rfl⟩
    · rintro env st' ⟨hz, s, e, hs, rfl⟩
      replace hz := hz.symm; subst hz
      simp only [W_var, W_cI, W_cB, W_cS, W_cN, W_gcon, W_bin, W_neg, W_notE, W_and1, W_or1, W_and2, W_or2, W_cmp, W_ife, W_tup, W_lst, W_dic, W_call, W_callK, W_blt, W_meth, W_idx, W_sl, W_rev, W_nil, W_cons, W_val, W_vc, W_not, W_tand1, W_tor1, W_tand2, W_tor2, W_yes, W_name, W_tgt, W_tgsub, W_tgnil, W_tgcons, W_asg, W_par, W_exp, W_ret, W_if, W_snil, W_scons, Then_next, Then_ret, Back_ret, Back_next, Wd_ok, Wd_bad, List.map_cons, List.map_nil, List.replicate_succ, List.replicate_zero, List.cons_append, List.nil_append, List.getElem?_cons_zero, List.getElem?_cons_succ, List.set_cons_zero, List.set_cons_succ, Option.some.injEq, exists_eq_left', List.length_cons, List.length_nil, setAll, W_lc]
      refine ⟨.live qc, by simp only [srcD, seqD, hqc], ?_⟩
      refine W_lc_live (ds := cs.map .int) (fun i acc st' => st' = Z ∧ ∃ fs : List Int, acc = fs.map .int ∧ fs.length ≤ i ∧ ∀ c ∈ fs, 0 ≤ c) ⟨rfl, [], rfl, by simp, fun c hc => (by cases hc)⟩ ?_ ?_ ?_
      · rintro i acc st' ⟨hz, _⟩; rw [hz]; exact hqc
      · rintro i d acc st' hd ⟨hz, fs, rfl, hfl, hf⟩
        replace hz := hz.symm; subst hz
        have hi : i < 63 := by
          have := (List.getElem?_eq_some_iff.mp hd).1
          rw [List.length_map] at this; omega
        rw [List.getElem?_map] at hd
        obtain ⟨x, hx, rfl⟩ := Option.map_eq_some_iff.mp hd
        have hx0 : 0 ≤ x := hc x (List.mem_of_getElem? hx)
        simp only [Wd_bind, W_var, W_cI, W_cB, W_cS, W_cN, W_gcon, W_bin, W_neg, W_notE, W_and1, W_or1, W_and2, W_or2, W_cmp, W_ife, W_tup, W_lst, W_dic, W_call, W_callK, W_blt, W_meth, W_idx, W_sl, W_rev, W_nil, W_cons, W_val, W_vc, W_not, W_tand1, W_tor1, W_tand2, W_tor2, W_yes, W_name, W_tgt, W_tgsub, W_tgnil, W_tgcons, W_asg, W_par, W_exp, W_ret, W_if, W_snil, W_scons, Then_next, Then_ret, Back_ret, Back_next, Wd_ok, Wd_bad, List.map_cons, List.map_nil, List.replicate_succ, List.replicate_zero, List.cons_append, List.nil_append, List.getElem?_cons_zero, List.getElem?_cons_succ, List.set_cons_zero, List.set_cons_succ, Option.some.injEq, exists_eq_left', List.length_cons, List.length_nil, setAll, wipeE, List.set]
        refine (X_pow (by decide)).mpr ⟨_, C_ge, ?_⟩
        rw [Wd_ite]
        split
        · simp only [Wd_bind, W_var, W_cI, W_cB, W_cS, W_cN, W_gcon, W_bin, W_neg, W_notE, W_and1, W_or1, W_and2, W_or2, W_cmp, W_ife, W_tup, W_lst, W_dic, W_call, W_callK, W_blt, W_meth, W_idx, W_sl, W_rev, W_nil, W_cons, W_val, W_vc, W_not, W_tand1, W_tor1, W_tand2, W_tor2, W_yes, W_name, W_tgt, W_tgsub, W_tgnil, W_tgcons, W_asg, W_par, W_exp, W_ret, W_if, W_snil, W_scons, Then_next, Then_ret, Back_ret, Back_next, Wd_ok, Wd_bad, List.map_cons, List.map_nil, List.replicate_succ, List.replicate_zero, List.cons_append, List.nil_append, List.getElem?_cons_zero, List.getElem?_cons_succ, List.set_cons_zero, List.set_cons_succ, Option.some.injEq, exists_eq_left', List.length_cons, List.length_nil, setAll]
          refine ⟨by rw [List.length_map]; exact Nat.lt_of_le_of_lt hfl (Nat.lt_trans hi (by decide)), rfl, fs ++ [x], by rw [List.map_append]; rfl, by simp; omega, fun c hc' => ?_⟩
          rcases List.mem_append.mp hc' with h | h
          · exact hf c h
          · simp at h; subst h; exact hx0
        · exact ⟨rfl, fs, rfl, by omega, hf⟩
      · rintro acc st' ⟨hz, fs, rfl, hfl, hf⟩
        replace hz := hz.symm; subst hz
        rw [List.length_map] at hfl
        refine ⟨by decide, k _ Z.length _ ⟨?_, s, 0, fs, get_new, get_app get_new, hs, by decide, hf, by omega⟩⟩
        simp
end K66

set_option Elab.async false
set_option linter.all false
set_option maxRecDepth 100000
set_option maxHeartbeats 4000000
/-! defs of books alone -/
namespace K66
open PL PySem
/-- both tell the same: a number of a slip, or none -/
def eqN : Res D → Res D → Bool
  | .ok (.int a) _, .ok (.int b) _ => decide (a = b) && ([1, 2, 3, 4, 6, 7, 8, 9] : List Int).contains a
  | .ok .non _, .ok .non _ => true
  | _, _ => false
def isNon : Res D → Bool
  | .ok .non _ => true
  | _ => false
def impB (a b : Bool) : Bool := match a with
  | true => b
  | false => true
def lf_same  (w : Nat → Str) : Bool := eqN (PL.run prog cons 8 4 [bk w] []) (PL.run prog cons 8 13 [bk w] [])
def tr_same_1 : Tr := (.node 1 [(.node 6 [.leaf, .leaf]), (.node 6 [.leaf, .leaf]), .leaf])
theorem t_same_1 (w : Nat → Str) : tr_same_1.chk dom (lf_same) (setW (w) 0 "none") = true := by kernel_rfl
def tr_same_3 : Tr := (.node 6 [.leaf, .leaf])
theorem t_same_3 (w : Nat → Str) : tr_same_3.chk dom (lf_same) (setW (setW (w) 0 "perhaps") 1 "none") = true := by kernel_rfl
def tr_same_5 : Tr := (.node 3 [.leaf, (.node 5 [(.node 7 [(.node 9 [(.node 11 [(.node 8 [.leaf, .leaf, (.node 2 [.leaf, .leaf, .leaf])]), .leaf]), .leaf]), .leaf, (.node 9 [(.node 11 [(.node 8 [.leaf, .leaf, (.node 2 [.leaf, .leaf, .leaf])]), .leaf]), .leaf])]), .leaf]), (.node 7 [(.node 9 [(.node 11 [(.node 8 [.leaf, .leaf, (.node 2 [.leaf, .leaf, .leaf])]), .leaf]), .leaf]), .leaf, (.node 9 [(.node 11 [(.node 8 [.leaf, .leaf, (.node 2 [.leaf, .leaf, .leaf])]), .leaf]), .leaf])])])
theorem t_same_5 (w : Nat → Str) : tr_same_5.chk dom (lf_same) (setW (setW (setW (w) 0 "perhaps") 1 "perhaps") 6 "none") = true := by kernel_rfl
def tr_same_7 : Tr := (.node 4 [.leaf, .leaf, .leaf])
theorem t_same_7 (w : Nat → Str) : tr_same_7.chk dom (lf_same) (setW (setW (setW (setW (w) 0 "perhaps") 1 "perhaps") 6 "sure") 3 "answer") = true := by kernel_rfl
def tr_same_9 : Tr := .leaf
theorem t_same_9 (w : Nat → Str) : tr_same_9.chk dom (lf_same) (setW (setW (setW (setW (setW (w) 0 "perhaps") 1 "perhaps") 6 "sure") 3 "check") 4 "answer") = true := by kernel_rfl
def tr_same_10 : Tr := (.node 5 [(.node 2 [(.node 8 [(.node 9 [(.node 7 [(.node 11 [.leaf, .leaf]), .leaf, (.node 11 [.leaf, .leaf])]), (.node 7 [.leaf, .leaf, .leaf])]), (.node 10 [(.node 7 [(.node 9 [(.node 11 [.leaf, .leaf]), .leaf]), .leaf, (.node 9 [(.node 11 [.leaf, .leaf]), .leaf])]), (.node 7 [(.node 9 [(.node 11 [.leaf, .leaf]), .leaf]), .leaf, (.node 9 [(.node 11 [.leaf, .leaf]), .leaf])])]), (.node 7 [(.node 9 [(.node 11 [.leaf, .leaf]), .leaf]), .leaf, (.node 9 [(.node 11 [.leaf, .leaf]), .leaf])])]), (.node 8 [(.node 9 [(.node 7 [(.node 11 [.leaf, .leaf]), .leaf, (.node 11 [.leaf, .leaf])]), (.node 7 [.leaf, .leaf, .leaf])]), (.node 10 [(.node 7 [(.node 9 [(.node 11 [.leaf, .leaf]), .leaf]), .leaf, (.node 9 [(.node 11 [.leaf, .leaf]), .leaf])]), (.node 7 [(.node 9 [(.node 11 [.leaf, .leaf]), .leaf]), .leaf, (.node 9 [(.node 11 [.leaf, .leaf]), .leaf])])]), (.node 7 [(.node 9 [(.node 11 [.leaf, .leaf]), .leaf]), .leaf, (.node 9 [(.node 11 [.leaf, .leaf]), .leaf])])]), (.node 7 [(.node 9 [(.node 11 [(.node 8 [.leaf, .leaf, .leaf]), .leaf]), .leaf]), .leaf, (.node 9 [(.node 11 [(.node 8 [.leaf, .leaf, .leaf]), .leaf]), .leaf])])]), .leaf])
theorem t_same_10 (w : Nat → Str) : tr_same_10.chk dom (lf_same) (setW (setW (setW (setW (setW (w) 0 "perhaps") 1 "perhaps") 6 "sure") 3 "check") 4 "check") = true := by kernel_rfl
def tr_same_11 : Tr := (.node 5 [(.node 2 [(.node 8 [(.node 9 [(.node 7 [(.node 11 [.leaf, .leaf]), .leaf, (.node 11 [.leaf, .leaf])]), (.node 7 [.leaf, .leaf, .leaf])]), (.node 10 [(.node 7 [(.node 9 [(.node 11 [.leaf, .leaf]), .leaf]), .leaf, (.node 9 [(.node 11 [.leaf, .leaf]), .leaf])]), (.node 7 [(.node 9 [(.node 11 [.leaf, .leaf]), .leaf]), .leaf, (.node 9 [(.node 11 [.leaf, .leaf]), .leaf])])]), (.node 7 [(.node 9 [(.node 11 [.leaf, .leaf]), .leaf]), .leaf, (.node 9 [(.node 11 [.leaf, .leaf]), .leaf])])]), (.node 8 [(.node 9 [(.node 7 [(.node 11 [.leaf, .leaf]), .leaf, (.node 11 [.leaf, .leaf])]), (.node 7 [.leaf, .leaf, .leaf])]), (.node 10 [(.node 7 [(.node 9 [(.node 11 [.leaf, .leaf]), .leaf]), .leaf, (.node 9 [(.node 11 [.leaf, .leaf]), .leaf])]), (.node 7 [(.node 9 [(.node 11 [.leaf, .leaf]), .leaf]), .leaf, (.node 9 [(.node 11 [.leaf, .leaf]), .leaf])])]), (.node 7 [(.node 9 [(.node 11 [.leaf, .leaf]), .leaf]), .leaf, (.node 9 [(.node 11 [.leaf, .leaf]), .leaf])])]), (.node 7 [(.node 9 [(.node 11 [(.node 8 [.leaf, .leaf, .leaf]), .leaf]), .leaf]), .leaf, (.node 9 [(.node 11 [(.node 8 [.leaf, .leaf, .leaf]), .leaf]), .leaf])])]), .leaf])
theorem t_same_11 (w : Nat → Str) : tr_same_11.chk dom (lf_same) (setW (setW (setW (setW (setW (w) 0 "perhaps") 1 "perhaps") 6 "sure") 3 "check") 4 "work") = true := by kernel_rfl
def tr_same_8 : Tr := .node 4 [tr_same_9, tr_same_10, tr_same_11]
theorem t_same_8 (w : Nat → Str) : tr_same_8.chk dom (lf_same) (setW (setW (setW (setW (w) 0 "perhaps") 1 "perhaps") 6 "sure") 3 "check") = true := by
  simp only [tr_same_8, Tr.chk, PL.chkAll, PL.dom, t_same_9, t_same_10, t_same_11, Bool.and_self]
def tr_same_13 : Tr := .leaf
theorem t_same_13 (w : Nat → Str) : tr_same_13.chk dom (lf_same) (setW (setW (setW (setW (setW (w) 0 "perhaps") 1 "perhaps") 6 "sure") 3 "work") 4 "answer") = true := by kernel_rfl
def tr_same_15 : Tr := (.node 2 [(.node 8 [(.node 9 [(.node 7 [(.node 11 [.leaf, .leaf]), .leaf, (.node 11 [.leaf, .leaf])]), (.node 7 [.leaf, .leaf, .leaf])]), (.node 10 [(.node 7 [(.node 9 [(.node 11 [.leaf, .leaf]), .leaf]), .leaf, (.node 9 [(.node 11 [.leaf, .leaf]), .leaf])]), (.node 7 [(.node 9 [(.node 11 [.leaf, .leaf]), .leaf]), .leaf, (.node 9 [(.node 11 [.leaf, .leaf]), .leaf])])]), (.node 7 [(.node 9 [(.node 11 [.leaf, .leaf]), .leaf]), .leaf, (.node 9 [(.node 11 [.leaf, .leaf]), .leaf])])]), (.node 8 [(.node 9 [(.node 7 [(.node 11 [.leaf, .leaf]), .leaf, (.node 11 [.leaf, .leaf])]), (.node 7 [.leaf, .leaf, .leaf])]), (.node 10 [(.node 7 [(.node 9 [(.node 11 [.leaf, .leaf]), .leaf]), .leaf, (.node 9 [(.node 11 [.leaf, .leaf]), .leaf])]), (.node 7 [(.node 9 [(.node 11 [.leaf, .leaf]), .leaf]), .leaf, (.node 9 [(.node 11 [.leaf, .leaf]), .leaf])])]), (.node 7 [(.node 9 [(.node 11 [.leaf, .leaf]), .leaf]), .leaf, (.node 9 [(.node 11 [.leaf, .leaf]), .leaf])])]), (.node 7 [(.node 9 [(.node 11 [(.node 8 [.leaf, .leaf, .leaf]), .leaf]), .leaf]), .leaf, (.node 9 [(.node 11 [(.node 8 [.leaf, .leaf, .leaf]), .leaf]), .leaf])])])
theorem t_same_15 (w : Nat → Str) : tr_same_15.chk dom (lf_same) (setW (setW (setW (setW (setW (setW (w) 0 "perhaps") 1 "perhaps") 6 "sure") 3 "work") 4 "check") 5 "values") = true := by kernel_rfl
def tr_same_16 : Tr := (.node 8 [.leaf, (.node 2 [(.node 10 [(.node 7 [(.node 9 [(.node 11 [.leaf, .leaf]), .leaf]), .leaf, (.node 9 [(.node 11 [.leaf, .leaf]), .leaf])]), (.node 7 [(.node 9 [(.node 11 [.leaf, .leaf]), .leaf]), .leaf, (.node 9 [(.node 11 [.leaf, .leaf]), .leaf])])]), (.node 10 [(.node 7 [(.node 9 [(.node 11 [.leaf, .leaf]), .leaf]), .leaf, (.node 9 [(.node 11 [.leaf, .leaf]), .leaf])]), (.node 7 [(.node 9 [(.node 11 [.leaf, .leaf]), .leaf]), .leaf, (.node 9 [(.node 11 [.leaf, .leaf]), .leaf])])]), (.node 7 [(.node 9 [(.node 11 [.leaf, .leaf]), .leaf]), .leaf, (.node 9 [(.node 11 [.leaf, .leaf]), .leaf])])]), (.node 2 [(.node 7 [(.node 9 [(.node 11 [.leaf, .leaf]), .leaf]), .leaf, (.node 9 [(.node 11 [.leaf, .leaf]), .leaf])]), (.node 7 [(.node 9 [(.node 11 [.leaf, .leaf]), .leaf]), .leaf, (.node 9 [(.node 11 [.leaf, .leaf]), .leaf])]), (.node 7 [(.node 9 [(.node 11 [.leaf, .leaf]), .leaf]), .leaf, (.node 9 [(.node 11 [.leaf, .leaf]), .leaf])])])])
theorem t_same_16 (w : Nat → Str) : tr_same_16.chk dom (lf_same) (setW (setW (setW (setW (setW (setW (w) 0 "perhaps") 1 "perhaps") 6 "sure") 3 "work") 4 "check") 5 "mark") = true := by kernel_rfl
def tr_same_14 : Tr := .node 5 [tr_same_15, tr_same_16]
theorem t_same_14 (w : Nat → Str) : tr_same_14.chk dom (lf_same) (setW (setW (setW (setW (setW (w) 0 "perhaps") 1 "perhaps") 6 "sure") 3 "work") 4 "check") = true := by
  simp only [tr_same_14, Tr.chk, PL.chkAll, PL.dom, t_same_15, t_same_16, Bool.and_self]
def tr_same_17 : Tr := (.node 2 [(.node 8 [(.node 9 [(.node 7 [(.node 11 [.leaf, .leaf]), .leaf, (.node 11 [.leaf, .leaf])]), (.node 7 [.leaf, .leaf, .leaf])]), (.node 10 [(.node 7 [(.node 9 [(.node 11 [.leaf, .leaf]), .leaf]), .leaf, (.node 9 [(.node 11 [.leaf, .leaf]), .leaf])]), (.node 7 [(.node 9 [(.node 11 [.leaf, .leaf]), .leaf]), .leaf, (.node 9 [(.node 11 [.leaf, .leaf]), .leaf])])]), (.node 7 [(.node 9 [(.node 11 [.leaf, .leaf]), .leaf]), .leaf, (.node 9 [(.node 11 [.leaf, .leaf]), .leaf])])]), (.node 8 [(.node 9 [(.node 7 [(.node 11 [.leaf, .leaf]), .leaf, (.node 11 [.leaf, .leaf])]), (.node 7 [.leaf, .leaf, .leaf])]), (.node 10 [(.node 7 [(.node 9 [(.node 11 [.leaf, .leaf]), .leaf]), .leaf, (.node 9 [(.node 11 [.leaf, .leaf]), .leaf])]), (.node 7 [(.node 9 [(.node 11 [.leaf, .leaf]), .leaf]), .leaf, (.node 9 [(.node 11 [.leaf, .leaf]), .leaf])])]), (.node 7 [(.node 9 [(.node 11 [.leaf, .leaf]), .leaf]), .leaf, (.node 9 [(.node 11 [.leaf, .leaf]), .leaf])])]), (.node 7 [(.node 9 [(.node 11 [(.node 8 [.leaf, .leaf, .leaf]), .leaf]), .leaf]), .leaf, (.node 9 [(.node 11 [(.node 8 [.leaf, .leaf, .leaf]), .leaf]), .leaf])])])
theorem t_same_17 (w : Nat → Str) : tr_same_17.chk dom (lf_same) (setW (setW (setW (setW (setW (w) 0 "perhaps") 1 "perhaps") 6 "sure") 3 "work") 4 "work") = true := by kernel_rfl
def tr_same_12 : Tr := .node 4 [tr_same_13, tr_same_14, tr_same_17]
theorem t_same_12 (w : Nat → Str) : tr_same_12.chk dom (lf_same) (setW (setW (setW (setW (w) 0 "perhaps") 1 "perhaps") 6 "sure") 3 "work") = true := by
  simp only [tr_same_12, Tr.chk, PL.chkAll, PL.dom, t_same_13, t_same_14, t_same_17, Bool.and_self]
def tr_same_6 : Tr := .node 3 [tr_same_7, tr_same_8, tr_same_12]
theorem t_same_6 (w : Nat → Str) : tr_same_6.chk dom (lf_same) (setW (setW (setW (w) 0 "perhaps") 1 "perhaps") 6 "sure") = true := by
  simp only [tr_same_6, Tr.chk, PL.chkAll, PL.dom, t_same_7, t_same_8, t_same_12, Bool.and_self]
def tr_same_4 : Tr := .node 6 [tr_same_5, tr_same_6]
theorem t_same_4 (w : Nat → Str) : tr_same_4.chk dom (lf_same) (setW (setW (w) 0 "perhaps") 1 "perhaps") = true := by
  simp only [tr_same_4, Tr.chk, PL.chkAll, PL.dom, t_same_5, t_same_6, Bool.and_self]
def tr_same_19 : Tr := (.node 3 [(.node 4 [.leaf, .leaf, .leaf]), (.node 4 [.leaf, (.node 5 [(.node 7 [(.node 9 [(.node 11 [(.node 8 [.leaf, .leaf, (.node 2 [.leaf, .leaf, .leaf])]), .leaf]), .leaf]), .leaf, (.node 9 [(.node 11 [(.node 8 [.leaf, .leaf, (.node 2 [.leaf, .leaf, .leaf])]), .leaf]), .leaf])]), .leaf]), (.node 5 [(.node 7 [(.node 9 [(.node 11 [(.node 8 [.leaf, .leaf, (.node 2 [.leaf, .leaf, .leaf])]), .leaf]), .leaf]), .leaf, (.node 9 [(.node 11 [(.node 8 [.leaf, .leaf, (.node 2 [.leaf, .leaf, .leaf])]), .leaf]), .leaf])]), .leaf])]), (.node 4 [.leaf, (.node 5 [(.node 7 [(.node 9 [(.node 11 [(.node 8 [.leaf, .leaf, (.node 2 [.leaf, .leaf, .leaf])]), .leaf]), .leaf]), .leaf, (.node 9 [(.node 11 [(.node 8 [.leaf, .leaf, (.node 2 [.leaf, .leaf, .leaf])]), .leaf]), .leaf])]), (.node 8 [.leaf, (.node 7 [(.node 9 [(.node 11 [.leaf, .leaf]), .leaf]), .leaf, (.node 9 [(.node 11 [.leaf, .leaf]), .leaf])]), (.node 7 [(.node 9 [(.node 11 [(.node 2 [.leaf, .leaf, .leaf]), .leaf]), .leaf]), .leaf, (.node 9 [(.node 11 [(.node 2 [.leaf, .leaf, .leaf]), .leaf]), .leaf])])])]), (.node 7 [(.node 9 [(.node 11 [(.node 8 [.leaf, .leaf, (.node 2 [.leaf, .leaf, .leaf])]), .leaf]), .leaf]), .leaf, (.node 9 [(.node 11 [(.node 8 [.leaf, .leaf, (.node 2 [.leaf, .leaf, .leaf])]), .leaf]), .leaf])])])])
theorem t_same_19 (w : Nat → Str) : tr_same_19.chk dom (lf_same) (setW (setW (setW (w) 0 "perhaps") 1 "sure") 6 "none") = true := by kernel_rfl
def tr_same_21 : Tr := (.node 4 [.leaf, .leaf, .leaf])
theorem t_same_21 (w : Nat → Str) : tr_same_21.chk dom (lf_same) (setW (setW (setW (setW (w) 0 "perhaps") 1 "sure") 6 "sure") 3 "answer") = true := by kernel_rfl
def tr_same_23 : Tr := .leaf
theorem t_same_23 (w : Nat → Str) : tr_same_23.chk dom (lf_same) (setW (setW (setW (setW (setW (w) 0 "perhaps") 1 "sure") 6 "sure") 3 "check") 4 "answer") = true := by kernel_rfl
def tr_same_24 : Tr := (.node 5 [(.node 2 [(.node 8 [(.node 9 [(.node 7 [(.node 11 [.leaf, .leaf]), .leaf, (.node 11 [.leaf, .leaf])]), (.node 7 [.leaf, .leaf, .leaf])]), (.node 10 [(.node 7 [(.node 9 [(.node 11 [.leaf, .leaf]), .leaf]), .leaf, (.node 9 [(.node 11 [.leaf, .leaf]), .leaf])]), (.node 7 [(.node 9 [(.node 11 [.leaf, .leaf]), .leaf]), .leaf, (.node 9 [(.node 11 [.leaf, .leaf]), .leaf])])]), (.node 7 [(.node 9 [(.node 11 [.leaf, .leaf]), .leaf]), .leaf, (.node 9 [(.node 11 [.leaf, .leaf]), .leaf])])]), (.node 8 [(.node 9 [(.node 7 [(.node 11 [.leaf, .leaf]), .leaf, (.node 11 [.leaf, .leaf])]), (.node 7 [.leaf, .leaf, .leaf])]), (.node 10 [(.node 7 [(.node 9 [(.node 11 [.leaf, .leaf]), .leaf]), .leaf, (.node 9 [(.node 11 [.leaf, .leaf]), .leaf])]), (.node 7 [(.node 9 [(.node 11 [.leaf, .leaf]), .leaf]), .leaf, (.node 9 [(.node 11 [.leaf, .leaf]), .leaf])])]), (.node 7 [(.node 9 [(.node 11 [.leaf, .leaf]), .leaf]), .leaf, (.node 9 [(.node 11 [.leaf, .leaf]), .leaf])])]), (.node 7 [(.node 9 [(.node 11 [(.node 8 [.leaf, .leaf, .leaf]), .leaf]), .leaf]), .leaf, (.node 9 [(.node 11 [(.node 8 [.leaf, .leaf, .leaf]), .leaf]), .leaf])])]), .leaf])
theorem t_same_24 (w : Nat → Str) : tr_same_24.chk dom (lf_same) (setW (setW (setW (setW (setW (w) 0 "perhaps") 1 "sure") 6 "sure") 3 "check") 4 "check") = true := by kernel_rfl
def tr_same_25 : Tr := (.node 5 [(.node 2 [(.node 8 [(.node 9 [(.node 7 [(.node 11 [.leaf, .leaf]), .leaf, (.node 11 [.leaf, .leaf])]), (.node 7 [.leaf, .leaf, .leaf])]), (.node 10 [(.node 7 [(.node 9 [(.node 11 [.leaf, .leaf]), .leaf]), .leaf, (.node 9 [(.node 11 [.leaf, .leaf]), .leaf])]), (.node 7 [(.node 9 [(.node 11 [.leaf, .leaf]), .leaf]), .leaf, (.node 9 [(.node 11 [.leaf, .leaf]), .leaf])])]), (.node 7 [(.node 9 [(.node 11 [.leaf, .leaf]), .leaf]), .leaf, (.node 9 [(.node 11 [.leaf, .leaf]), .leaf])])]), (.node 8 [(.node 9 [(.node 7 [(.node 11 [.leaf, .leaf]), .leaf, (.node 11 [.leaf, .leaf])]), (.node 7 [.leaf, .leaf, .leaf])]), (.node 10 [(.node 7 [(.node 9 [(.node 11 [.leaf, .leaf]), .leaf]), .leaf, (.node 9 [(.node 11 [.leaf, .leaf]), .leaf])]), (.node 7 [(.node 9 [(.node 11 [.leaf, .leaf]), .leaf]), .leaf, (.node 9 [(.node 11 [.leaf, .leaf]), .leaf])])]), (.node 7 [(.node 9 [(.node 11 [.leaf, .leaf]), .leaf]), .leaf, (.node 9 [(.node 11 [.leaf, .leaf]), .leaf])])]), (.node 7 [(.node 9 [(.node 11 [(.node 8 [.leaf, .leaf, .leaf]), .leaf]), .leaf]), .leaf, (.node 9 [(.node 11 [(.node 8 [.leaf, .leaf, .leaf]), .leaf]), .leaf])])]), .leaf])
theorem t_same_25 (w : Nat → Str) : tr_same_25.chk dom (lf_same) (setW (setW (setW (setW (setW (w) 0 "perhaps") 1 "sure") 6 "sure") 3 "check") 4 "work") = true := by kernel_rfl
def tr_same_22 : Tr := .node 4 [tr_same_23, tr_same_24, tr_same_25]
theorem t_same_22 (w : Nat → Str) : tr_same_22.chk dom (lf_same) (setW (setW (setW (setW (w) 0 "perhaps") 1 "sure") 6 "sure") 3 "check") = true := by
  simp only [tr_same_22, Tr.chk, PL.chkAll, PL.dom, t_same_23, t_same_24, t_same_25, Bool.and_self]
def tr_same_27 : Tr := .leaf
theorem t_same_27 (w : Nat → Str) : tr_same_27.chk dom (lf_same) (setW (setW (setW (setW (setW (w) 0 "perhaps") 1 "sure") 6 "sure") 3 "work") 4 "answer") = true := by kernel_rfl
def tr_same_29 : Tr := (.node 2 [(.node 8 [(.node 9 [(.node 7 [(.node 11 [.leaf, .leaf]), .leaf, (.node 11 [.leaf, .leaf])]), (.node 7 [.leaf, .leaf, .leaf])]), (.node 10 [(.node 7 [(.node 9 [(.node 11 [.leaf, .leaf]), .leaf]), .leaf, (.node 9 [(.node 11 [.leaf, .leaf]), .leaf])]), (.node 7 [(.node 9 [(.node 11 [.leaf, .leaf]), .leaf]), .leaf, (.node 9 [(.node 11 [.leaf, .leaf]), .leaf])])]), (.node 7 [(.node 9 [(.node 11 [.leaf, .leaf]), .leaf]), .leaf, (.node 9 [(.node 11 [.leaf, .leaf]), .leaf])])]), (.node 8 [(.node 9 [(.node 7 [(.node 11 [.leaf, .leaf]), .leaf, (.node 11 [.leaf, .leaf])]), (.node 7 [.leaf, .leaf, .leaf])]), (.node 10 [(.node 7 [(.node 9 [(.node 11 [.leaf, .leaf]), .leaf]), .leaf, (.node 9 [(.node 11 [.leaf, .leaf]), .leaf])]), (.node 7 [(.node 9 [(.node 11 [.leaf, .leaf]), .leaf]), .leaf, (.node 9 [(.node 11 [.leaf, .leaf]), .leaf])])]), (.node 7 [(.node 9 [(.node 11 [.leaf, .leaf]), .leaf]), .leaf, (.node 9 [(.node 11 [.leaf, .leaf]), .leaf])])]), (.node 7 [(.node 9 [(.node 11 [(.node 8 [.leaf, .leaf, .leaf]), .leaf]), .leaf]), .leaf, (.node 9 [(.node 11 [(.node 8 [.leaf, .leaf, .leaf]), .leaf]), .leaf])])])
theorem t_same_29 (w : Nat → Str) : tr_same_29.chk dom (lf_same) (setW (setW (setW (setW (setW (setW (w) 0 "perhaps") 1 "sure") 6 "sure") 3 "work") 4 "check") 5 "values") = true := by kernel_rfl
def tr_same_30 : Tr := (.node 8 [.leaf, (.node 2 [(.node 10 [(.node 7 [(.node 9 [(.node 11 [.leaf, .leaf]), .leaf]), .leaf, (.node 9 [(.node 11 [.leaf, .leaf]), .leaf])]), (.node 7 [(.node 9 [(.node 11 [.leaf, .leaf]), .leaf]), .leaf, (.node 9 [(.node 11 [.leaf, .leaf]), .leaf])])]), (.node 10 [(.node 7 [(.node 9 [(.node 11 [.leaf, .leaf]), .leaf]), .leaf, (.node 9 [(.node 11 [.leaf, .leaf]), .leaf])]), (.node 7 [(.node 9 [(.node 11 [.leaf, .leaf]), .leaf]), .leaf, (.node 9 [(.node 11 [.leaf, .leaf]), .leaf])])]), (.node 7 [(.node 9 [(.node 11 [.leaf, .leaf]), .leaf]), .leaf, (.node 9 [(.node 11 [.leaf, .leaf]), .leaf])])]), (.node 2 [(.node 7 [(.node 9 [(.node 11 [.leaf, .leaf]), .leaf]), .leaf, (.node 9 [(.node 11 [.leaf, .leaf]), .leaf])]), (.node 7 [(.node 9 [(.node 11 [.leaf, .leaf]), .leaf]), .leaf, (.node 9 [(.node 11 [.leaf, .leaf]), .leaf])]), (.node 7 [(.node 9 [(.node 11 [.leaf, .leaf]), .leaf]), .leaf, (.node 9 [(.node 11 [.leaf, .leaf]), .leaf])])])])
theorem t_same_30 (w : Nat → Str) : tr_same_30.chk dom (lf_same) (setW (setW (setW (setW (setW (setW (w) 0 "perhaps") 1 "sure") 6 "sure") 3 "work") 4 "check") 5 "mark") = true := by kernel_rfl
def tr_same_28 : Tr := .node 5 [tr_same_29, tr_same_30]
theorem t_same_28 (w : Nat → Str) : tr_same_28.chk dom (lf_same) (setW (setW (setW (setW (setW (w) 0 "perhaps") 1 "sure") 6 "sure") 3 "work") 4 "check") = true := by
  simp only [tr_same_28, Tr.chk, PL.chkAll, PL.dom, t_same_29, t_same_30, Bool.and_self]
def tr_same_31 : Tr := (.node 2 [(.node 8 [(.node 9 [(.node 7 [(.node 11 [.leaf, .leaf]), .leaf, (.node 11 [.leaf, .leaf])]), (.node 7 [.leaf, .leaf, .leaf])]), (.node 10 [(.node 7 [(.node 9 [(.node 11 [.leaf, .leaf]), .leaf]), .leaf, (.node 9 [(.node 11 [.leaf, .leaf]), .leaf])]), (.node 7 [(.node 9 [(.node 11 [.leaf, .leaf]), .leaf]), .leaf, (.node 9 [(.node 11 [.leaf, .leaf]), .leaf])])]), (.node 7 [(.node 9 [(.node 11 [.leaf, .leaf]), .leaf]), .leaf, (.node 9 [(.node 11 [.leaf, .leaf]), .leaf])])]), (.node 8 [(.node 9 [(.node 7 [(.node 11 [.leaf, .leaf]), .leaf, (.node 11 [.leaf, .leaf])]), (.node 7 [.leaf, .leaf, .leaf])]), (.node 10 [(.node 7 [(.node 9 [(.node 11 [.leaf, .leaf]), .leaf]), .leaf, (.node 9 [(.node 11 [.leaf, .leaf]), .leaf])]), (.node 7 [(.node 9 [(.node 11 [.leaf, .leaf]), .leaf]), .leaf, (.node 9 [(.node 11 [.leaf, .leaf]), .leaf])])]), (.node 7 [(.node 9 [(.node 11 [.leaf, .leaf]), .leaf]), .leaf, (.node 9 [(.node 11 [.leaf, .leaf]), .leaf])])]), (.node 7 [(.node 9 [(.node 11 [(.node 8 [.leaf, .leaf, .leaf]), .leaf]), .leaf]), .leaf, (.node 9 [(.node 11 [(.node 8 [.leaf, .leaf, .leaf]), .leaf]), .leaf])])])
theorem t_same_31 (w : Nat → Str) : tr_same_31.chk dom (lf_same) (setW (setW (setW (setW (setW (w) 0 "perhaps") 1 "sure") 6 "sure") 3 "work") 4 "work") = true := by kernel_rfl
def tr_same_26 : Tr := .node 4 [tr_same_27, tr_same_28, tr_same_31]
theorem t_same_26 (w : Nat → Str) : tr_same_26.chk dom (lf_same) (setW (setW (setW (setW (w) 0 "perhaps") 1 "sure") 6 "sure") 3 "work") = true := by
  simp only [tr_same_26, Tr.chk, PL.chkAll, PL.dom, t_same_27, t_same_28, t_same_31, Bool.and_self]
def tr_same_20 : Tr := .node 3 [tr_same_21, tr_same_22, tr_same_26]
theorem t_same_20 (w : Nat → Str) : tr_same_20.chk dom (lf_same) (setW (setW (setW (w) 0 "perhaps") 1 "sure") 6 "sure") = true := by
  simp only [tr_same_20, Tr.chk, PL.chkAll, PL.dom, t_same_21, t_same_22, t_same_26, Bool.and_self]
def tr_same_18 : Tr := .node 6 [tr_same_19, tr_same_20]
theorem t_same_18 (w : Nat → Str) : tr_same_18.chk dom (lf_same) (setW (setW (w) 0 "perhaps") 1 "sure") = true := by
  simp only [tr_same_18, Tr.chk, PL.chkAll, PL.dom, t_same_19, t_same_20, Bool.and_self]
def tr_same_2 : Tr := .node 1 [tr_same_3, tr_same_4, tr_same_18]
theorem t_same_2 (w : Nat → Str) : tr_same_2.chk dom (lf_same) (setW (w) 0 "perhaps") = true := by
  simp only [tr_same_2, Tr.chk, PL.chkAll, PL.dom, t_same_3, t_same_4, t_same_18, Bool.and_self]
def tr_same_33 : Tr := .leaf
theorem t_same_33 (w : Nat → Str) : tr_same_33.chk dom (lf_same) (setW (setW (w) 0 "sure") 1 "none") = true := by kernel_rfl
def tr_same_35 : Tr := (.node 3 [(.node 4 [.leaf, .leaf, .leaf]), (.node 4 [.leaf, (.node 5 [(.node 7 [(.node 9 [(.node 11 [(.node 8 [.leaf, .leaf, (.node 2 [.leaf, .leaf, .leaf])]), .leaf]), .leaf]), .leaf, (.node 9 [(.node 11 [(.node 8 [.leaf, .leaf, (.node 2 [.leaf, .leaf, .leaf])]), .leaf]), .leaf])]), .leaf]), (.node 5 [(.node 7 [(.node 9 [(.node 11 [(.node 8 [.leaf, .leaf, (.node 2 [.leaf, .leaf, .leaf])]), .leaf]), .leaf]), .leaf, (.node 9 [(.node 11 [(.node 8 [.leaf, .leaf, (.node 2 [.leaf, .leaf, .leaf])]), .leaf]), .leaf])]), .leaf])]), (.node 4 [.leaf, (.node 5 [(.node 7 [(.node 9 [(.node 11 [(.node 8 [.leaf, .leaf, (.node 2 [.leaf, .leaf, .leaf])]), .leaf]), .leaf]), .leaf, (.node 9 [(.node 11 [(.node 8 [.leaf, .leaf, (.node 2 [.leaf, .leaf, .leaf])]), .leaf]), .leaf])]), (.node 8 [.leaf, (.node 7 [(.node 9 [(.node 11 [.leaf, .leaf]), .leaf]), .leaf, (.node 9 [(.node 11 [.leaf, .leaf]), .leaf])]), (.node 7 [(.node 9 [(.node 11 [(.node 2 [.leaf, .leaf, .leaf]), .leaf]), .leaf]), .leaf, (.node 9 [(.node 11 [(.node 2 [.leaf, .leaf, .leaf]), .leaf]), .leaf])])])]), (.node 7 [(.node 9 [(.node 11 [(.node 8 [.leaf, .leaf, (.node 2 [.leaf, .leaf, .leaf])]), .leaf]), .leaf]), .leaf, (.node 9 [(.node 11 [(.node 8 [.leaf, .leaf, (.node 2 [.leaf, .leaf, .leaf])]), .leaf]), .leaf])])])])
theorem t_same_35 (w : Nat → Str) : tr_same_35.chk dom (lf_same) (setW (setW (setW (w) 0 "sure") 1 "perhaps") 6 "none") = true := by kernel_rfl
def tr_same_37 : Tr := (.node 4 [.leaf, .leaf, .leaf])
theorem t_same_37 (w : Nat → Str) : tr_same_37.chk dom (lf_same) (setW (setW (setW (setW (w) 0 "sure") 1 "perhaps") 6 "sure") 3 "answer") = true := by kernel_rfl
def tr_same_39 : Tr := .leaf
theorem t_same_39 (w : Nat → Str) : tr_same_39.chk dom (lf_same) (setW (setW (setW (setW (setW (w) 0 "sure") 1 "perhaps") 6 "sure") 3 "check") 4 "answer") = true := by kernel_rfl
def tr_same_41 : Tr := (.node 2 [(.node 8 [(.node 9 [(.node 7 [(.node 11 [.leaf, .leaf]), .leaf, (.node 11 [.leaf, .leaf])]), (.node 7 [.leaf, .leaf, .leaf])]), (.node 10 [(.node 7 [(.node 9 [(.node 11 [.leaf, .leaf]), .leaf]), .leaf, (.node 9 [(.node 11 [.leaf, .leaf]), .leaf])]), (.node 7 [(.node 9 [(.node 11 [.leaf, .leaf]), .leaf]), .leaf, (.node 9 [(.node 11 [.leaf, .leaf]), .leaf])])]), (.node 7 [(.node 9 [(.node 11 [.leaf, .leaf]), .leaf]), .leaf, (.node 9 [(.node 11 [.leaf, .leaf]), .leaf])])]), (.node 8 [(.node 9 [(.node 7 [(.node 11 [.leaf, .leaf]), .leaf, (.node 11 [.leaf, .leaf])]), (.node 7 [.leaf, .leaf, .leaf])]), (.node 10 [(.node 7 [(.node 9 [(.node 11 [.leaf, .leaf]), .leaf]), .leaf, (.node 9 [(.node 11 [.leaf, .leaf]), .leaf])]), (.node 7 [(.node 9 [(.node 11 [.leaf, .leaf]), .leaf]), .leaf, (.node 9 [(.node 11 [.leaf, .leaf]), .leaf])])]), (.node 7 [(.node 9 [(.node 11 [.leaf, .leaf]), .leaf]), .leaf, (.node 9 [(.node 11 [.leaf, .leaf]), .leaf])])]), (.node 7 [(.node 9 [(.node 11 [(.node 8 [.leaf, .leaf, .leaf]), .leaf]), .leaf]), .leaf, (.node 9 [(.node 11 [(.node 8 [.leaf, .leaf, .leaf]), .leaf]), .leaf])])])
theorem t_same_41 (w : Nat → Str) : tr_same_41.chk dom (lf_same) (setW (setW (setW (setW (setW (setW (w) 0 "sure") 1 "perhaps") 6 "sure") 3 "check") 4 "check") 5 "values") = true := by kernel_rfl
def tr_same_42 : Tr := (.node 8 [.leaf, (.node 2 [(.node 10 [(.node 7 [(.node 9 [(.node 11 [.leaf, .leaf]), .leaf]), .leaf, (.node 9 [(.node 11 [.leaf, .leaf]), .leaf])]), (.node 7 [(.node 9 [(.node 11 [.leaf, .leaf]), .leaf]), .leaf, (.node 9 [(.node 11 [.leaf, .leaf]), .leaf])])]), (.node 10 [(.node 7 [(.node 9 [(.node 11 [.leaf, .leaf]), .leaf]), .leaf, (.node 9 [(.node 11 [.leaf, .leaf]), .leaf])]), (.node 7 [(.node 9 [(.node 11 [.leaf, .leaf]), .leaf]), .leaf, (.node 9 [(.node 11 [.leaf, .leaf]), .leaf])])]), (.node 7 [(.node 9 [(.node 11 [.leaf, .leaf]), .leaf]), .leaf, (.node 9 [(.node 11 [.leaf, .leaf]), .leaf])])]), (.node 2 [(.node 7 [(.node 9 [(.node 11 [.leaf, .leaf]), .leaf]), .leaf, (.node 9 [(.node 11 [.leaf, .leaf]), .leaf])]), (.node 7 [(.node 9 [(.node 11 [.leaf, .leaf]), .leaf]), .leaf, (.node 9 [(.node 11 [.leaf, .leaf]), .leaf])]), (.node 7 [(.node 9 [(.node 11 [.leaf, .leaf]), .leaf]), .leaf, (.node 9 [(.node 11 [.leaf, .leaf]), .leaf])])])])
theorem t_same_42 (w : Nat → Str) : tr_same_42.chk dom (lf_same) (setW (setW (setW (setW (setW (setW (w) 0 "sure") 1 "perhaps") 6 "sure") 3 "check") 4 "check") 5 "mark") = true := by kernel_rfl
def tr_same_40 : Tr := .node 5 [tr_same_41, tr_same_42]
theorem t_same_40 (w : Nat → Str) : tr_same_40.chk dom (lf_same) (setW (setW (setW (setW (setW (w) 0 "sure") 1 "perhaps") 6 "sure") 3 "check") 4 "check") = true := by
  simp only [tr_same_40, Tr.chk, PL.chkAll, PL.dom, t_same_41, t_same_42, Bool.and_self]
def tr_same_44 : Tr := (.node 2 [(.node 8 [(.node 9 [(.node 7 [(.node 11 [.leaf, .leaf]), .leaf, (.node 11 [.leaf, .leaf])]), (.node 7 [.leaf, .leaf, .leaf])]), (.node 10 [(.node 7 [(.node 9 [(.node 11 [.leaf, .leaf]), .leaf]), .leaf, (.node 9 [(.node 11 [.leaf, .leaf]), .leaf])]), (.node 7 [(.node 9 [(.node 11 [.leaf, .leaf]), .leaf]), .leaf, (.node 9 [(.node 11 [.leaf, .leaf]), .leaf])])]), (.node 7 [(.node 9 [(.node 11 [.leaf, .leaf]), .leaf]), .leaf, (.node 9 [(.node 11 [.leaf, .leaf]), .leaf])])]), (.node 8 [(.node 9 [(.node 7 [(.node 11 [.leaf, .leaf]), .leaf, (.node 11 [.leaf, .leaf])]), (.node 7 [.leaf, .leaf, .leaf])]), (.node 10 [(.node 7 [(.node 9 [(.node 11 [.leaf, .leaf]), .leaf]), .leaf, (.node 9 [(.node 11 [.leaf, .leaf]), .leaf])]), (.node 7 [(.node 9 [(.node 11 [.leaf, .leaf]), .leaf]), .leaf, (.node 9 [(.node 11 [.leaf, .leaf]), .leaf])])]), (.node 7 [(.node 9 [(.node 11 [.leaf, .leaf]), .leaf]), .leaf, (.node 9 [(.node 11 [.leaf, .leaf]), .leaf])])]), (.node 7 [(.node 9 [(.node 11 [(.node 8 [.leaf, .leaf, .leaf]), .leaf]), .leaf]), .leaf, (.node 9 [(.node 11 [(.node 8 [.leaf, .leaf, .leaf]), .leaf]), .leaf])])])
theorem t_same_44 (w : Nat → Str) : tr_same_44.chk dom (lf_same) (setW (setW (setW (setW (setW (setW (w) 0 "sure") 1 "perhaps") 6 "sure") 3 "check") 4 "work") 5 "values") = true := by kernel_rfl
def tr_same_45 : Tr := (.node 2 [(.node 8 [(.node 9 [(.node 7 [(.node 11 [.leaf, .leaf]), .leaf, (.node 11 [.leaf, .leaf])]), (.node 7 [.leaf, .leaf, .leaf])]), (.node 10 [(.node 7 [(.node 9 [(.node 11 [.leaf, .leaf]), .leaf]), .leaf, (.node 9 [(.node 11 [.leaf, .leaf]), .leaf])]), (.node 7 [(.node 9 [(.node 11 [.leaf, .leaf]), .leaf]), .leaf, (.node 9 [(.node 11 [.leaf, .leaf]), .leaf])])]), (.node 7 [(.node 9 [(.node 11 [.leaf, .leaf]), .leaf]), .leaf, (.node 9 [(.node 11 [.leaf, .leaf]), .leaf])])]), (.node 8 [(.node 9 [(.node 7 [(.node 11 [.leaf, .leaf]), .leaf, (.node 11 [.leaf, .leaf])]), (.node 7 [.leaf, .leaf, .leaf])]), (.node 10 [(.node 7 [(.node 9 [(.node 11 [.leaf, .leaf]), .leaf]), .leaf, (.node 9 [(.node 11 [.leaf, .leaf]), .leaf])]), (.node 7 [(.node 9 [(.node 11 [.leaf, .leaf]), .leaf]), .leaf, (.node 9 [(.node 11 [.leaf, .leaf]), .leaf])])]), (.node 7 [(.node 9 [(.node 11 [.leaf, .leaf]), .leaf]), .leaf, (.node 9 [(.node 11 [.leaf, .leaf]), .leaf])])]), (.node 7 [(.node 9 [(.node 11 [(.node 8 [.leaf, .leaf, .leaf]), .leaf]), .leaf]), .leaf, (.node 9 [(.node 11 [(.node 8 [.leaf, .leaf, .leaf]), .leaf]), .leaf])])])
theorem t_same_45 (w : Nat → Str) : tr_same_45.chk dom (lf_same) (setW (setW (setW (setW (setW (setW (w) 0 "sure") 1 "perhaps") 6 "sure") 3 "check") 4 "work") 5 "mark") = true := by kernel_rfl
def tr_same_43 : Tr := .node 5 [tr_same_44, tr_same_45]
theorem t_same_43 (w : Nat → Str) : tr_same_43.chk dom (lf_same) (setW (setW (setW (setW (setW (w) 0 "sure") 1 "perhaps") 6 "sure") 3 "check") 4 "work") = true := by
  simp only [tr_same_43, Tr.chk, PL.chkAll, PL.dom, t_same_44, t_same_45, Bool.and_self]
def tr_same_38 : Tr := .node 4 [tr_same_39, tr_same_40, tr_same_43]
theorem t_same_38 (w : Nat → Str) : tr_same_38.chk dom (lf_same) (setW (setW (setW (setW (w) 0 "sure") 1 "perhaps") 6 "sure") 3 "check") = true := by
  simp only [tr_same_38, Tr.chk, PL.chkAll, PL.dom, t_same_39, t_same_40, t_same_43, Bool.and_self]
def tr_same_47 : Tr := .leaf
theorem t_same_47 (w : Nat → Str) : tr_same_47.chk dom (lf_same) (setW (setW (setW (setW (setW (w) 0 "sure") 1 "perhaps") 6 "sure") 3 "work") 4 "answer") = true := by kernel_rfl
def tr_same_49 : Tr := (.node 2 [(.node 8 [(.node 9 [(.node 7 [(.node 11 [.leaf, .leaf]), .leaf, (.node 11 [.leaf, .leaf])]), (.node 7 [.leaf, .leaf, .leaf])]), (.node 10 [(.node 7 [(.node 9 [(.node 11 [.leaf, .leaf]), .leaf]), .leaf, (.node 9 [(.node 11 [.leaf, .leaf]), .leaf])]), (.node 7 [(.node 9 [(.node 11 [.leaf, .leaf]), .leaf]), .leaf, (.node 9 [(.node 11 [.leaf, .leaf]), .leaf])])]), (.node 7 [(.node 9 [(.node 11 [.leaf, .leaf]), .leaf]), .leaf, (.node 9 [(.node 11 [.leaf, .leaf]), .leaf])])]), (.node 8 [(.node 9 [(.node 7 [(.node 11 [.leaf, .leaf]), .leaf, (.node 11 [.leaf, .leaf])]), (.node 7 [.leaf, .leaf, .leaf])]), (.node 10 [(.node 7 [(.node 9 [(.node 11 [.leaf, .leaf]), .leaf]), .leaf, (.node 9 [(.node 11 [.leaf, .leaf]), .leaf])]), (.node 7 [(.node 9 [(.node 11 [.leaf, .leaf]), .leaf]), .leaf, (.node 9 [(.node 11 [.leaf, .leaf]), .leaf])])]), (.node 7 [(.node 9 [(.node 11 [.leaf, .leaf]), .leaf]), .leaf, (.node 9 [(.node 11 [.leaf, .leaf]), .leaf])])]), (.node 7 [(.node 9 [(.node 11 [(.node 8 [.leaf, .leaf, .leaf]), .leaf]), .leaf]), .leaf, (.node 9 [(.node 11 [(.node 8 [.leaf, .leaf, .leaf]), .leaf]), .leaf])])])
theorem t_same_49 (w : Nat → Str) : tr_same_49.chk dom (lf_same) (setW (setW (setW (setW (setW (setW (w) 0 "sure") 1 "perhaps") 6 "sure") 3 "work") 4 "check") 5 "values") = true := by kernel_rfl
def tr_same_50 : Tr := (.node 8 [.leaf, (.node 2 [(.node 10 [(.node 7 [(.node 9 [(.node 11 [.leaf, .leaf]), .leaf]), .leaf, (.node 9 [(.node 11 [.leaf, .leaf]), .leaf])]), (.node 7 [(.node 9 [(.node 11 [.leaf, .leaf]), .leaf]), .leaf, (.node 9 [(.node 11 [.leaf, .leaf]), .leaf])])]), (.node 10 [(.node 7 [(.node 9 [(.node 11 [.leaf, .leaf]), .leaf]), .leaf, (.node 9 [(.node 11 [.leaf, .leaf]), .leaf])]), (.node 7 [(.node 9 [(.node 11 [.leaf, .leaf]), .leaf]), .leaf, (.node 9 [(.node 11 [.leaf, .leaf]), .leaf])])]), (.node 7 [(.node 9 [(.node 11 [.leaf, .leaf]), .leaf]), .leaf, (.node 9 [(.node 11 [.leaf, .leaf]), .leaf])])]), (.node 2 [(.node 7 [(.node 9 [(.node 11 [.leaf, .leaf]), .leaf]), .leaf, (.node 9 [(.node 11 [.leaf, .leaf]), .leaf])]), (.node 7 [(.node 9 [(.node 11 [.leaf, .leaf]), .leaf]), .leaf, (.node 9 [(.node 11 [.leaf, .leaf]), .leaf])]), (.node 7 [(.node 9 [(.node 11 [.leaf, .leaf]), .leaf]), .leaf, (.node 9 [(.node 11 [.leaf, .leaf]), .leaf])])])])
theorem t_same_50 (w : Nat → Str) : tr_same_50.chk dom (lf_same) (setW (setW (setW (setW (setW (setW (w) 0 "sure") 1 "perhaps") 6 "sure") 3 "work") 4 "check") 5 "mark") = true := by kernel_rfl
def tr_same_48 : Tr := .node 5 [tr_same_49, tr_same_50]
theorem t_same_48 (w : Nat → Str) : tr_same_48.chk dom (lf_same) (setW (setW (setW (setW (setW (w) 0 "sure") 1 "perhaps") 6 "sure") 3 "work") 4 "check") = true := by
  simp only [tr_same_48, Tr.chk, PL.chkAll, PL.dom, t_same_49, t_same_50, Bool.and_self]
def tr_same_51 : Tr := (.node 2 [(.node 8 [(.node 9 [(.node 7 [(.node 11 [.leaf, .leaf]), .leaf, (.node 11 [.leaf, .leaf])]), (.node 7 [.leaf, .leaf, .leaf])]), (.node 10 [(.node 7 [(.node 9 [(.node 11 [.leaf, .leaf]), .leaf]), .leaf, (.node 9 [(.node 11 [.leaf, .leaf]), .leaf])]), (.node 7 [(.node 9 [(.node 11 [.leaf, .leaf]), .leaf]), .leaf, (.node 9 [(.node 11 [.leaf, .leaf]), .leaf])])]), (.node 7 [(.node 9 [(.node 11 [.leaf, .leaf]), .leaf]), .leaf, (.node 9 [(.node 11 [.leaf, .leaf]), .leaf])])]), (.node 8 [(.node 9 [(.node 7 [(.node 11 [.leaf, .leaf]), .leaf, (.node 11 [.leaf, .leaf])]), (.node 7 [.leaf, .leaf, .leaf])]), (.node 10 [(.node 7 [(.node 9 [(.node 11 [.leaf, .leaf]), .leaf]), .leaf, (.node 9 [(.node 11 [.leaf, .leaf]), .leaf])]), (.node 7 [(.node 9 [(.node 11 [.leaf, .leaf]), .leaf]), .leaf, (.node 9 [(.node 11 [.leaf, .leaf]), .leaf])])]), (.node 7 [(.node 9 [(.node 11 [.leaf, .leaf]), .leaf]), .leaf, (.node 9 [(.node 11 [.leaf, .leaf]), .leaf])])]), (.node 7 [(.node 9 [(.node 11 [(.node 8 [.leaf, .leaf, .leaf]), .leaf]), .leaf]), .leaf, (.node 9 [(.node 11 [(.node 8 [.leaf, .leaf, .leaf]), .leaf]), .leaf])])])
theorem t_same_51 (w : Nat → Str) : tr_same_51.chk dom (lf_same) (setW (setW (setW (setW (setW (w) 0 "sure") 1 "perhaps") 6 "sure") 3 "work") 4 "work") = true := by kernel_rfl
def tr_same_46 : Tr := .node 4 [tr_same_47, tr_same_48, tr_same_51]
theorem t_same_46 (w : Nat → Str) : tr_same_46.chk dom (lf_same) (setW (setW (setW (setW (w) 0 "sure") 1 "perhaps") 6 "sure") 3 "work") = true := by
  simp only [tr_same_46, Tr.chk, PL.chkAll, PL.dom, t_same_47, t_same_48, t_same_51, Bool.and_self]
def tr_same_36 : Tr := .node 3 [tr_same_37, tr_same_38, tr_same_46]
theorem t_same_36 (w : Nat → Str) : tr_same_36.chk dom (lf_same) (setW (setW (setW (w) 0 "sure") 1 "perhaps") 6 "sure") = true := by
  simp only [tr_same_36, Tr.chk, PL.chkAll, PL.dom, t_same_37, t_same_38, t_same_46, Bool.and_self]
def tr_same_34 : Tr := .node 6 [tr_same_35, tr_same_36]
theorem t_same_34 (w : Nat → Str) : tr_same_34.chk dom (lf_same) (setW (setW (w) 0 "sure") 1 "perhaps") = true := by
  simp only [tr_same_34, Tr.chk, PL.chkAll, PL.dom, t_same_35, t_same_36, Bool.and_self]
def tr_same_53 : Tr := (.node 4 [.leaf, (.node 5 [(.node 7 [(.node 9 [(.node 11 [(.node 8 [.leaf, .leaf, (.node 2 [.leaf, .leaf, .leaf])]), .leaf]), .leaf]), .leaf, (.node 9 [(.node 11 [(.node 8 [.leaf, .leaf, (.node 2 [.leaf, .leaf, .leaf])]), .leaf]), .leaf])]), (.node 8 [.leaf, (.node 7 [(.node 9 [(.node 11 [.leaf, .leaf]), .leaf]), .leaf, (.node 9 [(.node 11 [.leaf, .leaf]), .leaf])]), (.node 7 [(.node 9 [(.node 11 [(.node 2 [.leaf, .leaf, .leaf]), .leaf]), .leaf]), .leaf, (.node 9 [(.node 11 [(.node 2 [.leaf, .leaf, .leaf]), .leaf]), .leaf])])])]), (.node 7 [(.node 9 [(.node 11 [(.node 8 [.leaf, .leaf, (.node 2 [.leaf, .leaf, .leaf])]), .leaf]), .leaf]), .leaf, (.node 9 [(.node 11 [(.node 8 [.leaf, .leaf, (.node 2 [.leaf, .leaf, .leaf])]), .leaf]), .leaf])])])
theorem t_same_53 (w : Nat → Str) : tr_same_53.chk dom (lf_same) (setW (setW (setW (w) 0 "sure") 1 "sure") 6 "none") = true := by kernel_rfl
def tr_same_55 : Tr := .leaf
theorem t_same_55 (w : Nat → Str) : tr_same_55.chk dom (lf_same) (setW (setW (setW (setW (w) 0 "sure") 1 "sure") 6 "sure") 4 "answer") = true := by kernel_rfl
def tr_same_57 : Tr := (.node 2 [(.node 8 [(.node 9 [(.node 7 [(.node 11 [.leaf, .leaf]), .leaf, (.node 11 [.leaf, .leaf])]), (.node 7 [.leaf, .leaf, .leaf])]), (.node 10 [(.node 7 [(.node 9 [(.node 11 [.leaf, .leaf]), .leaf]), .leaf, (.node 9 [(.node 11 [.leaf, .leaf]), .leaf])]), (.node 7 [(.node 9 [(.node 11 [.leaf, .leaf]), .leaf]), .leaf, (.node 9 [(.node 11 [.leaf, .leaf]), .leaf])])]), (.node 7 [(.node 9 [(.node 11 [.leaf, .leaf]), .leaf]), .leaf, (.node 9 [(.node 11 [.leaf, .leaf]), .leaf])])]), (.node 8 [(.node 9 [(.node 7 [(.node 11 [.leaf, .leaf]), .leaf, (.node 11 [.leaf, .leaf])]), (.node 7 [.leaf, .leaf, .leaf])]), (.node 10 [(.node 7 [(.node 9 [(.node 11 [.leaf, .leaf]), .leaf]), .leaf, (.node 9 [(.node 11 [.leaf, .leaf]), .leaf])]), (.node 7 [(.node 9 [(.node 11 [.leaf, .leaf]), .leaf]), .leaf, (.node 9 [(.node 11 [.leaf, .leaf]), .leaf])])]), (.node 7 [(.node 9 [(.node 11 [.leaf, .leaf]), .leaf]), .leaf, (.node 9 [(.node 11 [.leaf, .leaf]), .leaf])])]), (.node 7 [(.node 9 [(.node 11 [(.node 8 [.leaf, .leaf, .leaf]), .leaf]), .leaf]), .leaf, (.node 9 [(.node 11 [(.node 8 [.leaf, .leaf, .leaf]), .leaf]), .leaf])])])
theorem t_same_57 (w : Nat → Str) : tr_same_57.chk dom (lf_same) (setW (setW (setW (setW (setW (w) 0 "sure") 1 "sure") 6 "sure") 4 "check") 5 "values") = true := by kernel_rfl
def tr_same_58 : Tr := (.node 8 [.leaf, (.node 2 [(.node 10 [(.node 7 [(.node 9 [(.node 11 [.leaf, .leaf]), .leaf]), .leaf, (.node 9 [(.node 11 [.leaf, .leaf]), .leaf])]), (.node 7 [(.node 9 [(.node 11 [.leaf, .leaf]), .leaf]), .leaf, (.node 9 [(.node 11 [.leaf, .leaf]), .leaf])])]), (.node 10 [(.node 7 [(.node 9 [(.node 11 [.leaf, .leaf]), .leaf]), .leaf, (.node 9 [(.node 11 [.leaf, .leaf]), .leaf])]), (.node 7 [(.node 9 [(.node 11 [.leaf, .leaf]), .leaf]), .leaf, (.node 9 [(.node 11 [.leaf, .leaf]), .leaf])])]), (.node 7 [(.node 9 [(.node 11 [.leaf, .leaf]), .leaf]), .leaf, (.node 9 [(.node 11 [.leaf, .leaf]), .leaf])])]), (.node 2 [(.node 7 [(.node 9 [(.node 11 [.leaf, .leaf]), .leaf]), .leaf, (.node 9 [(.node 11 [.leaf, .leaf]), .leaf])]), (.node 7 [(.node 9 [(.node 11 [.leaf, .leaf]), .leaf]), .leaf, (.node 9 [(.node 11 [.leaf, .leaf]), .leaf])]), (.node 7 [(.node 9 [(.node 11 [.leaf, .leaf]), .leaf]), .leaf, (.node 9 [(.node 11 [.leaf, .leaf]), .leaf])])])])
theorem t_same_58 (w : Nat → Str) : tr_same_58.chk dom (lf_same) (setW (setW (setW (setW (setW (w) 0 "sure") 1 "sure") 6 "sure") 4 "check") 5 "mark") = true := by kernel_rfl
def tr_same_56 : Tr := .node 5 [tr_same_57, tr_same_58]
theorem t_same_56 (w : Nat → Str) : tr_same_56.chk dom (lf_same) (setW (setW (setW (setW (w) 0 "sure") 1 "sure") 6 "sure") 4 "check") = true := by
  simp only [tr_same_56, Tr.chk, PL.chkAll, PL.dom, t_same_57, t_same_58, Bool.and_self]
def tr_same_59 : Tr := (.node 2 [(.node 8 [(.node 9 [(.node 7 [(.node 11 [.leaf, .leaf]), .leaf, (.node 11 [.leaf, .leaf])]), (.node 7 [.leaf, .leaf, .leaf])]), (.node 10 [(.node 7 [(.node 9 [(.node 11 [.leaf, .leaf]), .leaf]), .leaf, (.node 9 [(.node 11 [.leaf, .leaf]), .leaf])]), (.node 7 [(.node 9 [(.node 11 [.leaf, .leaf]), .leaf]), .leaf, (.node 9 [(.node 11 [.leaf, .leaf]), .leaf])])]), (.node 7 [(.node 9 [(.node 11 [.leaf, .leaf]), .leaf]), .leaf, (.node 9 [(.node 11 [.leaf, .leaf]), .leaf])])]), (.node 8 [(.node 9 [(.node 7 [(.node 11 [.leaf, .leaf]), .leaf, (.node 11 [.leaf, .leaf])]), (.node 7 [.leaf, .leaf, .leaf])]), (.node 10 [(.node 7 [(.node 9 [(.node 11 [.leaf, .leaf]), .leaf]), .leaf, (.node 9 [(.node 11 [.leaf, .leaf]), .leaf])]), (.node 7 [(.node 9 [(.node 11 [.leaf, .leaf]), .leaf]), .leaf, (.node 9 [(.node 11 [.leaf, .leaf]), .leaf])])]), (.node 7 [(.node 9 [(.node 11 [.leaf, .leaf]), .leaf]), .leaf, (.node 9 [(.node 11 [.leaf, .leaf]), .leaf])])]), (.node 7 [(.node 9 [(.node 11 [(.node 8 [.leaf, .leaf, .leaf]), .leaf]), .leaf]), .leaf, (.node 9 [(.node 11 [(.node 8 [.leaf, .leaf, .leaf]), .leaf]), .leaf])])])
theorem t_same_59 (w : Nat → Str) : tr_same_59.chk dom (lf_same) (setW (setW (setW (setW (w) 0 "sure") 1 "sure") 6 "sure") 4 "work") = true := by kernel_rfl
def tr_same_54 : Tr := .node 4 [tr_same_55, tr_same_56, tr_same_59]
theorem t_same_54 (w : Nat → Str) : tr_same_54.chk dom (lf_same) (setW (setW (setW (w) 0 "sure") 1 "sure") 6 "sure") = true := by
  simp only [tr_same_54, Tr.chk, PL.chkAll, PL.dom, t_same_55, t_same_56, t_same_59, Bool.and_self]
def tr_same_52 : Tr := .node 6 [tr_same_53, tr_same_54]
theorem t_same_52 (w : Nat → Str) : tr_same_52.chk dom (lf_same) (setW (setW (w) 0 "sure") 1 "sure") = true := by
  simp only [tr_same_52, Tr.chk, PL.chkAll, PL.dom, t_same_53, t_same_54, Bool.and_self]
def tr_same_32 : Tr := .node 1 [tr_same_33, tr_same_34, tr_same_52]
theorem t_same_32 (w : Nat → Str) : tr_same_32.chk dom (lf_same) (setW (w) 0 "sure") = true := by
  simp only [tr_same_32, Tr.chk, PL.chkAll, PL.dom, t_same_33, t_same_34, t_same_52, Bool.and_self]
def tr_same_0 : Tr := .node 0 [tr_same_1, tr_same_2, tr_same_32]
theorem t_same_0 (w : Nat → Str) : tr_same_0.chk dom (lf_same) (w) = true := by
  simp only [tr_same_0, Tr.chk, PL.chkAll, PL.dom, t_same_1, t_same_2, t_same_32, Bool.and_self]
theorem same_all {w : Nat → Str} (h : Gd w) : lf_same w = true := Tr.chk_of h _ (t_same_0 w)
def condB (c a b : Bool) : Bool := match c with
  | true => a
  | false => b
def andB (a b : Bool) : Bool := match a with
  | true => b
  | false => false
def orB (a b : Bool) : Bool := match a with
  | true => true
  | false => b
def eqW (x y : Str) : Bool := decide (x = y)
def neW (x y : Str) : Bool := !decide (x = y)
/-- what a book of safe_book is -/
def safeB (w : Nat → Str) : Bool := andB (eqW (w 11) "one") (andB (eqW (w 9) "ahead") (andB (neW (w 7) "last") (andB (neW (w 0) "none") (andB (neW (w 1) "none")
  (andB (condB (orB (eqW (w 0) "perhaps") (eqW (w 1) "perhaps")) (condB (andB (eqW (w 5) "mark") (orB (neW (w 0) "sure") (neW (w 6) "sure"))) (eqW (w 3) "work") (neW (w 3) "answer")) true)
  (andB (orB (eqW (w 8) "ahead") (andB (eqW (w 8) "unless") (eqW (w 2) "never")))
  (condB (orB (eqW (w 0) "sure") (orB (eqW (w 1) "sure") (eqW (w 6) "sure"))) (condB (andB (eqW (w 5) "mark") (eqW (w 8) "ahead")) (eqW (w 4) "work") (neW (w 4) "answer")) true)))))))
def lf_safe  (w : Nat → Str) : Bool := impB (safeB w) (isNon (PL.run prog cons 8 13 [bk w] []))
def tr_safe_3 : Tr := (.node 0 [.leaf, (.node 1 [.leaf, (.node 5 [(.node 3 [.leaf, (.node 8 [(.node 6 [.leaf, (.node 4 [.leaf, .leaf, .leaf])]), .leaf, (.node 2 [.leaf, .leaf, (.node 6 [.leaf, (.node 4 [.leaf, .leaf, .leaf])])])]), (.node 8 [(.node 6 [.leaf, (.node 4 [.leaf, .leaf, .leaf])]), .leaf, (.node 2 [.leaf, .leaf, (.node 6 [.leaf, (.node 4 [.leaf, .leaf, .leaf])])])])]), (.node 3 [.leaf, .leaf, (.node 8 [(.node 6 [.leaf, (.node 4 [.leaf, .leaf, .leaf])]), .leaf, (.node 2 [.leaf, .leaf, (.node 6 [.leaf, (.node 4 [.leaf, .leaf, .leaf])])])])])]), (.node 5 [(.node 3 [.leaf, (.node 8 [(.node 4 [.leaf, .leaf, .leaf]), .leaf, (.node 2 [.leaf, .leaf, (.node 4 [.leaf, .leaf, .leaf])])]), (.node 8 [(.node 4 [.leaf, .leaf, .leaf]), .leaf, (.node 2 [.leaf, .leaf, (.node 4 [.leaf, .leaf, .leaf])])])]), (.node 3 [.leaf, .leaf, (.node 8 [(.node 4 [.leaf, .leaf, .leaf]), .leaf, (.node 2 [.leaf, .leaf, (.node 4 [.leaf, .leaf, .leaf])])])])])]), (.node 1 [.leaf, (.node 5 [(.node 3 [.leaf, (.node 8 [(.node 4 [.leaf, .leaf, .leaf]), .leaf, (.node 2 [.leaf, .leaf, (.node 4 [.leaf, .leaf, .leaf])])]), (.node 8 [(.node 4 [.leaf, .leaf, .leaf]), .leaf, (.node 2 [.leaf, .leaf, (.node 4 [.leaf, .leaf, .leaf])])])]), (.node 6 [(.node 3 [.leaf, .leaf, (.node 8 [(.node 4 [.leaf, .leaf, .leaf]), .leaf, (.node 2 [.leaf, .leaf, (.node 4 [.leaf, .leaf, .leaf])])])]), (.node 3 [.leaf, (.node 8 [(.node 4 [.leaf, .leaf, .leaf]), .leaf, (.node 2 [.leaf, .leaf, (.node 4 [.leaf, .leaf, .leaf])])]), (.node 8 [(.node 4 [.leaf, .leaf, .leaf]), .leaf, (.node 2 [.leaf, .leaf, (.node 4 [.leaf, .leaf, .leaf])])])])])]), (.node 8 [(.node 5 [(.node 4 [.leaf, .leaf, .leaf]), (.node 4 [.leaf, .leaf, .leaf])]), .leaf, (.node 2 [.leaf, .leaf, (.node 5 [(.node 4 [.leaf, .leaf, .leaf]), (.node 4 [.leaf, .leaf, .leaf])])])])])])
theorem t_safe_3 (w : Nat → Str) : tr_safe_3.chk dom (lf_safe) (setW (setW (setW (w) 11 "one") 9 "ahead") 7 "first") = true := by kernel_rfl
def tr_safe_4 : Tr := .leaf
theorem t_safe_4 (w : Nat → Str) : tr_safe_4.chk dom (lf_safe) (setW (setW (setW (w) 11 "one") 9 "ahead") 7 "last") = true := by kernel_rfl
def tr_safe_5 : Tr := (.node 0 [.leaf, (.node 1 [.leaf, (.node 5 [(.node 3 [.leaf, (.node 8 [(.node 6 [.leaf, (.node 4 [.leaf, .leaf, .leaf])]), .leaf, (.node 2 [.leaf, .leaf, (.node 6 [.leaf, (.node 4 [.leaf, .leaf, .leaf])])])]), (.node 8 [(.node 6 [.leaf, (.node 4 [.leaf, .leaf, .leaf])]), .leaf, (.node 2 [.leaf, .leaf, (.node 6 [.leaf, (.node 4 [.leaf, .leaf, .leaf])])])])]), (.node 3 [.leaf, .leaf, (.node 8 [(.node 6 [.leaf, (.node 4 [.leaf, .leaf, .leaf])]), .leaf, (.node 2 [.leaf, .leaf, (.node 6 [.leaf, (.node 4 [.leaf, .leaf, .leaf])])])])])]), (.node 5 [(.node 3 [.leaf, (.node 8 [(.node 4 [.leaf, .leaf, .leaf]), .leaf, (.node 2 [.leaf, .leaf, (.node 4 [.leaf, .leaf, .leaf])])]), (.node 8 [(.node 4 [.leaf, .leaf, .leaf]), .leaf, (.node 2 [.leaf, .leaf, (.node 4 [.leaf, .leaf, .leaf])])])]), (.node 3 [.leaf, .leaf, (.node 8 [(.node 4 [.leaf, .leaf, .leaf]), .leaf, (.node 2 [.leaf, .leaf, (.node 4 [.leaf, .leaf, .leaf])])])])])]), (.node 1 [.leaf, (.node 5 [(.node 3 [.leaf, (.node 8 [(.node 4 [.leaf, .leaf, .leaf]), .leaf, (.node 2 [.leaf, .leaf, (.node 4 [.leaf, .leaf, .leaf])])]), (.node 8 [(.node 4 [.leaf, .leaf, .leaf]), .leaf, (.node 2 [.leaf, .leaf, (.node 4 [.leaf, .leaf, .leaf])])])]), (.node 6 [(.node 3 [.leaf, .leaf, (.node 8 [(.node 4 [.leaf, .leaf, .leaf]), .leaf, (.node 2 [.leaf, .leaf, (.node 4 [.leaf, .leaf, .leaf])])])]), (.node 3 [.leaf, (.node 8 [(.node 4 [.leaf, .leaf, .leaf]), .leaf, (.node 2 [.leaf, .leaf, (.node 4 [.leaf, .leaf, .leaf])])]), (.node 8 [(.node 4 [.leaf, .leaf, .leaf]), .leaf, (.node 2 [.leaf, .leaf, (.node 4 [.leaf, .leaf, .leaf])])])])])]), (.node 8 [(.node 5 [(.node 4 [.leaf, .leaf, .leaf]), (.node 4 [.leaf, .leaf, .leaf])]), .leaf, (.node 2 [.leaf, .leaf, (.node 5 [(.node 4 [.leaf, .leaf, .leaf]), (.node 4 [.leaf, .leaf, .leaf])])])])])])
theorem t_safe_5 (w : Nat → Str) : tr_safe_5.chk dom (lf_safe) (setW (setW (setW (w) 11 "one") 9 "ahead") 7 "between") = true := by kernel_rfl
def tr_safe_2 : Tr := .node 7 [tr_safe_3, tr_safe_4, tr_safe_5]
theorem t_safe_2 (w : Nat → Str) : tr_safe_2.chk dom (lf_safe) (setW (setW (w) 11 "one") 9 "ahead") = true := by
  simp only [tr_safe_2, Tr.chk, PL.chkAll, PL.dom, t_safe_3, t_safe_4, t_safe_5, Bool.and_self]
def tr_safe_6 : Tr := .leaf
theorem t_safe_6 (w : Nat → Str) : tr_safe_6.chk dom (lf_safe) (setW (setW (w) 11 "one") 9 "behind") = true := by kernel_rfl
def tr_safe_1 : Tr := .node 9 [tr_safe_2, tr_safe_6]
theorem t_safe_1 (w : Nat → Str) : tr_safe_1.chk dom (lf_safe) (setW (w) 11 "one") = true := by
  simp only [tr_safe_1, Tr.chk, PL.chkAll, PL.dom, t_safe_2, t_safe_6, Bool.and_self]
def tr_safe_7 : Tr := .leaf
theorem t_safe_7 (w : Nat → Str) : tr_safe_7.chk dom (lf_safe) (setW (w) 11 "any") = true := by kernel_rfl
def tr_safe_0 : Tr := .node 11 [tr_safe_1, tr_safe_7]
theorem t_safe_0 (w : Nat → Str) : tr_safe_0.chk dom (lf_safe) (w) = true := by
  simp only [tr_safe_0, Tr.chk, PL.chkAll, PL.dom, t_safe_1, t_safe_7, Bool.and_self]
theorem safe_all {w : Nat → Str} (h : Gd w) : lf_safe w = true := Tr.chk_of h _ (t_safe_0 w)
end K66

set_option Elab.async false
set_option linter.all false
set_option maxRecDepth 100000
set_option maxHeartbeats 4000000
namespace K66
open PL PySem
def nums : List D := [.non, .int 1, .int 2, .int 3, .int 4, .int 6, .int 7, .int 8, .int 9]
theorem same_of {w : Nat → Str} (h : Gd w) : ∃ d ∈ nums, ∃ s1 s2, PL.run prog cons 8 4 [bk w] [] = .ok d s1 ∧ PL.run prog cons 8 13 [bk w] [] = .ok d s2 := by
  have h1 : eqN (PL.run prog cons 8 4 [bk w] []) (PL.run prog cons 8 13 [bk w] []) = true := same_all h
  unfold eqN at h1
  split at h1
  · rename_i a _ b _ e1 e2
    simp only [Bool.and_eq_true, decide_eq_true_eq] at h1
    obtain ⟨rfl, h2⟩ := h1
    have h3 : a = 1 ∨ a = 2 ∨ a = 3 ∨ a = 4 ∨ a = 6 ∨ a = 7 ∨ a = 8 ∨ a = 9 := by simpa using h2
    refine ⟨_, ?_, _, _, e1, e2⟩
    unfold nums
    rcases h3 with rfl | rfl | rfl | rfl | rfl | rfl | rfl | rfl <;> simp
  · rename_i e1 e2
    exact ⟨_, by unfold nums; simp, _, _, e1, e2⟩
  · cases h1
def pD : D → PyData
  | .int i => .int i
  | _ => .none
def isN : D → Bool
  | .non => true
  | _ => false
theorem nums_all {p : D → Prop} (h0 : p .non) (h1 : p (.int 1)) (h2 : p (.int 2)) (h3 : p (.int 3)) (h4 : p (.int 4)) (h6 : p (.int 6)) (h7 : p (.int 7)) (h8 : p (.int 8)) (h9 : p (.int 9)) {d : D} (h : d ∈ nums) : p d := by
  unfold nums at h
  simp only [List.mem_cons, List.not_mem_nil, or_false] at h
  rcases h with rfl | rfl | rfl | rfl | rfl | rfl | rfl | rfl | rfl <;> assumption
theorem nums_ground {d : D} (h : d ∈ nums) : ground d = true := nums_all (p := fun d => ground d = true) rfl rfl rfl rfl rfl rfl rfl rfl rfl h
theorem C_isn {d : D} (h : d ∈ nums) {st : Sto} : cmpD .isn d .non st = some (isN d) := nums_all (p := fun d => cmpD .isn d .non st = some (isN d)) rfl rfl rfl rfl rfl rfl rfl rfl rfl h
theorem toPy_num {d : D} (h : d ∈ nums) {st : Sto} : toPy st 59 d = some (pD d) := nums_all (p := fun d => toPy st 59 d = some (pD d)) rfl rfl rfl rfl rfl rfl rfl rfl rfl h
theorem same_num {d : D} (h : d ∈ nums) {b : Bool} : same (.list [pD d, .bool b]) (.list [pD d, .bool b]) = true := nums_all (p := fun d => same (.list [pD d, .bool b]) (.list [pD d, .bool b]) = true) (by cases b <;> rfl) (by cases b <;> rfl) (by cases b <;> rfl) (by cases b <;> rfl) (by cases b <;> rfl) (by cases b <;> rfl) (by cases b <;> rfl) (by cases b <;> rfl) (by cases b <;> rfl) h
theorem repr_pair {d : D} (h : d ∈ nums) {q : Nat} {b : Bool} {st : Sto} (hq : st[q]? = some (.lst [d, .bl b])) : bltD .repr [.ref q] st = .ok (.rep (.list [pD d, .bool b])) st := by
  have e : toPy st 60 (.ref q) = some (.list [pD d, .bool b]) := by
    rw [toPy, hq]
    simp only [optMap, toPy_num h]
    rfl
  unfold bltD
  simp only [e]
  rw [if_pos]
  exact nums_all (p := fun d => ((PyData.list [pD d, .bool b]).canLay0 && ((PyData.list [pD d, .bool b]).showable && decide (showCost (.list [pD d, .bool b]) ≤ sizeLine))) = true) (by cases b <;> decide) (by cases b <;> decide) (by cases b <;> decide) (by cases b <;> decide) (by cases b <;> decide) (by cases b <;> decide) (by cases b <;> decide) (by cases b <;> decide) (by cases b <;> decide) h
/-- safe(book) by slip(book) -/
theorem safe5 {n : Nat} {w : Nat → Str} {d : D} {s1 : Sto} (hd : d ∈ nums) (h1 : PL.run prog cons 8 4 [bk w] [] = .ok d s1) {st : Sto} {P : D → Sto → Prop} (k : P (.bl (isN d)) st) : Wd (RC (n + 1) 5 [bk w] st) P := by
  refine W_def (fn := f5) rfl rfl rfl ?_
  simp only [f5, W_var, W_cI, W_cB, W_cS, W_cN, W_gcon, W_bin, W_neg, W_notE, W_and1, W_or1, W_and2, W_or2, W_cmp, W_ife, W_tup, W_lst, W_dic, W_call, W_callK, W_blt, W_meth, W_idx, W_sl, W_rev, W_nil, W_cons, W_val, W_vc, W_not, W_tand1, W_tor1, W_tand2, W_tor2, W_yes, W_name, W_tgt, W_tgsub, W_tgnil, W_tgcons, W_asg, W_par, W_exp, W_ret, W_if, W_snil, W_scons, Then_next, Then_ret, Back_ret, Back_next, Wd_ok, Wd_bad, List.map_cons, List.map_nil, List.replicate_succ, List.replicate_zero, List.cons_append, List.nil_append, List.getElem?_cons_zero, List.getElem?_cons_succ, List.set_cons_zero, List.set_cons_succ, Option.some.injEq, exists_eq_left', List.length_cons, List.length_nil, setAll]
  exact W_pure (f := 4) rfl h1 rfl (nums_ground hd) ⟨_, C_isn hd, k⟩
theorem right_spec {n : Nat} {w : Nat → Str} {nm : Bool} {st : Sto} {P : D → Sto → Prop} (hw : Gd w) (k : ∀ st', Fa st st' → P (.bl true) st') : Wd (RC (n + 2) 14 [bk w, .bl nm] st) P := by
  refine W_def (fn := f14) rfl rfl rfl ?_
  obtain ⟨d, hd, s1, s2, h1, h2⟩ := same_of hw
  have hg := nums_ground hd
  simp only [f14, W_var, W_cI, W_cB, W_cS, W_cN, W_gcon, W_bin, W_neg, W_notE, W_and1, W_or1, W_and2, W_or2, W_cmp, W_ife, W_tup, W_lst, W_dic, W_call, W_callK, W_blt, W_meth, W_idx, W_sl, W_rev, W_nil, W_cons, W_val, W_vc, W_not, W_tand1, W_tor1, W_tand2, W_tor2, W_yes, W_name, W_tgt, W_tgsub, W_tgnil, W_tgcons, W_asg, W_par, W_exp, W_ret, W_if, W_snil, W_scons, Then_next, Then_ret, Back_ret, Back_next, Wd_ok, Wd_bad, List.map_cons, List.map_nil, List.replicate_succ, List.replicate_zero, List.cons_append, List.nil_append, List.getElem?_cons_zero, List.getElem?_cons_succ, List.set_cons_zero, List.set_cons_succ, Option.some.injEq, exists_eq_left', List.length_cons, List.length_nil, setAll]
  rw [repr_bk hw]
  refine W_pure (f := 13) rfl h2 rfl hg ?_
  refine ⟨trivial, _, rfl, ?_⟩
  split
  all_goals
    refine W_pure (f := 4) rfl h1 rfl hg ?_
    refine safe5 hd h1 ⟨by decide, ?_⟩
    rw [repr_pair hd get_new]
    refine ⟨_, C_isn hd, by decide, ?_⟩
    rw [repr_pair hd get_new]
    refine ⟨_, (C_rep (same_num hd)).2, ?_⟩
    rw [if_neg (by simp)]
    refine W_pure (f := 4) rfl h1 rfl hg ?_
    refine safe5 hd h1 ⟨by decide, ?_⟩
    rw [repr_pair hd get_new]
    rw [Wd_ok, repr_pair hd (get_app (get_app get_new))]
    refine ⟨_, (C_rep (same_num hd)).2, ?_⟩
    rw [if_neg (by simp)]
    rw [repr_bk hw]
    exact ⟨_, (C_rep same_bk).1, k _ ((Fa.app.trans Fa.app).trans Fa.app)⟩
end K66

set_option Elab.async false
set_option linter.all false
set_option maxRecDepth 100000
set_option maxHeartbeats 8000000
namespace K66
open PL PySem
theorem W_step {F : Nat → List D → Sto → Res D} {G : List D} {env : PL.Env} {st : Sto} {PO' : Out → Sto → Prop} {s : S} {ss : Ss} {I : PL.Env → Sto → Prop} (h : Wd (ex F G s env st) (Then I (fun _ _ => False))) (k : ∀ env1 st1, I env1 st1 → Wd (exs F G ss env1 st1) PO') : Wd (exs F G (.cons s ss) env st) PO' := by
  refine W_scons.mpr (h.mono fun o st1 h => ?_)
  cases o with
  | next env1 => exact k env1 st1 h
  | brk _ => exact h.elim
  | cnt _ => exact h.elim
  | ret _ => exact h.elim
/-- a word picked of a list just laid -/
theorem pickN {n r f T : Nat} {ws : List Str} {st : Sto} {P : D → Sto → Prop} (h : Bag r f T st) (hm : ws ≠ [] ∧ ws.length < 100) (k : ∀ x ∈ ws, ∀ st', Bag r f T st' → Fr r f st st' → P (.str x) st') : Wd (RC (n + 2) 8 [.ref r, .ref st.length] (st ++ [.lst (ws.map .str)])) P := by
  have hlt := h.lt
  refine pickL_spec (T := T) h.app get_new ⟨by omega, by omega⟩ ⟨by simpa using hm.1, by rw [List.length_map]; omega⟩ fun x hx st' hb hf => ?_
  obtain ⟨s, hs, rfl⟩ := List.mem_map.mp hx
  exact k s hs st' hb (Fr.app.trans hf)
def p3 (a b c e x : Str) : Bool := condB (orB (eqW a "perhaps") (eqW b "perhaps")) (condB (andB (eqW c "mark") (orB (neW a "sure") (neW e "sure"))) (eqW x "work") (neW x "answer")) true
def p4 (a b c e s x : Str) : Bool := condB (orB (eqW a "sure") (orB (eqW b "sure") (eqW e "sure"))) (condB (andB (eqW c "mark") (eqW s "ahead")) (eqW x "work") (neW x "answer")) true
def pS (s p : Str) : Bool := orB (eqW s "ahead") (andB (eqW s "unless") (eqW p "never"))
def psW : List Str := [⟨#[112, 101, 114, 104, 97, 112, 115]⟩, ⟨#[115, 117, 114, 101]⟩]
def stopW : List Str := [⟨#[109, 97, 114, 107, 101, 100]⟩, ⟨#[117, 110, 114, 97, 105, 115, 101, 100]⟩, ⟨#[110, 101, 118, 101, 114]⟩]
def nsW : List Str := [⟨#[110, 111, 110, 101]⟩, ⟨#[115, 117, 114, 101]⟩]
def vmW : List Str := [⟨#[118, 97, 108, 117, 101, 115]⟩, ⟨#[109, 97, 114, 107]⟩]
def fbW : List Str := [⟨#[102, 105, 114, 115, 116]⟩, ⟨#[98, 101, 116, 119, 101, 101, 110]⟩]
def skW : List Str := [⟨#[115, 116, 114, 117, 99, 107]⟩, ⟨#[107, 101, 112, 116]⟩]
theorem toPys_str {n : Nat} {st : Sto} : ∀ ws : List Str, optMap (toPy st n) (ws.map D.str) = some (ws.map PyData.str)
  | [] => rfl
  | k :: ws => by rw [List.map_cons, optMap, toPys_str ws]; cases n <;> rfl
theorem lay_strs : ∀ ws : List Str, (ws.all fun y => PyData.canLay0 (.str y)) = true → PyData.canLayAll0 (ws.map PyData.str) = true
  | [], _ => rfl
  | k :: ws, h => by
    rw [List.all_cons, Bool.and_eq_true] at h
    rw [List.map_cons, PyData.canLayAll0, h.1, lay_strs ws h.2]; rfl
theorem C_notin {x : Str} {ws : List Str} {st : Sto} (hx : PyData.canLay0 (.str x) = true) (hw : (ws.all fun y => PyData.canLay0 (.str y)) = true) : cmpD .notin (.str x) (.tup (ws.map .str)) st = some (!(ws.any fun y => PyData.eqv (.str y) (.str x))) := by
  show (inD st (.str x) (.tup (ws.map .str))).map _ = _
  have e1 : toPy st 60 (.str x) = some (.str x) := rfl
  have e2 : toPy st 60 (.tup (ws.map .str)) = some (.tuple (ws.map .str)) := by rw [toPy, toPys_str]; rfl
  unfold inD
  simp only [e1, e2, hx, lay_strs ws hw, List.any_map]
  rfl
def cwW : List Str := [⟨#[99, 104, 101, 99, 107]⟩, ⟨#[119, 111, 114, 107]⟩]
def awW : List Str := [⟨#[97, 110, 115, 119, 101, 114]⟩, ⟨#[99, 104, 101, 99, 107]⟩, ⟨#[119, 111, 114, 107]⟩]
def woW : List Str := [⟨#[119, 111, 114, 107]⟩]
def ok3 (a b c e : Str) (l : List Str) : Prop := (l ≠ [] ∧ l.length < 100) ∧ ∀ x ∈ l, x ∈ dom 3 ∧ p3 a b c e x = true
def ok4 (a b c e s : Str) (l : List Str) : Prop := (l ≠ [] ∧ l.length < 100) ∧ ∀ x ∈ l, x ∈ dom 4 ∧ p4 a b c e s x = true
instance ok3D {a b c e : Str} {l : List Str} : Decidable (ok3 a b c e l) := by unfold ok3; infer_instance
instance ok4D {a b c e s : Str} {l : List Str} : Decidable (ok4 a b c e s l) := by unfold ok4; infer_instance
theorem in2 {l : List Str} {x y z : Str} (hl : l = [x, y]) (h : z ∈ l) : z = x ∨ z = y := by subst hl; simpa using h
theorem pS_two {s p : Str} (h : pS s p = true) (h8 : s ∈ dom 8) : s = ⟨#[97, 104, 101, 97, 100]⟩ ∨ s = ⟨#[117, 110, 108, 101, 115, 115]⟩ := by
  have h8 : s = "ahead" ∨ s = "behind" ∨ s = "unless" := by simpa [dom] using h8
  rcases h8 with rfl | rfl | rfl
  · exact .inl (by decide)
  · exact absurd h (by unfold pS; intro z; have : orB (eqW "behind" "ahead") (andB (eqW "behind" "unless") (eqW p "never")) = false := rfl; rw [this] at z; cases z)
  · exact .inr (by decide)
theorem safe_spec {n r f T : Nat} {st : Sto} {P : D → Sto → Prop} (h : Bag r f T st) (k : ∀ w st', Gd w → safeB w = true → Bag r f T st' → P (bk w) st') : Wd (RC (n + 3) 11 [.ref r] st) P := by
  refine W_def (fn := f11) rfl rfl rfl ?_
  simp only [f11, List.map_cons, List.map_nil, List.replicate_succ, List.replicate_zero, List.cons_append, List.nil_append]
  show Wd (exs (RC (n + 2)) cons _ [some (.ref r), none, none, none, none, none, none, none, none, none, none, none] st) _
  refine W_step (I := fun env st' => ∃ a ∈ psW, ∃ b ∈ psW, env = [some (.ref r), some (.str a), some (.str b), none, none, none, none, none, none, none, none, none] ∧ Bag r f T st') ?_ ?_
  · simp only [W_var, W_cI, W_cB, W_cS, W_cN, W_gcon, W_bin, W_neg, W_notE, W_and1, W_or1, W_and2, W_or2, W_cmp, W_ife, W_tup, W_lst, W_dic, W_call, W_callK, W_blt, W_meth, W_idx, W_sl, W_rev, W_nil, W_cons, W_val, W_vc, W_not, W_tand1, W_tor1, W_tand2, W_tor2, W_yes, W_name, W_tgt, W_tgsub, W_tgnil, W_tgcons, W_asg, W_par, W_exp, W_ret, W_if, W_snil, W_scons, Then_next, Then_ret, Back_ret, Back_next, Wd_ok, Wd_bad, List.map_cons, List.map_nil, List.replicate_succ, List.replicate_zero, List.cons_append, List.nil_append, List.getElem?_cons_zero, List.getElem?_cons_succ, List.set_cons_zero, List.set_cons_succ, Option.some.injEq, exists_eq_left', List.length_cons, List.length_nil, setAll]
    refine ⟨by decide, pickN (ws := psW) h ⟨by decide, by decide⟩ fun a ha st2 hb _ => ⟨by decide, pickN (ws := psW) hb ⟨by decide, by decide⟩ fun b hb2 st3 hb _ => ?_⟩⟩
    exact ⟨trivial, a, ha, b, hb2, rfl, hb⟩
  rintro env st1 ⟨a, ha, b, hb', rfl, h⟩
  refine W_step (I := fun env st' => ∃ p ∈ stopW, ∃ e ∈ nsW, env = [some (.ref r), some (.str a), some (.str b), some (.str p), some (.str e), none, none, none, none, none, none, none] ∧ Bag r f T st') ?_ ?_
  · simp only [W_var, W_cI, W_cB, W_cS, W_cN, W_gcon, W_bin, W_neg, W_notE, W_and1, W_or1, W_and2, W_or2, W_cmp, W_ife, W_tup, W_lst, W_dic, W_call, W_callK, W_blt, W_meth, W_idx, W_sl, W_rev, W_nil, W_cons, W_val, W_vc, W_not, W_tand1, W_tor1, W_tand2, W_tor2, W_yes, W_name, W_tgt, W_tgsub, W_tgnil, W_tgcons, W_asg, W_par, W_exp, W_ret, W_if, W_snil, W_scons, Then_next, Then_ret, Back_ret, Back_next, Wd_ok, Wd_bad, List.map_cons, List.map_nil, List.replicate_succ, List.replicate_zero, List.cons_append, List.nil_append, List.getElem?_cons_zero, List.getElem?_cons_succ, List.set_cons_zero, List.set_cons_succ, Option.some.injEq, exists_eq_left', List.length_cons, List.length_nil, setAll]
    refine ⟨by decide, pickN (ws := stopW) h ⟨by decide, by decide⟩ fun p hp st2 hb _ => ⟨by decide, pickN (ws := nsW) hb ⟨by decide, by decide⟩ fun e he st3 hb _ => ?_⟩⟩
    exact ⟨trivial, p, hp, e, he, rfl, hb⟩
  rintro env st1 ⟨p, hp, e, he, rfl, h⟩
  refine W_step (I := fun env st' => ∃ c ∈ vmW, env = [some (.ref r), some (.str a), some (.str b), some (.str p), some (.str e), some (.str c), some (.str ⟨#[97, 104, 101, 97, 100]⟩), none, none, none, none, none] ∧ Bag r f T st') ?_ ?_
  · simp only [W_var, W_cI, W_cB, W_cS, W_cN, W_gcon, W_bin, W_neg, W_notE, W_and1, W_or1, W_and2, W_or2, W_cmp, W_ife, W_tup, W_lst, W_dic, W_call, W_callK, W_blt, W_meth, W_idx, W_sl, W_rev, W_nil, W_cons, W_val, W_vc, W_not, W_tand1, W_tor1, W_tand2, W_tor2, W_yes, W_name, W_tgt, W_tgsub, W_tgnil, W_tgcons, W_asg, W_par, W_exp, W_ret, W_if, W_snil, W_scons, Then_next, Then_ret, Back_ret, Back_next, Wd_ok, Wd_bad, List.map_cons, List.map_nil, List.replicate_succ, List.replicate_zero, List.cons_append, List.nil_append, List.getElem?_cons_zero, List.getElem?_cons_succ, List.set_cons_zero, List.set_cons_succ, Option.some.injEq, exists_eq_left', List.length_cons, List.length_nil, setAll]
    refine ⟨by decide, pickN (ws := vmW) h ⟨by decide, by decide⟩ fun c hc st2 hb _ => ?_⟩
    exact ⟨trivial, c, hc, rfl, hb⟩
  rintro env st1 ⟨c, hc, rfl, h⟩
  refine W_step (I := fun env st' => ∃ s, pS s p = true ∧ s ∈ dom 8 ∧ env = [some (.ref r), some (.str a), some (.str b), some (.str p), some (.str e), some (.str c), some (.str s), none, none, none, none, none] ∧ Bag r f T st') ?_ ?_
  · simp only [W_var, W_cI, W_cB, W_cS, W_cN, W_gcon, W_bin, W_neg, W_notE, W_and1, W_or1, W_and2, W_or2, W_cmp, W_ife, W_tup, W_lst, W_dic, W_call, W_callK, W_blt, W_meth, W_idx, W_sl, W_rev, W_nil, W_cons, W_val, W_vc, W_not, W_tand1, W_tor1, W_tand2, W_tor2, W_yes, W_name, W_tgt, W_tgsub, W_tgnil, W_tgcons, W_asg, W_par, W_exp, W_ret, W_if, W_snil, W_scons, Then_next, Then_ret, Back_ret, Back_next, Wd_ok, Wd_bad, List.map_cons, List.map_nil, List.replicate_succ, List.replicate_zero, List.cons_append, List.nil_append, List.getElem?_cons_zero, List.getElem?_cons_succ, List.set_cons_zero, List.set_cons_succ, Option.some.injEq, exists_eq_left', List.length_cons, List.length_nil, setAll, C_eqS]
    split
    · rename_i hp2
      have hp2 : p = ("never" : Str) := by have := of_decide_eq_true hp2; rw [this]; decide
      refine draw_spec (T := T) h ⟨by decide, by decide⟩ fun v st2 _ _ hb _ => ?_
      simp only [W_var, W_cI, W_cB, W_cS, W_cN, W_gcon, W_bin, W_neg, W_notE, W_and1, W_or1, W_and2, W_or2, W_cmp, W_ife, W_tup, W_lst, W_dic, W_call, W_callK, W_blt, W_meth, W_idx, W_sl, W_rev, W_nil, W_cons, W_val, W_vc, W_not, W_tand1, W_tor1, W_tand2, W_tor2, W_yes, W_name, W_tgt, W_tgsub, W_tgnil, W_tgcons, W_asg, W_par, W_exp, W_ret, W_if, W_snil, W_scons, Then_next, Then_ret, Back_ret, Back_next, Wd_ok, Wd_bad, List.map_cons, List.map_nil, List.replicate_succ, List.replicate_zero, List.cons_append, List.nil_append, List.getElem?_cons_zero, List.getElem?_cons_succ, List.set_cons_zero, List.set_cons_succ, Option.some.injEq, exists_eq_left', List.length_cons, List.length_nil, setAll, C_eqI]
      split
      · exact ⟨⟨#[117, 110, 108, 101, 115, 115]⟩, by rw [hp2]; decide, by decide, rfl, hb⟩
      · exact ⟨⟨#[97, 104, 101, 97, 100]⟩, by rw [hp2]; decide, by decide, rfl, hb⟩
    · exact ⟨⟨#[97, 104, 101, 97, 100]⟩, rfl, by decide, rfl, h⟩
  rintro env st1 ⟨s, hs, hs8, rfl, h⟩
  refine W_step (I := fun env st' => ∃ q7 q8, env = [some (.ref r), some (.str a), some (.str b), some (.str p), some (.str e), some (.str c), some (.str s), some (.ref q7), some (.ref q8), none, none, none] ∧ Bag r f T st' ∧ (q7 ≠ r ∧ q7 ≠ f ∧ st'[q7]? = some (.lst (cwW.map .str))) ∧ (q8 ≠ r ∧ q8 ≠ f ∧ st'[q8]? = some (.lst (cwW.map .str)))) ?_ ?_
  · simp only [W_var, W_cI, W_cB, W_cS, W_cN, W_gcon, W_bin, W_neg, W_notE, W_and1, W_or1, W_and2, W_or2, W_cmp, W_ife, W_tup, W_lst, W_dic, W_call, W_callK, W_blt, W_meth, W_idx, W_sl, W_rev, W_nil, W_cons, W_val, W_vc, W_not, W_tand1, W_tor1, W_tand2, W_tor2, W_yes, W_name, W_tgt, W_tgsub, W_tgnil, W_tgcons, W_asg, W_par, W_exp, W_ret, W_if, W_snil, W_scons, Then_next, Then_ret, Back_ret, Back_next, Wd_ok, Wd_bad, List.map_cons, List.map_nil, List.replicate_succ, List.replicate_zero, List.cons_append, List.nil_append, List.getElem?_cons_zero, List.getElem?_cons_succ, List.set_cons_zero, List.set_cons_succ, Option.some.injEq, exists_eq_left', List.length_cons, List.length_nil, setAll]
    have hlt := h.lt
    exact ⟨by decide, by decide, trivial, _, _, rfl, h.app.app, ⟨by omega, by omega, get_app get_new⟩, ⟨by simp; omega, by simp; omega, get_new⟩⟩
  rintro env st1 ⟨q7, q8, rfl, h, ⟨n1, n2, g7⟩, ⟨n3, n4, g8⟩⟩
  have ha2 := in2 rfl ha
  have hb2 := in2 rfl hb'
  have hc2 := in2 rfl hc
  have he2 := in2 rfl he
  refine W_step (I := fun env st' => ∃ q7 l7, ok3 a b c e l7 ∧ env = [some (.ref r), some (.str a), some (.str b), some (.str p), some (.str e), some (.str c), some (.str s), some (.ref q7), some (.ref q8), none, none, none] ∧ Bag r f T st' ∧ (q7 ≠ r ∧ q7 ≠ f ∧ st'[q7]? = some (.lst (l7.map .str))) ∧ st'[q8]? = some (.lst (cwW.map .str))) ?_ ?_
  · have hlt := h.lt
    have clN : ∀ l : List Str, ok3 a b c e l → ∃ q7 l7, ok3 a b c e l7 ∧ [some (D.ref r), some (.str a), some (.str b), some (.str p), some (.str e), some (.str c), some (.str s), some (.ref st1.length), some (.ref q8), none, none, none] = [some (D.ref r), some (.str a), some (.str b), some (.str p), some (.str e), some (.str c), some (.str s), some (.ref q7), some (.ref q8), none, none, none] ∧
        Bag r f T (st1 ++ [.lst (l.map .str)]) ∧ (q7 ≠ r ∧ q7 ≠ f ∧ (st1 ++ [.lst (l.map .str)])[q7]? = some (.lst (l7.map .str))) ∧ (st1 ++ [.lst (l.map .str)])[q8]? = some (.lst (cwW.map .str)) := fun l hl => ⟨_, l, hl, rfl, h.app, ⟨by omega, by omega, get_new⟩, get_app g8⟩
    have clO : ok3 a b c e cwW → ∃ q7' l7, ok3 a b c e l7 ∧ [some (D.ref r), some (.str a), some (.str b), some (.str p), some (.str e), some (.str c), some (.str s), some (.ref q7), some (.ref q8), none, none, none] = [some (D.ref r), some (.str a), some (.str b), some (.str p), some (.str e), some (.str c), some (.str s), some (.ref q7'), some (.ref q8), none, none, none] ∧
        Bag r f T st1 ∧ (q7' ≠ r ∧ q7' ≠ f ∧ st1[q7']? = some (.lst (l7.map .str))) ∧ st1[q8]? = some (.lst (cwW.map .str)) := fun hl => ⟨_, _, hl, rfl, h, ⟨n1, n2, g7⟩, g8⟩
    simp only [W_var, W_cI, W_cB, W_cS, W_cN, W_gcon, W_bin, W_neg, W_notE, W_and1, W_or1, W_and2, W_or2, W_cmp, W_ife, W_tup, W_lst, W_dic, W_call, W_callK, W_blt, W_meth, W_idx, W_sl, W_rev, W_nil, W_cons, W_val, W_vc, W_not, W_tand1, W_tor1, W_tand2, W_tor2, W_yes, W_name, W_tgt, W_tgsub, W_tgnil, W_tgcons, W_asg, W_par, W_exp, W_ret, W_if, W_snil, W_scons, Then_next, Then_ret, Back_ret, Back_next, Wd_ok, Wd_bad, List.map_cons, List.map_nil, List.replicate_succ, List.replicate_zero, List.cons_append, List.nil_append, List.getElem?_cons_zero, List.getElem?_cons_succ, List.set_cons_zero, List.set_cons_succ, Option.some.injEq, exists_eq_left', List.length_cons, List.length_nil, setAll, C_eqS, C_neS]
    clear hs hs8 ha hb' hc he
    rcases ha2 with rfl | rfl <;> rcases hb2 with rfl | rfl <;> rcases hc2 with rfl | rfl <;> rcases he2 with rfl | rfl <;>
      (refine ⟨by decide, _, C_notin (ws := [_, _]) (by decide +kernel) (by decide +kernel), ?_⟩
       repeat first | rw [if_pos (by decide +kernel)] | rw [if_neg (by decide +kernel)]
       first | exact ⟨by decide, clN awW (by decide +kernel)⟩ | exact ⟨by decide, clN woW (by decide +kernel)⟩ | exact clO (by decide +kernel))
  rintro env st1 ⟨q7, l7, hl7, rfl, h, ⟨n1, n2, g7⟩, g8⟩
  refine W_step (I := fun env st' => ∃ q8 l8, ok4 a b c e s l8 ∧ env = [some (.ref r), some (.str a), some (.str b), some (.str p), some (.str e), some (.str c), some (.str s), some (.ref q7), some (.ref q8), none, none, none] ∧ Bag r f T st' ∧ (q8 ≠ r ∧ q8 ≠ f ∧ st'[q8]? = some (.lst (l8.map .str))) ∧ st'[q7]? = some (.lst (l7.map .str))) ?_ ?_
  · have hlt := h.lt
    have hs2 := pS_two hs hs8
    have clN : ∀ l : List Str, ok4 a b c e s l → ∃ q8 l8, ok4 a b c e s l8 ∧ [some (D.ref r), some (.str a), some (.str b), some (.str p), some (.str e), some (.str c), some (.str s), some (.ref q7), some (.ref st1.length), none, none, none] = [some (D.ref r), some (.str a), some (.str b), some (.str p), some (.str e), some (.str c), some (.str s), some (.ref q7), some (.ref q8), none, none, none] ∧
        Bag r f T (st1 ++ [.lst (l.map .str)]) ∧ (q8 ≠ r ∧ q8 ≠ f ∧ (st1 ++ [.lst (l.map .str)])[q8]? = some (.lst (l8.map .str))) ∧ (st1 ++ [.lst (l.map .str)])[q7]? = some (.lst (l7.map .str)) := fun l hl => ⟨_, l, hl, rfl, h.app, ⟨by omega, by omega, get_new⟩, get_app g7⟩
    have clO : ok4 a b c e s cwW → ∃ q8' l8, ok4 a b c e s l8 ∧ [some (D.ref r), some (.str a), some (.str b), some (.str p), some (.str e), some (.str c), some (.str s), some (.ref q7), some (.ref q8), none, none, none] = [some (D.ref r), some (.str a), some (.str b), some (.str p), some (.str e), some (.str c), some (.str s), some (.ref q7), some (.ref q8'), none, none, none] ∧
        Bag r f T st1 ∧ (q8' ≠ r ∧ q8' ≠ f ∧ st1[q8']? = some (.lst (l8.map .str))) ∧ st1[q7]? = some (.lst (l7.map .str)) := fun hl => ⟨_, _, hl, rfl, h, ⟨n3, n4, g8⟩, g7⟩
    simp only [W_var, W_cI, W_cB, W_cS, W_cN, W_gcon, W_bin, W_neg, W_notE, W_and1, W_or1, W_and2, W_or2, W_cmp, W_ife, W_tup, W_lst, W_dic, W_call, W_callK, W_blt, W_meth, W_idx, W_sl, W_rev, W_nil, W_cons, W_val, W_vc, W_not, W_tand1, W_tor1, W_tand2, W_tor2, W_yes, W_name, W_tgt, W_tgsub, W_tgnil, W_tgcons, W_asg, W_par, W_exp, W_ret, W_if, W_snil, W_scons, Then_next, Then_ret, Back_ret, Back_next, Wd_ok, Wd_bad, List.map_cons, List.map_nil, List.replicate_succ, List.replicate_zero, List.cons_append, List.nil_append, List.getElem?_cons_zero, List.getElem?_cons_succ, List.set_cons_zero, List.set_cons_succ, Option.some.injEq, exists_eq_left', List.length_cons, List.length_nil, setAll, C_eqS, C_neS]
    clear hs hs8 ha hb' hc he hl7
    rcases ha2 with rfl | rfl <;> rcases hb2 with rfl | rfl <;> rcases hc2 with rfl | rfl <;> rcases he2 with rfl | rfl <;> rcases hs2 with rfl | rfl <;>
      (refine ⟨by decide, _, C_notin (ws := [_, _, _]) (by decide +kernel) (by decide +kernel), ?_⟩
       repeat first | rw [if_pos (by decide +kernel)] | rw [if_neg (by decide +kernel)]
       first | exact ⟨by decide, clN awW (by decide +kernel)⟩ | exact ⟨by decide, clN woW (by decide +kernel)⟩ | exact clO (by decide +kernel))
  rintro env st1 ⟨q8, l8, hl8, rfl, h, ⟨n3, n4, g8⟩, g7⟩
  refine W_step (I := fun env st' => ∃ x3 ∈ l7, ∃ x4 ∈ l8, ∃ e7 e8, env = [some (.ref r), some (.str a), some (.str b), some (.str p), some (.str e), some (.str c), some (.str s), e7, e8, some (.tup [.str a, .str b, .str p, .str x3, .str x4, .str c, .str e]), none, none] ∧ Bag r f T st') ?_ ?_
  · simp only [W_var, W_cI, W_cB, W_cS, W_cN, W_gcon, W_bin, W_neg, W_notE, W_and1, W_or1, W_and2, W_or2, W_cmp, W_ife, W_tup, W_lst, W_dic, W_call, W_callK, W_blt, W_meth, W_idx, W_sl, W_rev, W_nil, W_cons, W_val, W_vc, W_not, W_tand1, W_tor1, W_tand2, W_tor2, W_yes, W_name, W_tgt, W_tgsub, W_tgnil, W_tgcons, W_asg, W_par, W_exp, W_ret, W_if, W_snil, W_scons, Then_next, Then_ret, Back_ret, Back_next, Wd_ok, Wd_bad, List.map_cons, List.map_nil, List.replicate_succ, List.replicate_zero, List.cons_append, List.nil_append, List.getElem?_cons_zero, List.getElem?_cons_succ, List.set_cons_zero, List.set_cons_succ, Option.some.injEq, exists_eq_left', List.length_cons, List.length_nil, setAll]
    refine pickL_spec (T := T) h g7 ⟨n1, n2⟩ ⟨by simpa using hl7.1.1, by rw [List.length_map]; have := hl7.1.2; omega⟩ fun y hy st2 hb hf => ?_
    obtain ⟨x3, hx3, rfl⟩ := List.mem_map.mp hy
    refine pickL_spec (T := T) hb (hf.2 _ _ n3 n4 g8) ⟨n3, n4⟩ ⟨by simpa using hl8.1.1, by rw [List.length_map]; have := hl8.1.2; omega⟩ fun y hy st3 hb hf2 => ?_
    obtain ⟨x4, hx4, rfl⟩ := List.mem_map.mp hy
    exact ⟨by decide, x3, hx3, x4, hx4, _, _, rfl, hb⟩
  rintro env st1 ⟨x3, hx3, x4, hx4, e7, e8, rfl, h⟩
  refine W_step (I := fun env st' => ∃ g ∈ fbW, ∃ o ∈ skW, env = [some (.ref r), some (.str a), some (.str b), some (.str p), some (.str e), some (.str c), some (.str s), e7, e8, some (.tup [.str a, .str b, .str p, .str x3, .str x4, .str c, .str e]), some (.str g), some (.str o)] ∧ Bag r f T st') ?_ ?_
  · simp only [W_var, W_cI, W_cB, W_cS, W_cN, W_gcon, W_bin, W_neg, W_notE, W_and1, W_or1, W_and2, W_or2, W_cmp, W_ife, W_tup, W_lst, W_dic, W_call, W_callK, W_blt, W_meth, W_idx, W_sl, W_rev, W_nil, W_cons, W_val, W_vc, W_not, W_tand1, W_tor1, W_tand2, W_tor2, W_yes, W_name, W_tgt, W_tgsub, W_tgnil, W_tgcons, W_asg, W_par, W_exp, W_ret, W_if, W_snil, W_scons, Then_next, Then_ret, Back_ret, Back_next, Wd_ok, Wd_bad, List.map_cons, List.map_nil, List.replicate_succ, List.replicate_zero, List.cons_append, List.nil_append, List.getElem?_cons_zero, List.getElem?_cons_succ, List.set_cons_zero, List.set_cons_succ, Option.some.injEq, exists_eq_left', List.length_cons, List.length_nil, setAll]
    refine ⟨by decide, pickN (ws := fbW) h ⟨by decide, by decide⟩ fun g hg st2 hb _ => ⟨by decide, pickN (ws := skW) hb ⟨by decide, by decide⟩ fun o ho st3 hb _ => ?_⟩⟩
    exact ⟨trivial, g, hg, o, ho, rfl, hb⟩
  rintro env st1 ⟨g, hg, o, ho, rfl, h⟩
  simp only [W_var, W_cI, W_cB, W_cS, W_cN, W_gcon, W_bin, W_neg, W_notE, W_and1, W_or1, W_and2, W_or2, W_cmp, W_ife, W_tup, W_lst, W_dic, W_call, W_callK, W_blt, W_meth, W_idx, W_sl, W_rev, W_nil, W_cons, W_val, W_vc, W_not, W_tand1, W_tor1, W_tand2, W_tor2, W_yes, W_name, W_tgt, W_tgsub, W_tgnil, W_tgcons, W_asg, W_par, W_exp, W_ret, W_if, W_snil, W_scons, Then_next, Then_ret, Back_ret, Back_next, Wd_ok, Wd_bad, List.map_cons, List.map_nil, List.replicate_succ, List.replicate_zero, List.cons_append, List.nil_append, List.getElem?_cons_zero, List.getElem?_cons_succ, List.set_cons_zero, List.set_cons_succ, Option.some.injEq, exists_eq_left', List.length_cons, List.length_nil, setAll]
  refine ⟨by decide, X_addT.mpr ⟨(show 7 + 5 ≤ sizeLine by decide), ?_⟩⟩
  have hg2 := in2 rfl hg
  have ho2 := in2 rfl ho
  have da : a ∈ dom 0 := by rcases ha2 with rfl | rfl <;> decide
  have db : b ∈ dom 1 := by rcases hb2 with rfl | rfl <;> decide
  have dp : p ∈ dom 2 := by
    have hp3 := hp
    unfold stopW at hp3
    simp only [List.mem_cons, List.not_mem_nil, or_false] at hp3
    rcases hp3 with rfl | rfl | rfl <;> decide
  have dc : c ∈ dom 5 := by rcases hc2 with rfl | rfl <;> decide
  have de : e ∈ dom 6 := by rcases he2 with rfl | rfl <;> decide
  have dg : g ∈ dom 7 := by rcases hg2 with rfl | rfl <;> decide
  have d9 : (⟨#[97, 104, 101, 97, 100]⟩ : Str) ∈ dom 9 := by decide
  have dO : o ∈ dom 10 := by rcases ho2 with rfl | rfl <;> decide
  have d11 : (⟨#[111, 110, 101]⟩ : Str) ∈ dom 11 := by decide
  have main := k (wOf [a, b, p, x3, x4, c, e, g, s, ⟨#[97, 104, 101, 97, 100]⟩, o, ⟨#[111, 110, 101]⟩]) st1 (wOf_gd rfl fun i x ex => ?_) ?_ h
  · rw [← bk_wOf rfl] at main
    exact main
  · match i, ex with
    | 0, ex => cases ex; exact da
    | 1, ex => cases ex; exact db
    | 2, ex => cases ex; exact dp
    | 3, ex => cases ex; exact (hl7.2 x3 hx3).1
    | 4, ex => cases ex; exact (hl8.2 x4 hx4).1
    | 5, ex => cases ex; exact dc
    | 6, ex => cases ex; exact de
    | 7, ex => cases ex; exact dg
    | 8, ex => cases ex; exact hs8
    | 9, ex => cases ex; exact d9
    | 10, ex => cases ex; exact dO
    | 11, ex => cases ex; exact d11
  · have q1 : eqW ⟨#[111, 110, 101]⟩ "one" = true := by decide
    have q2 : eqW ⟨#[97, 104, 101, 97, 100]⟩ "ahead" = true := by decide
    have q3 : neW g "last" = true := by rcases hg2 with rfl | rfl <;> decide
    have q4 : neW a "none" = true := by rcases ha2 with rfl | rfl <;> decide
    have q5 : neW b "none" = true := by rcases hb2 with rfl | rfl <;> decide
    show andB (eqW ⟨#[111, 110, 101]⟩ "one") (andB (eqW ⟨#[97, 104, 101, 97, 100]⟩ "ahead") (andB (neW g "last") (andB (neW a "none") (andB (neW b "none") (andB (p3 a b c e x3) (andB (pS s p) (p4 a b c e s x4))))))) = true
    rw [q1, q2, q3, q4, q5, (hl7.2 x3 hx3).2, hs, (hl8.2 x4 hx4).2]
    rfl
end K66

set_option Elab.async false
set_option linter.all false
set_option maxRecDepth 100000
set_option maxHeartbeats 4000000
namespace K66
open PL PySem
theorem isNon_of {r : Res D} (h : isNon r = true) : ∃ s, r = .ok .non s := by
  cases r with
  | ok d s => cases d <;> first | exact ⟨s, rfl⟩ | exact absurd h (by simp [isNon])
  | _ => exact absurd h (by simp [isNon])
theorem safe_num {w : Nat → Str} (h : Gd w) (hs : safeB w = true) : ∃ s, PL.run prog cons 8 13 [bk w] [] = .ok .non s := by
  have h1 : impB (safeB w) (isNon (PL.run prog cons 8 13 [bk w] [])) = true := safe_all h
  rw [hs] at h1
  exact isNon_of h1
theorem T_bl {st : Sto} {b : Bool} : truth st (.bl b) = some b := rfl
theorem C_nn {st : Sto} : cmpD .isnn .non .non st = some false := rfl
theorem law_run (ns : List Int) (hn : ns.length ≤ 63) : ∃ st, runC prog cons C 4 15 [scriptD ns] [] = .ok (.bl true) st := by
  have main : Wd (RC 4 15 [scriptD ns] []) (fun d _ => d = .bl true) := by
    refine W_def (fn := f15) rfl rfl rfl ?_
    simp only [f15, List.map_cons, List.map_nil, List.replicate_succ, List.replicate_zero, List.cons_append, List.nil_append]
    refine W_step (I := fun env st => ∃ r f, env = [some (scriptD ns), some (.ref r), none, none, none] ∧ Bag r f 1000000 st) ?_ ?_
    · simp only [W_var, W_cI, W_cB, W_cS, W_cN, W_gcon, W_bin, W_neg, W_notE, W_and1, W_or1, W_and2, W_or2, W_cmp, W_ife, W_tup, W_lst, W_dic, W_call, W_callK, W_blt, W_meth, W_idx, W_sl, W_rev, W_nil, W_cons, W_val, W_vc, W_not, W_tand1, W_tor1, W_tand2, W_tor2, W_yes, W_name, W_tgt, W_tgsub, W_tgnil, W_tgcons, W_asg, W_par, W_exp, W_ret, W_if, W_snil, W_scons, Then_next, Then_ret, Back_ret, Back_next, Wd_ok, Wd_bad, List.map_cons, List.map_nil, List.replicate_succ, List.replicate_zero, List.cons_append, List.nil_append, List.getElem?_cons_zero, List.getElem?_cons_succ, List.set_cons_zero, List.set_cons_succ, Option.some.injEq, exists_eq_left', List.length_cons, List.length_nil, setAll]
      exact bag_spec (n := 2) hn fun r f st' hb => ⟨r, f, rfl, hb⟩
    rintro env st1 ⟨r, f, rfl, hb⟩
    refine W_step (I := fun env st => ∃ e2 e3 e4, env = [some (scriptD ns), some (.ref r), e2, e3, e4] ∧ Bag r f 1000000 st) ?_ ?_
    · simp only [W_var, W_cI, W_cB, W_cS, W_cN, W_gcon, W_bin, W_neg, W_notE, W_and1, W_or1, W_and2, W_or2, W_cmp, W_ife, W_tup, W_lst, W_dic, W_call, W_callK, W_blt, W_meth, W_idx, W_sl, W_rev, W_nil, W_cons, W_val, W_vc, W_not, W_tand1, W_tor1, W_tand2, W_tor2, W_yes, W_name, W_tgt, W_tgsub, W_tgnil, W_tgcons, W_asg, W_par, W_exp, W_ret, W_if, W_snil, W_scons, Then_next, Then_ret, Back_ret, Back_next, Wd_ok, Wd_bad, List.map_cons, List.map_nil, List.replicate_succ, List.replicate_zero, List.cons_append, List.nil_append, List.getElem?_cons_zero, List.getElem?_cons_succ, List.set_cons_zero, List.set_cons_succ, Option.some.injEq, exists_eq_left', List.length_cons, List.length_nil, setAll, W_for]
      refine ⟨.fix (rangeD 0 1 7), rfl, ?_⟩
      refine W_for_fix (fun i env st' => ∃ e2 e3 e4, env = [some (scriptD ns), some (.ref r), e2, e3, e4] ∧ Bag r f 1000000 st') ⟨none, none, none, rfl, hb⟩ ?_ ?_
      · rintro i d env st2 hd ⟨e2, e3, e4, rfl, hb⟩
        obtain ⟨hi, rfl⟩ : i < 7 ∧ d = .int (0 + (i : Int) * 1) := by
          rcases range_get hd with ⟨_, z⟩ | ⟨hi, z⟩
          · cases z
          · cases z; exact ⟨hi, rfl⟩
        generalize ht : (0 + (i : Int) * 1) = t
        simp only [Wd_bind, W_name, List.set_cons_zero, List.set_cons_succ]
        refine W_step (I := fun env st' => ∃ w, Gd w ∧ safeB w = true ∧ env = [some (scriptD ns), some (.ref r), some (.int t), some (bk w), e4] ∧ Bag r f 1000000 st') ?_ ?_
        · simp only [W_var, W_cI, W_cB, W_cS, W_cN, W_gcon, W_bin, W_neg, W_notE, W_and1, W_or1, W_and2, W_or2, W_cmp, W_ife, W_tup, W_lst, W_dic, W_call, W_callK, W_blt, W_meth, W_idx, W_sl, W_rev, W_nil, W_cons, W_val, W_vc, W_not, W_tand1, W_tor1, W_tand2, W_tor2, W_yes, W_name, W_tgt, W_tgsub, W_tgnil, W_tgcons, W_asg, W_par, W_exp, W_ret, W_if, W_snil, W_scons, Then_next, Then_ret, Back_ret, Back_next, Wd_ok, Wd_bad, List.map_cons, List.map_nil, List.replicate_succ, List.replicate_zero, List.cons_append, List.nil_append, List.getElem?_cons_zero, List.getElem?_cons_succ, List.set_cons_zero, List.set_cons_succ, Option.some.injEq, exists_eq_left', List.length_cons, List.length_nil, setAll]
          exact safe_spec (n := 0) hb fun w st' hw hs hb' => ⟨w, hw, hs, rfl, hb'⟩
        rintro env st3 ⟨w, hw, hs, rfl, hb⟩
        obtain ⟨s2, h2⟩ := safe_num hw hs
        refine W_step (I := fun env st' => env = [some (scriptD ns), some (.ref r), some (.int t), some (bk w), e4] ∧ Bag r f 1000000 st') ?_ ?_
        · simp only [W_var, W_cI, W_cB, W_cS, W_cN, W_gcon, W_bin, W_neg, W_notE, W_and1, W_or1, W_and2, W_or2, W_cmp, W_ife, W_tup, W_lst, W_dic, W_call, W_callK, W_blt, W_meth, W_idx, W_sl, W_rev, W_nil, W_cons, W_val, W_vc, W_not, W_tand1, W_tor1, W_tand2, W_tor2, W_yes, W_name, W_tgt, W_tgsub, W_tgnil, W_tgcons, W_asg, W_par, W_exp, W_ret, W_if, W_snil, W_scons, Then_next, Then_ret, Back_ret, Back_next, Wd_ok, Wd_bad, List.map_cons, List.map_nil, List.replicate_succ, List.replicate_zero, List.cons_append, List.nil_append, List.getElem?_cons_zero, List.getElem?_cons_succ, List.set_cons_zero, List.set_cons_succ, Option.some.injEq, exists_eq_left', List.length_cons, List.length_nil, setAll]
          refine W_pure (f := 13) rfl h2 rfl rfl ?_
          refine ⟨_, C_nn, ?_⟩
          rw [if_neg (by decide)]
          refine ⟨_, rfl, ?_⟩
          refine right_spec (n := 1) hw fun st'' hfa2 => ⟨_, T_bl, ?_⟩
          exact ⟨trivial, hfa2.bag hb⟩
        rintro env st3 ⟨rfl, hb⟩
        simp only [W_var, W_cI, W_cB, W_cS, W_cN, W_gcon, W_bin, W_neg, W_notE, W_and1, W_or1, W_and2, W_or2, W_cmp, W_ife, W_tup, W_lst, W_dic, W_call, W_callK, W_blt, W_meth, W_idx, W_sl, W_rev, W_nil, W_cons, W_val, W_vc, W_not, W_tand1, W_tor1, W_tand2, W_tor2, W_yes, W_name, W_tgt, W_tgsub, W_tgnil, W_tgcons, W_asg, W_par, W_exp, W_ret, W_if, W_snil, W_scons, Then_next, Then_ret, Back_ret, Back_next, Wd_ok, Wd_bad, List.map_cons, List.map_nil, List.replicate_succ, List.replicate_zero, List.cons_append, List.nil_append, List.getElem?_cons_zero, List.getElem?_cons_succ, List.set_cons_zero, List.set_cons_succ, Option.some.injEq, exists_eq_left', List.length_cons, List.length_nil, setAll, W_for]
        refine near_spec (n := 1) hw fun q xs st4 hq hg hxl hlq hfa => ?_
        have hbz : Bag r f 1000000 st4 := hfa.bag hb
        refine ⟨.live q, by simp only [srcD, seqD, hq], ?_⟩
        refine W_for_live (ds := xs) (fun j env st' => Fa st4 st' ∧ ∃ e4, env = [some (scriptD ns), some (.ref r), some (.int t), some (bk w), e4]) ⟨Fa.refl, _, rfl⟩ ?_ ?_ ?_
        · rintro j env st' ⟨hz, _⟩; exact hz.2 _ _ hq
        · rintro j d env st' hd ⟨hz, e5, rfl⟩
          obtain ⟨v, hv, rfl⟩ := hg d (List.mem_of_getElem? hd)
          simp only [Wd_bind, W_var, W_cI, W_cB, W_cS, W_cN, W_gcon, W_bin, W_neg, W_notE, W_and1, W_or1, W_and2, W_or2, W_cmp, W_ife, W_tup, W_lst, W_dic, W_call, W_callK, W_blt, W_meth, W_idx, W_sl, W_rev, W_nil, W_cons, W_val, W_vc, W_not, W_tand1, W_tor1, W_tand2, W_tor2, W_yes, W_name, W_tgt, W_tgsub, W_tgnil, W_tgcons, W_asg, W_par, W_exp, W_ret, W_if, W_snil, W_scons, Then_next, Then_ret, Back_ret, Back_next, Wd_ok, Wd_bad, List.map_cons, List.map_nil, List.replicate_succ, List.replicate_zero, List.cons_append, List.nil_append, List.getElem?_cons_zero, List.getElem?_cons_succ, List.set_cons_zero, List.set_cons_succ, Option.some.injEq, exists_eq_left', List.length_cons, List.length_nil, setAll]
          refine right_spec (n := 1) hv fun st'' hfa2 => ⟨_, T_bl, ?_⟩
          rw [if_neg (by decide)]
          exact ⟨hz.trans hfa2, _, rfl⟩
        · rintro env st' ⟨hz, e5, rfl⟩
          exact ⟨_, _, _, rfl, hz.bag hbz⟩
      · rintro env st2 ⟨e2, e3, e4, rfl, hb⟩
        exact ⟨_, _, _, rfl, hb⟩
    rintro env st1 ⟨e2, e3, e4, rfl, hb⟩
    refine W_step (I := fun env st => True) ?_ ?_
    · simp only [W_var, W_cI, W_cB, W_cS, W_cN, W_gcon, W_bin, W_neg, W_notE, W_and1, W_or1, W_and2, W_or2, W_cmp, W_ife, W_tup, W_lst, W_dic, W_call, W_callK, W_blt, W_meth, W_idx, W_sl, W_rev, W_nil, W_cons, W_val, W_vc, W_not, W_tand1, W_tor1, W_tand2, W_tor2, W_yes, W_name, W_tgt, W_tgsub, W_tgnil, W_tgcons, W_asg, W_par, W_exp, W_ret, W_if, W_snil, W_scons, Then_next, Then_ret, Back_ret, Back_next, Wd_ok, Wd_bad, List.map_cons, List.map_nil, List.replicate_succ, List.replicate_zero, List.cons_append, List.nil_append, List.getElem?_cons_zero, List.getElem?_cons_succ, List.set_cons_zero, List.set_cons_succ, Option.some.injEq, exists_eq_left', List.length_cons, List.length_nil, setAll, W_for]
      refine ⟨.fix (rangeD 0 1 60), rfl, ?_⟩
      refine W_for_fix (fun i env st' => ∃ e2 e3 e4, env = [some (scriptD ns), some (.ref r), e2, e3, e4] ∧ Bag r f 1000000 st') ⟨_, _, _, rfl, hb⟩ ?_ ?_
      · rintro i d env st2 hd ⟨e2, e3, e4, rfl, hb⟩
        obtain ⟨hi, rfl⟩ : i < 60 ∧ d = .int (0 + (i : Int) * 1) := by
          rcases range_get hd with ⟨_, z⟩ | ⟨hi, z⟩
          · cases z
          · cases z; exact ⟨hi, rfl⟩
        simp only [Wd_bind, W_var, W_cI, W_cB, W_cS, W_cN, W_gcon, W_bin, W_neg, W_notE, W_and1, W_or1, W_and2, W_or2, W_cmp, W_ife, W_tup, W_lst, W_dic, W_call, W_callK, W_blt, W_meth, W_idx, W_sl, W_rev, W_nil, W_cons, W_val, W_vc, W_not, W_tand1, W_tor1, W_tand2, W_tor2, W_yes, W_name, W_tgt, W_tgsub, W_tgnil, W_tgcons, W_asg, W_par, W_exp, W_ret, W_if, W_snil, W_scons, Then_next, Then_ret, Back_ret, Back_next, Wd_ok, Wd_bad, List.map_cons, List.map_nil, List.replicate_succ, List.replicate_zero, List.cons_append, List.nil_append, List.getElem?_cons_zero, List.getElem?_cons_succ, List.set_cons_zero, List.set_cons_succ, Option.some.injEq, exists_eq_left', List.length_cons, List.length_nil, setAll]
        refine any_spec (n := 0) hb fun w st' hw hb' _ => ⟨_, rfl, ?_⟩
        refine right_spec (n := 1) hw fun st'' hfa2 => ⟨_, T_bl, ?_⟩
        rw [if_neg (by decide)]
        exact ⟨_, _, _, rfl, hfa2.bag hb'⟩
      · rintro env st2 _; trivial
    rintro env st1 _
    simp only [W_var, W_cI, W_cB, W_cS, W_cN, W_gcon, W_bin, W_neg, W_notE, W_and1, W_or1, W_and2, W_or2, W_cmp, W_ife, W_tup, W_lst, W_dic, W_call, W_callK, W_blt, W_meth, W_idx, W_sl, W_rev, W_nil, W_cons, W_val, W_vc, W_not, W_tand1, W_tor1, W_tand2, W_tor2, W_yes, W_name, W_tgt, W_tgsub, W_tgnil, W_tgcons, W_asg, W_par, W_exp, W_ret, W_if, W_snil, W_scons, Then_next, Then_ret, Back_ret, Back_next, Wd_ok, Wd_bad, List.map_cons, List.map_nil, List.replicate_succ, List.replicate_zero, List.cons_append, List.nil_append, List.getElem?_cons_zero, List.getElem?_cons_succ, List.set_cons_zero, List.set_cons_succ, Option.some.injEq, exists_eq_left', List.length_cons, List.length_nil, setAll]
  obtain ⟨a, st, h1, h2⟩ := Wd_ok_of main
  exact ⟨st, by rw [← h2]; exact h1⟩
theorem pures_ok (i : Nat) (c : List D → Sto → Res D) (h : C i = some c) : Pure (PL.run prog cons 8 i) c := by
  unfold C at h
  split at h
  · cases h; exact pureC_pure _
  · cases h
end K66

open PySem PySem.W PySem.Calls PyProof.Rows
theorem PySem.Challenge.cw_keptmarks_k66_whole_numbers_of_books_holds : PySem.Challenge.rw_keptmarks_k66_whole_numbers_of_books.Holds := by
  w_on; o_law
  refine HandSHeadRun.head_any (r := OpenLaw.row PySem.Challenge.rw_keptmarks_k66_whole_numbers_of_books) (q := view (OpenLaw.row PySem.Challenge.rw_keptmarks_k66_whole_numbers_of_books).prog [19]) (H := K66.hk) (ob := K66.ob) (M := 1200) (loose := K66.loose) (d := HandSHeadRun.topDef (OpenLaw.row PySem.Challenge.rw_keptmarks_k66_whole_numbers_of_books).prog 19) (kwd := []) K66.ob_eq
    (by kernel_rfl) (fun s => by kernel_rfl) K66.run_top (by kernel_rfl) (by kernel_rfl) (by kernel_rfl) (by rfl) (by first | assumption | decide +kernel) (by decide +kernel) ⟨rfl, rfl, rfl, rfl, rfl, by decide +kernel⟩ ?hw ?hc
  case hw => w_witness2
  case hc =>
    refine PL.walk_PLC (l := PySem.Challenge.rw_keptmarks_k66_whole_numbers_of_books) (n := 63) (k := 4) (kc := 8) (x := "script") (B := K66.tab) (Pf := K66.prog) (G := K66.cons) (C := K66.C) (i := 15) rfl (by decide) (by kernel_rfl) ⟨rfl, by decide, by decide⟩ (by kernel_rfl) ?F K66.pures_ok K66.law_run
    intro w mg h Y G
    obtain ⟨K, KX, c⟩ := Y
    exact ⟨K, KX, K66.mods KX G c⟩
