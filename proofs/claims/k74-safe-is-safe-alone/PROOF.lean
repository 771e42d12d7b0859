import PyProof.Rows.All
import Wide.All
import OpenK.AllK
import Wide.FinOn
import HandS.ForMost
import HandS.IsInst
import HandS.Deep
import HandS.Flow
import HandS.Style
import HandS.TupAny
import HandS.Zip
import HandS.Walk
import HandS.EndBits
import HandS.Defaults
import HandS.More
import KE.GoesNew
import KE.GoesMore
import HandS.NoneIn
import HandS.Head0
import HandS.Head1
import HandS.Head2
import HandS.HeadEnd
import HandS.HeadHook1
import HandS.HeadHook2
import PySem.Challenge.RW_keptmarks_k74_whole_safe_is_safe_alone
set_option Elab.async false
set_option linter.all false
set_option maxRecDepth 100000
/-! PLA: a small pure language: data, a store of mutable objects, expressions and statements without places, and what they come to. -/
namespace PL
open PySem L2

/-- data: immutable ones whole, mutable ones by their number in the store; rep d is the text repr(d); scr a list that nobody changes -/
inductive D where
  | non | bl (b : Bool) | int (i : Int) | str (x : Str) | tup (xs : List D) | ref (n : Nat) | rep (d : PyData) | scr (xs : List D)
  deriving Inhabited
/-- a mutable object -/
inductive Ob where
  | lst (xs : List D) | dct (kvs : List (Key × D))
  deriving Inhabited
abbrev Sto := List Ob
abbrev Env := List (Option D)

inductive Res (α : Type) where
  | ok (a : α) (st : Sto)
  | exc (c : Nat) (xs : List D) (st : Sto)
  | bad
def Res.bind {α β : Type} (r : Res α) (k : α → Sto → Res β) : Res β := match r with
  | .ok a st => k a st
  | .exc c xs st => .exc c xs st
  | .bad => .bad
@[simp] theorem Res.bind_ok {α β : Type} {a : α} {st : Sto} {k : α → Sto → Res β} : (Res.ok a st).bind k = k a st := rfl
@[simp] theorem Res.bind_exc {α β : Type} {c : Nat} {xs : List D} {st : Sto} {k : α → Sto → Res β} : (Res.exc c xs st : Res α).bind k = .exc c xs st := rfl
@[simp] theorem Res.bind_bad {α β : Type} {k : α → Sto → Res β} : (Res.bad : Res α).bind k = .bad := rfl
/-- a value of the store as it is, or bad -/
def liftO {α : Type} (o : Option α) (st : Sto) : Res α := match o with
  | some a => .ok a st
  | none => .bad
@[simp] theorem liftO_some {α : Type} {a : α} {st : Sto} : liftO (some a) st = .ok a st := rfl
@[simp] theorem liftO_none {α : Type} {st : Sto} : liftO (none : Option α) st = .bad := rfl

/-! ### the syntax -/
inductive Bop where | add | sub | mul | fdiv | md | pow
  deriving DecidableEq
inductive Cop where | eq | ne | lt | le | gt | ge | isn | isnn | isin | notin
  deriving DecidableEq
inductive Ty where | int | bool | str | tup | lst | dct
  deriving DecidableEq
inductive Blt where | len | abs | int | tuple | list | min2 | max2 | repr | strI | isi (t : Ty) | dictP
  deriving DecidableEq
inductive Mt where | append | pop0 | popAt | insert | extend
  deriving DecidableEq
inductive ItK where | plain | range1 | range2 | range3 | enum | zip
  deriving DecidableEq

mutual
inductive E where
  | var (i : Nat)
  | cI (i : Int) | cB (b : Bool) | cS (x : Str) | cN
  | gcon (i : Nat)
  | bin (op : Bop) (a b : E)
  | neg (a : E)
  | notE (a : E)
  | and1 (a : E) | and2 (a r : E) | or1 (a : E) | or2 (a r : E)
  | cmp (op : Cop) (a b : E)
  | cmp2 (op op' : Cop) (a b c : E)
  | ife (c : T) (a b : E)
  | tup (es : Es)
  | lst (es : Es)
  | dic (ks : List Key) (es : Es)
  | call (f : Nat) (es : Es)
  | callK (f : Nat) (es ks : Es) (g : List Nat)
  | blt (b : Blt) (es : Es)
  | meth (m : Mt) (o : E) (es : Es)
  | idx (a b : E)
  | sl (a lo hi : E)
  | rev (a : E)
  | lc (own : List Nat) (elt : E) (t : Tg) (k : ItK) (es : Es) (c : T)
inductive Es where
  | nil | cons (e : E) (es : Es)
inductive T where
  | val (e : E) | vc (op : Cop) (a b : E) | vc2 (op op' : Cop) (a b c : E) | not (t : T) | and1 (a : T) | and2 (a r : T) | or1 (a : T) | or2 (a r : T) | yes
inductive Tg where
  | name (i : Nat) | tup (ts : Tgs) | sub (o i : E)
inductive Tgs where
  | nil | cons (t : Tg) (ts : Tgs)
end
mutual
inductive S where
  | asg (t : Tg) (e : E)
  | asgC (i : Nat) (own : List Nat) (elt : E) (t : Tg) (k : ItK) (es : Es) (c : T)
  | par (is : List Nat) (es : Es)
  | exp (e : E)
  | ret (e : E)
  | retN
  | ite (c : T) (a b : Ss)
  | for_ (t : Tg) (k : ItK) (es : Es) (body : Ss)
  | whl (c : T) (body : Ss)
  | brk | cnt | pass
  | never
inductive Ss where
  | nil | cons (s : S) (ss : Ss)
end
structure Fn where
  np : Nat
  ns : Nat
  body : Ss

/-! ### what operations on data come to -/
def optMap {α β : Type} (f : α → Option β) : List α → Option (List β)
  | [] => some []
  | a :: l => match f a with
    | none => none
    | some b => match optMap f l with
      | none => none
      | some r => some (b :: r)
/-- data as the library's data; mutable objects are looked up -/
def toPy (st : Sto) : Nat → D → Option PyData
  | _, .non => some .none
  | _, .bl b => some (.bool b)
  | _, .int i => some (.int i)
  | _, .str x => some (.str x)
  | n + 1, .tup xs => (optMap (toPy st n) xs).map .tuple
  | n + 1, .scr xs => (optMap (toPy st n) xs).map .list
  | n + 1, .ref r => match st[r]? with
    | some (.lst xs) => (optMap (toPy st n) xs).map .list
    | _ => none
  | _, _ => none
mutual
def same : PyData → PyData → Bool
  | .none, .none => true
  | .bool a, .bool b => a == b
  | .int a, .int b => decide (a = b)
  | .str a, .str b => decide (a = b)
  | .list a, .list b => sameAll a b
  | .tuple a, .tuple b => sameAll a b
  | _, _ => false
def sameAll : List PyData → List PyData → Bool
  | [], [] => true
  | a :: l, b :: r => same a b && sameAll l r
  | _, _ => false
end
/-- an upper bound of the length of repr -/
def showCost : PyData → Nat
  | .none => 4
  | .bool _ => 5
  | .int i => i.natAbs.log2 + 2
  | .str x => 10 * x.length + 2
  | .list xs => costAll xs + 2
  | .tuple xs => costAll xs + 3
  | .dict _ => 100000000
where costAll : List PyData → Nat
  | [] => 0
  | x :: xs => showCost x + 2 + costAll xs
/-- what == comes to: of texts repr(..) it is told where both are the same -/
def eqD (st : Sto) (a b : D) : Option Bool := match a, b with
  | .rep d, .rep e => if same d e then some true else none
  | .rep d, .str x => some (decide (d.shown = x))
  | .str x, .rep d => some (decide (x = d.shown))
  | .int i, .int j => some (decide (i = j))
  | .str x, .str y => some (decide (x = y))
  | .non, .non => some true
  | .non, .int _ => some false
  | .int _, .non => some false
  | .non, .str _ => some false
  | .str _, .non => some false
  | .bl x, .bl y => some (x == y)
  | a, b => match toPy st 60 a, toPy st 60 b with
    | some x, some y => if x.canLay0 && y.canLay0 then some (PyData.eqv x y) else none
    | _, _ => none
def inD (st : Sto) (a b : D) : Option Bool := match toPy st 60 a, toPy st 60 b with
  | some x, some (.list ys) => if x.canLay0 && PyData.canLayAll0 ys then some (ys.any fun y => PyData.eqv y x) else none
  | some x, some (.tuple ys) => if x.canLay0 && PyData.canLayAll0 ys then some (ys.any fun y => PyData.eqv y x) else none
  | _, _ => none
def truth (st : Sto) : D → Option Bool
  | .non => some false
  | .bl b => some b
  | .int i => some (i != 0)
  | .str x => if x.length ≤ sizeLine then some ((x.length : Int) != 0) else none
  | .tup xs => some (!xs.isEmpty)
  | .scr xs => some (!xs.isEmpty)
  | .ref r => match st[r]? with
    | some (.lst xs) => some (!xs.isEmpty)
    | some (.dct kvs) => some (!kvs.isEmpty)
    | none => none
  | .rep _ => none
def small64 (i : Int) : Bool := decide (-(2 ^ 64) < i) && decide (i < 2 ^ 64)
def binD (op : Bop) (a b : D) (st : Sto) : Res D := match op, a, b with
  | .add, .int i, .int j => .ok (.int (i + j)) st
  | .sub, .int i, .int j => .ok (.int (i - j)) st
  | .mul, .int i, .int j => if small64 i || small64 j then .ok (.int (i * j)) st else .bad
  | .fdiv, .int i, .int j => if decide (0 < j) && decide (j < 1073741824) then .ok (.int (i / j)) st else .bad
  | .md, .int i, .int j => if decide (0 < j) then .ok (.int (i % j)) st else .bad
  | .pow, .int i, .int j => if decide (0 ≤ j) && (decide (j ≤ 1000000) && decide (i.natAbs < 2 ^ 64)) then .ok (.int (i ^ j.toNat)) st else .bad
  | .add, .str x, .str y => if x.length + y.length ≤ sizeLine then .ok (.str (x ++ y)) st else .bad
  | .add, .tup xs, .tup ys => if xs.length + ys.length ≤ sizeLine then .ok (.tup (xs ++ ys)) st else .bad
  | .add, .ref m, .ref n => match st[m]?, st[n]? with
    | some (.lst xs), some (.lst ys) => if xs.length + ys.length ≤ sizeLine then .ok (.ref st.length) (st ++ [.lst (xs ++ ys)]) else .bad
    | _, _ => .bad
  | .mul, .ref m, .int k => match st[m]? with
    | some (.lst xs) => if decide (-(2 ^ 63) ≤ k) && (decide (k < 2 ^ 63) && decide (xs.length * k.toNat ≤ sizeLine)) then .ok (.ref st.length) (st ++ [.lst (List.replicate k.toNat xs).flatten]) else .bad
    | _ => .bad
  | _, _, _ => .bad
def cmpD (op : Cop) (a b : D) (st : Sto) : Option Bool := match op, a, b with
  | .eq, a, b => eqD st a b
  | .ne, a, b => (eqD st a b).map (!·)
  | .lt, .int i, .int j => some (decide (i < j))
  | .le, .int i, .int j => some (decide (i ≤ j))
  | .gt, .int i, .int j => some (decide (j < i))
  | .ge, .int i, .int j => some (decide (j ≤ i))
  | .isn, .non, .non => some true
  | .isn, _, .non => some false
  | .isnn, .non, .non => some false
  | .isnn, _, .non => some true
  | .isin, a, b => inD st a b
  | .notin, a, b => (inD st a b).map (!·)
  | _, _, _ => none
def tyD (st : Sto) : D → Option Ty
  | .bl _ => some .bool
  | .int _ => some .int
  | .str _ => some .str
  | .tup _ => some .tup
  | .scr _ => some .lst
  | .ref r => match st[r]? with
    | some (.lst _) => some .lst
    | some (.dct _) => some .dct
    | none => none
  | .rep _ => some .str
  | .non => none
def isiD (st : Sto) (t : Ty) : D → Option Bool
  | .non => some false
  | d => match tyD st d with
    | some u => some (decide (u = t) || (decide (u = .bool) && decide (t = .int)))
    | none => none
/-- the key of a dict -/
def keyD : D → Option Key
  | .int i => some (.inl i)
  | .str x => some (.inr x)
  | _ => none
def getKV (kvs : List (Key × D)) (k : Key) : Option D := (kvs.find? fun kv => decide (kv.1 = k)).map (·.2)
def putKV (kvs : List (Key × D)) (k : Key) (v : D) : List (Key × D) :=
  if (kvs.any fun kv => decide (kv.1 = k)) = true then kvs.map (fun kv => if kv.1 = k then (kv.1, v) else kv) else kvs ++ [(k, v)]
def bltD (b : Blt) (ds : List D) (st : Sto) : Res D := match b, ds with
  | .len, [.tup xs] => .ok (.int xs.length) st
  | .len, [.scr xs] => .ok (.int xs.length) st
  | .len, [.str x] => if x.length ≤ sizeLine then .ok (.int x.length) st else .bad
  | .len, [.ref r] => match st[r]? with
    | some (.lst xs) => .ok (.int xs.length) st
    | _ => .bad
  | .abs, [.int i] => .ok (.int (if i < 0 then -i else i)) st
  | .int, [.int i] => .ok (.int i) st
  | .int, [.bl b] => .ok (.int (if b then 1 else 0)) st
  | .tuple, [.tup xs] => .ok (.tup xs) st
  | .tuple, [.scr xs] => .ok (.tup xs) st
  | .tuple, [.ref r] => match st[r]? with
    | some (.lst xs) => .ok (.tup xs) st
    | _ => .bad
  | .list, [.tup xs] => .ok (.ref st.length) (st ++ [.lst xs])
  | .list, [.scr xs] => .ok (.ref st.length) (st ++ [.lst xs])
  | .list, [.ref r] => match st[r]? with
    | some (.lst xs) => .ok (.ref st.length) (st ++ [.lst xs])
    | _ => .bad
  | .min2, [.int i, .int j] => .ok (.int (if j < i then j else i)) st
  | .max2, [.int i, .int j] => .ok (.int (if j > i then j else i)) st
  | .repr, [d] => match toPy st 60 d with
    | some p => if p.canLay0 && (p.showable && decide (showCost p ≤ sizeLine)) then .ok (.rep p) st else .bad
    | none => .bad
  | .strI, [.int i] => if decide (i.natAbs.log2 < 1920) then .ok (.str (toString i)) st else .bad
  | .isi t, [d] => liftO ((isiD st t d).map .bl) st
  | _, _ => .bad
def idxD (a b : D) (st : Sto) : Res D := match a, b with
  | .tup xs, .int i => liftO (atI xs i) st
  | .scr xs, .int i => liftO (atI xs i) st
  | .str x, .int i => if x.length ≤ sizeLine then liftO ((atI x.cps.toList i).map fun c => .str ⟨#[c]⟩) st else .bad
  | .ref r, k => match st[r]?, k with
    | some (.lst xs), .int i => liftO (atI xs i) st
    | some (.dct kvs), k => match keyD k with
      | some k => liftO (getKV kvs k) st
      | none => .bad
    | _, _ => .bad
  | _, _ => .bad
def cutD {α : Type} (xs : List α) (lo hi : Option Int) : List α := (xs.drop (HT.sIx xs.length 0 lo)).take (HT.sIx xs.length xs.length hi - HT.sIx xs.length 0 lo)
def partD : D → Option (Option Int)
  | .non => some none
  | .int i => some (some i)
  | _ => none
def slD (a lo hi : D) (st : Sto) : Res D := match partD lo, partD hi, a with
  | some l, some h, .tup xs => .ok (.tup (cutD xs l h)) st
  | some l, some h, .scr xs => .ok (.ref st.length) (st ++ [.lst (cutD xs l h)])
  | some l, some h, .str x => if x.length ≤ sizeLine then .ok (.str ⟨(cutD x.cps.toList l h).toArray⟩) st else .bad
  | some l, some h, .ref r => match st[r]? with
    | some (.lst xs) => .ok (.ref st.length) (st ++ [.lst (cutD xs l h)])
    | _ => .bad
  | _, _, _ => .bad
def revD (a : D) (st : Sto) : Res D := match a with
  | .scr xs => .ok (.ref st.length) (st ++ [.lst xs.reverse])
  | .ref r => match st[r]? with
    | some (.lst xs) => .ok (.ref st.length) (st ++ [.lst xs.reverse])
    | _ => .bad
  | _ => .bad
def setD (a i v : D) (st : Sto) : Option Sto := match a with
  | .ref r => match st[r]?, i with
    | some (.lst xs), .int k => (ixN xs.length k).map fun j => st.set r (.lst (xs.set j v))
    | some (.dct kvs), k => match keyD k with
      | some k => if kvs.length < sizeLine then some (st.set r (.dct (putKV kvs k v))) else none
      | none => none
    | _, _ => none
  | _ => none
def methD (m : Mt) (o : D) (ds : List D) (st : Sto) : Res D := match o with
  | .ref r => match st[r]? with
    | some (.lst xs) => match m, ds with
      | .append, [d] => if xs.length < sizeLine then .ok .non (st.set r (.lst (xs ++ [d]))) else .bad
      | .pop0, [] => match xs[xs.length - 1]? with
        | some d => .ok d (st.set r (.lst xs.dropLast))
        | none => .bad
      | .popAt, [.int i] => if decide (-(2 ^ 63) ≤ i) && decide (i < 2 ^ 63) then
          match seqIndex? i xs.length with
          | some k => match xs[k]? with
            | some d => .ok d (st.set r (.lst (xs.eraseIdx k)))
            | none => .bad
          | none => .bad
        else .bad
      | .insert, [.int i, d] => if decide (xs.length < sizeLine) && (decide (0 ≤ i) && decide (i < 2 ^ 63)) then .ok .non (st.set r (.lst (xs.take i.toNat ++ [d] ++ xs.drop i.toNat))) else .bad
      | .extend, [.ref q] => match st[q]? with
        | some (.lst ys) => if xs.length + ys.length ≤ sizeLine then .ok .non (st.set r (.lst (xs ++ ys))) else .bad
        | _ => .bad
      | _, _ => .bad
    | _ => .bad
  | _ => .bad

def isLst (d : D) (st : Sto) : Bool := match d with
  | .ref r => match st[r]? with
    | some (.lst _) => true
    | _ => false
  | _ => false

/-! ### what is walked -/
inductive Src where
  | fix (ds : List D)
  | live (n : Nat)
  | enum (s : Src)
  | zip (s t : Src)
def rangeD (lo c : Int) (n : Nat) : List D := (List.range n).map fun (i : Nat) => D.int (lo + (i : Int) * c)
def signsD (x : Str) : List D := x.cps.toList.map fun c => D.str ⟨#[c]⟩
def seqD (d : D) (st : Sto) : Option Src := match d with
  | .tup xs => some (.fix xs)
  | .scr xs => some (.fix xs)
  | .ref r => match st[r]? with
    | some (.lst _) => some (.live r)
    | _ => none
  | _ => none
def big62 (i : Int) : Bool := decide (-(2 ^ 62) ≤ i) && decide (i < 2 ^ 62)
def srcD (k : ItK) (ds : List D) (st : Sto) : Option Src := match k, ds with
  | .plain, [.str x] => some (.fix (signsD x))
  | .plain, [d] => seqD d st
  | .range1, [.int n] => if big62 n then some (.fix (rangeD 0 1 n.toNat)) else none
  | .range2, [.int a, .int b] => if big62 a && big62 b then some (.fix (rangeD a 1 (b - a).toNat)) else none
  | .range3, [.int a, .int b, .int c] => if (big62 a && big62 b) && decide (c = -1) then some (.fix (rangeD a (-1) (a - b).toNat)) else none
  | .enum, [d] => (seqD d st).map .enum
  | .zip, [d, e] => match seqD d st, seqD e st with
    | some s, some t => some (.zip s t)
    | _, _ => none
  | _, _ => none
/-- the item of a turn; some none: there is none any more -/
def Src.at : Src → Sto → Nat → Option (Option D)
  | .fix ds, _, i => if i ≤ ds.length then some ds[i]? else none
  | .live n, st, i => match st[n]? with
    | some (.lst xs) => if i ≤ xs.length then some xs[i]? else none
    | _ => none
  | .enum s, st, i => match s.at st i with
    | some (some x) => some (some (.tup [.int (i : Int), x]))
    | some none => some none
    | none => none
  | .zip s t, st, i => match s.at st i, t.at st i with
    | some (some x), some (some y) => some (some (.tup [x, y]))
    | some _, some _ => some none
    | _, _ => none
def Src.len : Src → Sto → Nat
  | .fix ds, _ => ds.length
  | .live n, st => match st[n]? with
    | some (.lst xs) => xs.length
    | _ => 0
  | .enum s, st => s.len st
  | .zip s t, st => min (s.len st) (t.len st)

/-- what a statement comes to -/
inductive Out where
  | next (env : Env) | brk (env : Env) | cnt (env : Env) | ret (d : D)
/-- the turns of a comprehension -/
def lcLoop (s : Src) (step : D → Sto → Res (Option D)) : Nat → Nat → List D → Sto → Res D
  | 0, _, _, _ => .bad
  | n + 1, i, acc, st => match s.at st i with
    | none => .bad
    | some none => .ok (.ref st.length) (st ++ [.lst acc])
    | some (some d) => (step d st).bind fun o st1 => match o with
      | none => lcLoop s step n (i + 1) acc st1
      | some y => if acc.length < sizeLine then lcLoop s step n (i + 1) (acc ++ [y]) st1 else .bad
/-- the turns of a for -/
def forLoop (s : Src) (step : D → Env → Sto → Res Out) : Nat → Nat → Env → Sto → Res Out
  | 0, _, _, _ => .bad
  | n + 1, i, env, st => match s.at st i with
    | none => .bad
    | some none => .ok (.next env) st
    | some (some d) => (step d env st).bind fun o st1 => match o with
      | .next env1 => forLoop s step n (i + 1) env1 st1
      | .cnt env1 => forLoop s step n (i + 1) env1 st1
      | .brk env1 => .ok (.next env1) st1
      | .ret d => .ok (.ret d) st1
/-- the turns of a while, so many at most -/
def whlLoop (test : Env → Sto → Res Bool) (step : Env → Sto → Res Out) : Nat → Env → Sto → Res Out
  | 0, _, _ => .bad
  | n + 1, env, st => (test env st).bind fun b st1 => if b then (step env st1).bind fun o st2 => match o with
      | .next env1 => whlLoop test step n env1 st2
      | .cnt env1 => whlLoop test step n env1 st2
      | .brk env1 => .ok (.next env1) st2
      | .ret d => .ok (.ret d) st2
    else .ok (.next env) st1
/-- the parts of what is taken apart -/
def partsOf (d : D) (st : Sto) : Option (List D) := match d with
  | .tup ds => some ds
  | .scr ds => some ds
  | .ref r => match st[r]? with
    | some (.lst ds) => some ds
    | _ => none
  | _ => none
def setAll (env : Env) : List Nat → List D → Env
  | i :: is, d :: ds => setAll (env.set i (some d)) is ds
  | _, _ => env
def wipeE (env : Env) : List Nat → Env
  | [] => env
  | v :: vs => (wipeE env vs).set v none

/-! ### what expressions and statements come to -/
section
variable (F : Nat → List D → Sto → Res D) (G : List D)
mutual
def ev : E → Env → Sto → Res D
  | .var i, env, st => match env[i]? with
    | some (some d) => .ok d st
    | _ => .bad
  | .cI i, _, st => .ok (.int i) st
  | .cB b, _, st => .ok (.bl b) st
  | .cS x, _, st => .ok (.str x) st
  | .cN, _, st => .ok .non st
  | .gcon i, _, st => liftO G[i]? st
  | .bin op a b, env, st => (ev a env st).bind fun x st1 => (ev b env st1).bind fun y st2 => binD op x y st2
  | .neg a, env, st => (ev a env st).bind fun x st1 => match x with
    | .int i => .ok (.int (-i)) st1
    | _ => .bad
  | .notE a, env, st => (ev a env st).bind fun x st1 => liftO ((truth st1 x).map fun b => .bl (!b)) st1
  | .and1 a, env, st => ev a env st
  | .and2 a r, env, st => (ev a env st).bind fun x st1 => match truth st1 x with
    | some true => ev r env st1
    | some false => .ok x st1
    | none => .bad
  | .or1 a, env, st => ev a env st
  | .or2 a r, env, st => (ev a env st).bind fun x st1 => match truth st1 x with
    | some true => .ok x st1
    | some false => ev r env st1
    | none => .bad
  | .cmp op a b, env, st => (ev a env st).bind fun x st1 => (ev b env st1).bind fun y st2 => liftO ((cmpD op x y st2).map .bl) st2
  | .cmp2 op op' a b c, env, st => (ev a env st).bind fun x st1 => (ev b env st1).bind fun y st2 => match cmpD op x y st2 with
    | some true => (ev c env st2).bind fun z st3 => liftO ((cmpD op' y z st3).map .bl) st3
    | some false => .ok (.bl false) st2
    | none => .bad
  | .ife c a b, env, st => (evT c env st).bind fun k st1 => if k then ev a env st1 else ev b env st1
  | .tup es, env, st => (evs es env st).bind fun ds st1 => if ds.length ≤ sizeLine then .ok (.tup ds) st1 else .bad
  | .lst es, env, st => (evs es env st).bind fun ds st1 => if ds.length ≤ sizeLine then .ok (.ref st1.length) (st1 ++ [.lst ds]) else .bad
  | .dic ks es, env, st => (evs es env st).bind fun ds st1 => if ks.length = ds.length ∧ ks.length ≤ 15 then
      .ok (.ref st1.length) (st1 ++ [.dct ((ks.zip ds).foldl (fun acc kv => putKV acc kv.1 kv.2) [])]) else .bad
  | .call f es, env, st => (evs es env st).bind fun ds st1 => F f ds st1
  | .callK f es ks g, env, st => (evs es env st).bind fun ds st1 => (evs ks env st1).bind fun zs st2 => F f (g.map fun j => (ds ++ zs).getD j .non) st2
  | .blt b es, env, st => (evs es env st).bind fun ds st1 => bltD b ds st1
  | .meth m o es, env, st => (ev o env st).bind fun x st1 => if isLst x st1 = true then (evs es env st1).bind fun ds st2 => methD m x ds st2 else .bad
  | .idx a b, env, st => (ev a env st).bind fun x st1 => (ev b env st1).bind fun y st2 => idxD x y st2
  | .sl a lo hi, env, st => (ev a env st).bind fun x st1 => (ev lo env st1).bind fun l st2 => (ev hi env st2).bind fun h st3 => slD x l h st3
  | .rev a, env, st => (ev a env st).bind fun x st1 => revD x st1
  | .lc own elt t k es c, env, st => (evs es env st).bind fun ds st1 => match srcD k ds st1 with
    | none => .bad
    | some s => lcLoop s (fun d st2 => (asg t d (wipeE env own) st2).bind fun env1 st3 => (evT c env1 st3).bind fun b st4 =>
        if b then (ev elt env1 st4).bind fun y st5 => .ok (some y) st5 else .ok none st4) (s.len st1 + 1) 0 [] st1
def evs : Es → Env → Sto → Res (List D)
  | .nil, _, st => .ok [] st
  | .cons e es, env, st => (ev e env st).bind fun d st1 => (evs es env st1).bind fun ds st2 => .ok (d :: ds) st2
def evT : T → Env → Sto → Res Bool
  | .val e, env, st => (ev e env st).bind fun x st1 => liftO (truth st1 x) st1
  | .vc op a b, env, st => (ev a env st).bind fun x st1 => (ev b env st1).bind fun y st2 => liftO (cmpD op x y st2) st2
  | .vc2 op op' a b c, env, st => (ev a env st).bind fun x st1 => (ev b env st1).bind fun y st2 => match cmpD op x y st2 with
    | some true => (ev c env st2).bind fun z st3 => liftO (cmpD op' y z st3) st3
    | some false => .ok false st2
    | none => .bad
  | .not t, env, st => (evT t env st).bind fun b st1 => .ok (!b) st1
  | .and1 a, env, st => evT a env st
  | .and2 a r, env, st => (evT a env st).bind fun b st1 => if b then evT r env st1 else .ok false st1
  | .or1 a, env, st => evT a env st
  | .or2 a r, env, st => (evT a env st).bind fun b st1 => if b then .ok true st1 else evT r env st1
  | .yes, _, st => .ok true st
def asg : Tg → D → Env → Sto → Res Env
  | .name i, d, env, st => .ok (env.set i (some d)) st
  | .tup ts, d, env, st => match partsOf d st with
    | some ds => asgs ts ds env st
    | none => .bad
  | .sub o i, d, env, st => (ev o env st).bind fun x st1 => (ev i env st1).bind fun y st2 => match setD x y d st2 with
    | some st3 => .ok env st3
    | none => .bad
def asgs : Tgs → List D → Env → Sto → Res Env
  | .nil, [], env, st => .ok env st
  | .cons t ts, d :: ds, env, st => (asg t d env st).bind fun env1 st1 => asgs ts ds env1 st1
  | _, _, _, _ => .bad
end
/-- how many turns a while may take -/
def whileMost : Nat := 100000
mutual
def ex : S → Env → Sto → Res Out
  | .asg t e, env, st => (ev F G e env st).bind fun d st1 => (asg F G t d env st1).bind fun env1 st2 => .ok (.next env1) st2
  | .asgC i own elt t k es c, env, st => (ev F G (.lc own elt t k es c) env st).bind fun d st1 => .ok (.next (env.set i (some d))) st1
  | .par is es, env, st => (evs F G es env st).bind fun ds st1 => if ds.length = is.length then .ok (.next (setAll env is ds)) st1 else .bad
  | .exp e, env, st => (ev F G e env st).bind fun _ st1 => .ok (.next env) st1
  | .ret e, env, st => (ev F G e env st).bind fun d st1 => .ok (.ret d) st1
  | .retN, _, st => .ok (.ret .non) st
  | .ite c a b, env, st => (evT F G c env st).bind fun k st1 => if k then exs a env st1 else exs b env st1
  | .for_ t k es body, env, st => (evs F G es env st).bind fun ds st1 => match srcD k ds st1 with
    | none => .bad
    | some s => forLoop s (fun d env st => (asg F G t d env st).bind fun env1 st1 => exs body env1 st1) (s.len st1 + 1) 0 env st1
  | .whl c body, env, st => whlLoop (evT F G c) (exs body) whileMost env st
  | .brk, env, st => .ok (.brk env) st
  | .cnt, env, st => .ok (.cnt env) st
  | .pass, env, st => .ok (.next env) st
  | .never, _, _ => .bad
def exs : Ss → Env → Sto → Res Out
  | .nil, env, st => .ok (.next env) st
  | .cons s ss, env, st => (ex s env st).bind fun o st1 => match o with
    | .next env1 => exs ss env1 st1
    | .brk env1 => .ok (.brk env1) st1
    | .cnt env1 => .ok (.cnt env1) st1
    | .ret d => .ok (.ret d) st1
end
end
/-- a def called, at a depth -/
def run (P : List Fn) (G : List D) : Nat → Nat → List D → Sto → Res D
  | 0, _, _, _ => .bad
  | n + 1, f, ds, st => match P[f]? with
    | none => .bad
    | some fn => if ds.length = fn.np then
        (exs (run P G n) G fn.body (ds.map some ++ List.replicate (fn.ns - fn.np) none) st).bind fun o st1 => match o with
          | .ret d => .ok d st1
          | .next _ => .ok .non st1
          | _ => .bad
      else .bad
end PL

set_option Elab.async false
set_option linter.all false
set_option maxRecDepth 100000
/-! PLB: how data and stores stand in the layer's heap. -/
namespace PL
open PySem PySem.Spec PyProof.Rows L2

/-- a list that nobody changes -/
def SqS (K : PySem.W.Frag) (H : Hp) (a : Addr) (vs : List V) : Prop := (∃ o, H a = some (.frz o (.lst vs))) ∨ ∃ o, K.lookup a = some o ∧ SqL K (fun _ => none) a vs
theorem SqS.l {K : PySem.W.Frag} {H : Hp} {a : Addr} {vs : List V} (h : SqS K H a vs) : SqL K H a vs := by
  rcases h with ⟨o, h⟩ | ⟨o, _, h⟩
  · exact .inl (.inr ⟨o, h⟩)
  · rcases h with (z | ⟨_, z⟩) | z
    · cases z
    · cases z
    · exact .inr z
section
variable (K : PySem.W.Frag) (as : List Addr) (H : Hp)
mutual
def RV : D → V → Prop
  | .non, v => v = .non
  | .bl b, v => v = .bl b
  | .int i, v => v = .int i
  | .str x, v => v = .str x
  | .tup ds, v => ∃ a vs, v = .ref a ∧ SqT K H a vs ∧ RVs ds vs
  | .ref n, v => ∃ a, v = .ref a ∧ as[n]? = some a
  | .rep d, v => v = .str d.shown
  | .scr ds, v => ∃ a vs, v = .ref a ∧ SqS K H a vs ∧ RVs ds vs
def RVs : List D → List V → Prop
  | [], vs => vs = []
  | d :: ds, vs => ∃ v vs', vs = v :: vs' ∧ RV d v ∧ RVs ds vs'
end
def RKV : List (Key × D) → List (Key × V) → Prop
  | [], vs => vs = []
  | kd :: r, vs => ∃ v vs', vs = (kd.1, v) :: vs' ∧ RV K as H kd.2 v ∧ RKV r vs'
def RO : Ob → Addr → Prop
  | .lst ds, a => ∃ vs, H a = some (.lst vs) ∧ RVs K as H ds vs
  | .dct kvs, a => ∃ vs, H a = some (.dK vs) ∧ RKV K as H kvs vs
end
def Ob.mt : Ob → Bool := fun _ => true

structure Rel (K : PySem.W.Frag) (as : List Addr) (st : Sto) (H : Hp) : Prop where
  len : as.length = st.length
  at_ : ∀ (i : Nat) (o : Ob) (a : Addr), st[i]? = some o → as[i]? = some a → RO K as H o a
  inj : ∀ (i j : Nat) (a : Addr) (o o' : Ob), st[i]? = some o → st[j]? = some o' → o.mt = true → o'.mt = true → as[i]? = some a → as[j]? = some a → i = j
/-- what behind keeps of ahead -/
structure Ext (K : PySem.W.Frag) (as : List Addr) (H : Hp) (as' : List Addr) (H' : Hp) : Prop where
  app : ∃ l, as' = as ++ l ∧ ∀ a ∈ l, H a = none ∨ a ∈ as
  frm : ∀ (a : Addr) (o : HO), a ∉ as → H a = some o → H' a = some o
  tup : ∀ (a : Addr) (vs : List V), SqT K H a vs → SqT K H' a vs
  frz : ∀ (a : Addr) (o : Obj) (u : HO), H a = some (.frz o u) → H' a = some (.frz o u)
def REnv (K : PySem.W.Frag) (as : List Addr) (H : Hp) (env : Env) (σ : L2.St) : Prop :=
  env.length = σ.length ∧ ∀ (i : Nat) (d : D), env[i]? = some (some d) → ∃ v, σ[i]? = some (some v) ∧ RV K as H d v

section
variable {K : PySem.W.Frag} {as as' as1 as2 : List Addr} {H H' H1 H2 : Hp} {st st' : Sto}
theorem Ext.refl : Ext K as H as H := ⟨⟨[], by simp, by simp⟩, fun _ _ _ h => h, fun _ _ h => h, fun _ _ _ h => h⟩
theorem Ext.trans (e : Ext K as H as1 H1) (e' : Ext K as1 H1 as2 H2) : Ext K as H as2 H2 := by
  obtain ⟨l, rfl, hl⟩ := e.app
  obtain ⟨l', rfl, hl'⟩ := e'.app
  refine ⟨⟨l ++ l', by simp, fun a ha => ?_⟩, fun a o hn h => ?_, fun a vs h => e'.tup a vs (e.tup a vs h), fun a o u h => e'.frz a o u (e.frz a o u h)⟩
  · rcases List.mem_append.mp ha with h | h
    · exact hl a h
    · by_cases hm : a ∈ as
      · exact .inr hm
      · rcases hl' a h with q | q
        · cases z : H a with
          | none => exact .inl rfl
          | some o => rw [e.frm a o hm z] at q; cases q
        · rcases List.mem_append.mp q with q | q
          · exact absurd q hm
          · exact hl a q
  · have hn1 : a ∉ as ++ l := fun hm => by
      rcases List.mem_append.mp hm with z | z
      · exact hn z
      · rcases hl a z with q | q
        · rw [q] at h; cases h
        · exact hn q
    exact e'.frm a o hn1 (e.frm a o hn h)
theorem Ext.at_ (e : Ext K as H as' H') {i : Nat} {a : Addr} (h : as[i]? = some a) : as'[i]? = some a := by
  obtain ⟨l, rfl, _⟩ := e.app
  obtain ⟨hi, _⟩ := List.getElem?_eq_some_iff.mp h
  rw [List.getElem?_append_left hi]; exact h
/-- an address that is tracked, and none of the store's, is none of the store's behind -/
theorem Ext.out (e : Ext K as H as' H') {a : Addr} {o : HO} (h : H a = some o) (hn : a ∉ as) : a ∉ as' := by
  obtain ⟨l, rfl, hl⟩ := e.app
  intro hm
  rcases List.mem_append.mp hm with z | z
  · exact hn z
  · rcases hl a z with q | q
    · rw [q] at h; cases h
    · exact hn q
/-- what data need: the store's addresses stay, and the tuples -/
structure Wk (K : PySem.W.Frag) (as : List Addr) (H : Hp) (as' : List Addr) (H' : Hp) : Prop where
  at_ : ∀ (i : Nat) (a : Addr), as[i]? = some a → as'[i]? = some a
  tup : ∀ (a : Addr) (vs : List V), SqT K H a vs → SqT K H' a vs
  frz : ∀ (a : Addr) (o : Obj) (u : HO), H a = some (.frz o u) → H' a = some (.frz o u)
theorem SqS.mono (e : Wk K as H as' H') {a : Addr} {vs : List V} (h : SqS K H a vs) : SqS K H' a vs := by
  rcases h with ⟨o, h⟩ | h
  · exact .inl ⟨o, e.frz _ _ _ h⟩
  · exact .inr h
theorem Ext.wk (e : Ext K as H as' H') : Wk K as H as' H' := ⟨fun _ _ h => e.at_ h, e.tup, e.frz⟩
mutual
theorem RV.monoW (e : Wk K as H as' H') : ∀ (d : D) (v : V), RV K as H d v → RV K as' H' d v
  | .non, _, h => h
  | .bl _, _, h => h
  | .int _, _, h => h
  | .str _, _, h => h
  | .rep _, _, h => h
  | .tup ds, _, h => by
    obtain ⟨a, vs, rfl, ht, hs⟩ := h
    exact ⟨a, vs, rfl, e.tup a vs ht, RVs.monoW e ds vs hs⟩
  | .scr ds, _, h => by
    obtain ⟨a, vs, rfl, ht, hs⟩ := h
    exact ⟨a, vs, rfl, ht.mono e, RVs.monoW e ds vs hs⟩
  | .ref n, _, h => by
    obtain ⟨a, rfl, ha⟩ := h
    exact ⟨a, rfl, e.at_ _ _ ha⟩
theorem RVs.monoW (e : Wk K as H as' H') : ∀ (ds : List D) (vs : List V), RVs K as H ds vs → RVs K as' H' ds vs
  | [], _, h => h
  | d :: ds, _, h => by
    obtain ⟨v, vs', rfl, h1, h2⟩ := h
    exact ⟨v, vs', rfl, RV.monoW e d v h1, RVs.monoW e ds vs' h2⟩
end
theorem RV.mono (e : Ext K as H as' H') (d : D) (v : V) (h : RV K as H d v) : RV K as' H' d v := RV.monoW e.wk d v h
theorem RVs.mono (e : Ext K as H as' H') (ds : List D) (vs : List V) (h : RVs K as H ds vs) : RVs K as' H' ds vs := RVs.monoW e.wk ds vs h
theorem RKV.monoW (e : Wk K as H as' H') : ∀ (kvs : List (Key × D)) (vs : List (Key × V)), RKV K as H kvs vs → RKV K as' H' kvs vs
  | [], _, h => h
  | d :: ds, _, h => by
    obtain ⟨v, vs', rfl, h1, h2⟩ := h
    exact ⟨v, vs', rfl, RV.monoW e _ v h1, RKV.monoW e ds vs' h2⟩
theorem RKV.mono (e : Ext K as H as' H') (kvs : List (Key × D)) (vs : List (Key × V)) (h : RKV K as H kvs vs) : RKV K as' H' kvs vs := RKV.monoW e.wk kvs vs h
theorem REnv.monoW {env : Env} {σ : L2.St} (r : REnv K as H env σ) (e : Wk K as H as' H') : REnv K as' H' env σ :=
  ⟨r.1, fun i d h => let ⟨v, h1, h2⟩ := r.2 i d h; ⟨v, h1, RV.monoW e d v h2⟩⟩
theorem REnv.mono {env : Env} {σ : L2.St} (r : REnv K as H env σ) (e : Ext K as H as' H') : REnv K as' H' env σ :=
  ⟨r.1, fun i d h => let ⟨v, h1, h2⟩ := r.2 i d h; ⟨v, h1, RV.mono e d v h2⟩⟩
theorem REnv.set {env : Env} {σ : L2.St} (r : REnv K as H env σ) {d : D} {v : V} (rv : RV K as H d v) (i : Nat) : REnv K as H (env.set i (some d)) (σ.set i (some v)) := by
  refine ⟨by rw [List.length_set, List.length_set]; exact r.1, fun j d' h => ?_⟩
  by_cases hj : i = j
  · subst hj
    by_cases hi : i < env.length
    · rw [List.getElem?_set_self hi] at h
      cases h
      exact ⟨v, by rw [List.getElem?_set_self (by rw [← r.1]; exact hi)], rv⟩
    · rw [List.getElem?_eq_none (by simpa using hi)] at h; cases h
  · rw [List.getElem?_set_ne hj] at h
    obtain ⟨w, h1, h2⟩ := r.2 j d' h
    exact ⟨w, by rw [List.getElem?_set_ne hj]; exact h1, h2⟩
theorem wipeE_length (env : Env) : ∀ vs, (wipeE env vs).length = env.length
  | [] => rfl
  | v :: vs => by unfold wipeE; rw [List.length_set, wipeE_length env vs]
theorem REnv.wipe {env : Env} {σ : L2.St} (r : REnv K as H env σ) : ∀ vs, REnv K as H (wipeE env vs) (wipe σ vs)
  | [] => r
  | v :: vs => by
    have ih := REnv.wipe r vs
    refine ⟨by unfold wipeE L2.wipe; rw [List.length_set, List.length_set]; exact ih.1, fun j d h => ?_⟩
    unfold wipeE at h
    unfold L2.wipe
    by_cases hj : v = j
    · subst hj
      by_cases hi : v < (wipeE env vs).length
      · rw [List.getElem?_set_self hi] at h; cases h
      · rw [List.getElem?_eq_none (by simpa using hi)] at h; cases h
    · rw [List.getElem?_set_ne hj] at h ⊢
      exact ih.2 j d h
theorem RVs.length : ∀ {ds : List D} {vs : List V}, RVs K as H ds vs → ds.length = vs.length
  | [], _, h => by have h : _ = [] := h; subst h; rfl
  | d :: ds, _, h => by
    obtain ⟨v, vs', rfl, _, h2⟩ := h
    rw [List.length_cons, List.length_cons, RVs.length h2]
theorem RVs.get : ∀ {ds : List D} {vs : List V} {i : Nat} {d : D}, RVs K as H ds vs → ds[i]? = some d → ∃ v, vs[i]? = some v ∧ RV K as H d v
  | [], _, _, _, _, e => by simp at e
  | x :: ds, _, 0, d, h, e => by
    obtain ⟨v, vs', rfl, h1, _⟩ := h
    cases e
    exact ⟨v, rfl, h1⟩
  | x :: ds, _, i + 1, d, h, e => by
    obtain ⟨v, vs', rfl, _, h2⟩ := h
    exact RVs.get (i := i) h2 (by simpa using e)
theorem RVs.none_of {ds : List D} {vs : List V} {i : Nat} (h : RVs K as H ds vs) (e : ds[i]? = none) : vs[i]? = none := by
  have := h.length
  rw [List.getElem?_eq_none_iff] at e ⊢
  omega
theorem RVs.append : ∀ {ds : List D} {vs : List V} {es : List D} {us : List V}, RVs K as H ds vs → RVs K as H es us → RVs K as H (ds ++ es) (vs ++ us)
  | [], _, _, _, h, h' => by have h : _ = [] := h; subst h; exact h'
  | d :: ds, _, _, _, h, h' => by
    obtain ⟨v, vs', rfl, h1, h2⟩ := h
    exact ⟨v, _, rfl, h1, RVs.append h2 h'⟩
theorem RVs.take : ∀ {ds : List D} {vs : List V} (n : Nat), RVs K as H ds vs → RVs K as H (ds.take n) (vs.take n)
  | _, _, 0, _ => rfl
  | [], _, n + 1, h => by have h : _ = [] := h; subst h; rfl
  | d :: ds, _, n + 1, h => by
    obtain ⟨v, vs', rfl, h1, h2⟩ := h
    exact ⟨v, _, rfl, h1, RVs.take n h2⟩
theorem RVs.drop : ∀ {ds : List D} {vs : List V} (n : Nat), RVs K as H ds vs → RVs K as H (ds.drop n) (vs.drop n)
  | _, _, 0, h => h
  | [], _, n + 1, h => by have h : _ = [] := h; subst h; rfl
  | d :: ds, _, n + 1, h => by
    obtain ⟨v, vs', rfl, h1, h2⟩ := h
    exact RVs.drop n h2
theorem RVs.set : ∀ {ds : List D} {vs : List V} {d : D} {v : V} (i : Nat), RVs K as H ds vs → RV K as H d v → RVs K as H (ds.set i d) (vs.set i v)
  | [], _, _, _, _, h, _ => by have h : _ = [] := h; subst h; rfl
  | _ :: ds, _, _, _, 0, h, r => by
    obtain ⟨v, vs', rfl, h1, h2⟩ := h
    exact ⟨_, _, rfl, r, h2⟩
  | _ :: ds, _, _, _, i + 1, h, r => by
    obtain ⟨v, vs', rfl, h1, h2⟩ := h
    exact ⟨_, _, rfl, h1, RVs.set i h2 r⟩
theorem RVs.eraseIdx {ds : List D} {vs : List V} (i : Nat) (h : RVs K as H ds vs) : RVs K as H (ds.eraseIdx i) (vs.eraseIdx i) := by
  rw [List.eraseIdx_eq_take_drop_succ, List.eraseIdx_eq_take_drop_succ]
  exact (h.take i).append (h.drop (i + 1))
theorem RVs.dropLast {ds : List D} {vs : List V} (h : RVs K as H ds vs) : RVs K as H ds.dropLast vs.dropLast := by
  rw [List.dropLast_eq_take, List.dropLast_eq_take, h.length]
  exact h.take _
theorem RVs.one {d : D} {v : V} (r : RV K as H d v) : RVs K as H [d] [v] := ⟨v, [], rfl, r, rfl⟩
theorem RVs.two {d e : D} {v u : V} (r : RV K as H d v) (r' : RV K as H e u) : RVs K as H [d, e] [v, u] := ⟨v, [u], rfl, r, RVs.one r'⟩
theorem RVs.reverse : ∀ {ds : List D} {vs : List V}, RVs K as H ds vs → RVs K as H ds.reverse vs.reverse
  | [], _, h => by have h : _ = [] := h; subst h; rfl
  | d :: ds, _, h => by
    obtain ⟨v, vs', rfl, h1, h2⟩ := h
    rw [List.reverse_cons, List.reverse_cons]
    exact (RVs.reverse h2).append (RVs.one h1)
theorem RVs.rep {ds : List D} {vs : List V} (h : RVs K as H ds vs) : ∀ k : Nat, RVs K as H (List.replicate k ds).flatten (List.replicate k vs).flatten
  | 0 => rfl
  | k + 1 => by
    rw [List.replicate_succ, List.replicate_succ, List.flatten_cons, List.flatten_cons]
    exact h.append (RVs.rep h k)
theorem RVs.isEmpty {ds : List D} {vs : List V} (h : RVs K as H ds vs) : ds.isEmpty = vs.isEmpty := by
  have := h.length
  cases ds <;> cases vs <;> simp_all

/-! ### new objects, objects changed -/
theorem sqT_upd {p : Addr} {ho : HO} (hp : ∀ vs, H p ≠ some (.tup vs)) (hf : ∀ o u, H p ≠ some (.frz o u)) {a : Addr} {vs : List V} (h : SqT K H a vs) : SqT K (upd H p ho) a vs := by
  rcases h with (h | ⟨o, h⟩) | h
  · exact .inl (.inl (by rw [upd_ne (fun z => hp vs (by rw [← z]; exact h))]; exact h))
  · exact .inl (.inr ⟨o, by rw [upd_ne (fun z => hf o (.tup vs) (by rw [← z]; exact h))]; exact h⟩)
  · exact .inr h
/-- a new object of any kind, none of the store's -/
theorem Ext.laid {p : Addr} {ho : HO} (hp : H p = none) : Ext K as H as (upd H p ho) :=
  ⟨⟨[], by simp, by simp⟩, fun a o _ h => by rw [upd_ne (fun z => by rw [z, hp] at h; cases h)]; exact h,
    fun a vs h => sqT_upd (fun vs z => by rw [hp] at z; cases z) (fun _ _ z => by rw [hp] at z; cases z) h,
    fun a o u h => by rw [upd_ne (fun z => by rw [z, hp] at h; cases h)]; exact h⟩
theorem RO.mono (e : Wk K as H as' H') {o : Ob} {a : Addr} (h : RO K as H o a) (hk : ∀ u, H a = some u → (o.mt = true ∨ ∃ o' u', u = .frz o' u') → H' a = some u) : RO K as' H' o a := by
  cases o with
  | lst ds =>
    obtain ⟨vs, h1, h2⟩ := h
    exact ⟨vs, hk _ h1 (.inl rfl), RVs.monoW e _ _ h2⟩
  | dct kvs =>
    obtain ⟨vs, h1, h2⟩ := h
    exact ⟨vs, hk _ h1 (.inl rfl), RKV.monoW e _ _ h2⟩
theorem RO.some_of {o : Ob} {a : Addr} (hm : o.mt = true) (h : RO K as H o a) : ∃ u, H a = some u ∧ Mut (some u) ∧ (∀ vs, u ≠ .tup vs) ∧ ∀ o' u', u ≠ .frz o' u' := by
  cases o with
  | lst ds =>
    obtain ⟨vs, h1, _⟩ := h
    refine ⟨HO.lst vs, h1, True.intro, ?_, ?_⟩
    · intro _ z; cases z
    · intro _ _ z; cases z
  | dct kvs =>
    obtain ⟨vs, h1, _⟩ := h
    refine ⟨HO.dK vs, h1, True.intro, ?_, ?_⟩
    · intro _ z; cases z
    · intro _ _ z; cases z
theorem Rel.get (r : Rel K as st H) {i : Nat} {o : Ob} (h : st[i]? = some o) : ∃ a, as[i]? = some a ∧ RO K as H o a := by
  obtain ⟨hi, _⟩ := List.getElem?_eq_some_iff.mp h
  have hi' : i < as.length := by rw [r.len]; exact hi
  exact ⟨as[i], List.getElem?_eq_getElem hi', r.at_ i o _ h (List.getElem?_eq_getElem hi')⟩
/-- the address is that of the store's object -/
theorem Rel.of_ref (r : Rel K as st H) {i : Nat} {o : Ob} {v : V} (h : st[i]? = some o) (hv : RV K as H (.ref i) v) : ∃ a, v = .ref a ∧ as[i]? = some a ∧ RO K as H o a := by
  obtain ⟨a, rfl, ha⟩ := hv
  exact ⟨a, rfl, ha, r.at_ i o a h ha⟩
theorem Rel.laid (r : Rel K as st H) {p : Addr} {ho : HO} (hp : H p = none) : Rel K as st (upd H p ho) :=
  ⟨r.len, fun i o a h1 h2 => (r.at_ i o a h1 h2).mono (Ext.laid hp).wk fun u h _ => by rw [upd_ne (fun z => by rw [z, hp] at h; cases h)]; exact h, r.inj⟩
/-- a new object of the store -/
theorem Ext.push {p : Addr} {ho : HO} (hp : H p = none) : Ext K as H (as ++ [p]) (upd H p ho) :=
  ⟨⟨[p], rfl, fun a ha => .inl (by simp at ha; rw [ha]; exact hp)⟩, fun a o _ h => by rw [upd_ne (fun z => by rw [z, hp] at h; cases h)]; exact h,
    fun a vs h => sqT_upd (fun vs z => by rw [hp] at z; cases z) (fun _ _ z => by rw [hp] at z; cases z) h,
    fun a o u h => by rw [upd_ne (fun z => by rw [z, hp] at h; cases h)]; exact h⟩
theorem get_snoc {α : Type} {l : List α} {x y : α} {i : Nat} (h : (l ++ [x])[i]? = some y) : l[i]? = some y ∨ (i = l.length ∧ x = y) := by
  by_cases hi : i < l.length
  · rw [List.getElem?_append_left hi] at h; exact .inl h
  · rw [List.getElem?_append_right (by omega)] at h
    by_cases h0 : i - l.length = 0
    · rw [h0] at h; cases h; exact .inr ⟨by omega, rfl⟩
    · rw [List.getElem?_eq_none (by simp; omega)] at h; cases h
theorem Rel.push (r : Rel K as st H) {p : Addr} {ho : HO} {o : Ob} (hp : H p = none) (new : RO K (as ++ [p]) (upd H p ho) o p) : Rel K (as ++ [p]) (st ++ [o]) (upd H p ho) := by
  refine ⟨by simp [r.len], fun i o' a h1 h2 => ?_, fun i j a o1 o2 h1 h2 m1 m2 h3 h4 => ?_⟩
  · rcases get_snoc h1 with h1 | ⟨rfl, rfl⟩
    · rcases get_snoc h2 with h2 | ⟨rfl, rfl⟩
      · exact (r.at_ i o' a h1 h2).mono (Ext.push hp).wk fun u h _ => by rw [upd_ne (fun z => by rw [z, hp] at h; cases h)]; exact h
      · have := (List.getElem?_eq_some_iff.mp h1).1
        rw [r.len] at this; omega
    · rw [← r.len] at h2
      rcases get_snoc h2 with h2 | ⟨_, rfl⟩
      · have := (List.getElem?_eq_some_iff.mp h2).1; omega
      · exact new
  · -- a tracked one of the elder is not the new one
    have old : ∀ (k : Nat) (ob : Ob), st[k]? = some ob → ob.mt = true → ∀ b, as[k]? = some b → b ≠ p := fun k ob hk hm b hb z => by
      obtain ⟨u, hu, _⟩ := RO.some_of hm (r.at_ k ob b hk hb)
      rw [z, hp] at hu; cases hu
    rcases get_snoc h1 with h1 | ⟨e1, f1⟩ <;> rcases get_snoc h2 with h2 | ⟨e2, f2⟩
    · rcases get_snoc h3 with h3 | ⟨e3, f3⟩ <;> rcases get_snoc h4 with h4 | ⟨e4, f4⟩
      · exact r.inj i j a o1 o2 h1 h2 m1 m2 h3 h4
      · exact absurd f4.symm (old i o1 h1 m1 a h3)
      · exact absurd f3.symm (old j o2 h2 m2 a h4)
      · omega
    · rcases get_snoc h3 with h3 | ⟨e3, f3⟩ <;> rcases get_snoc h4 with h4 | ⟨e4, f4⟩
      · have := (List.getElem?_eq_some_iff.mp h4).1; rw [r.len] at this; omega
      · exact absurd f4.symm (old i o1 h1 m1 a h3)
      · have := (List.getElem?_eq_some_iff.mp h1).1; rw [← r.len] at this; omega
      · omega
    · rcases get_snoc h3 with h3 | ⟨e3, f3⟩ <;> rcases get_snoc h4 with h4 | ⟨e4, f4⟩
      · have := (List.getElem?_eq_some_iff.mp h3).1; rw [r.len] at this; omega
      · have := (List.getElem?_eq_some_iff.mp h3).1; rw [r.len] at this; omega
      · exact absurd f3.symm (old j o2 h2 m2 a h4)
      · omega
    · omega
/-- an object of the store is changed -/
theorem Ext.write {a : Addr} {ho : HO} (ha : a ∈ as) (ht : ∀ vs, H a ≠ some (.tup vs)) (hf : ∀ o u, H a ≠ some (.frz o u)) : Ext K as H as (upd H a ho) :=
  ⟨⟨[], by simp, by simp⟩, fun b o hn h => by rw [upd_ne (fun z => hn (by rw [z]; exact ha))]; exact h, fun b vs h => sqT_upd ht hf h, fun b o u h => by rw [upd_ne (fun z => by rw [z] at h; exact hf o u h)]; exact h⟩
theorem Rel.write (r : Rel K as st H) {i : Nat} {a : Addr} {o o' : Ob} {ho : HO} (h : st[i]? = some o) (ha : as[i]? = some a) (hm : o.mt = true) (hm' : o'.mt = true)
    (new : Ext K as H as (upd H a ho) → RO K as (upd H a ho) o' a) : Rel K as (st.set i o') (upd H a ho) ∧ Ext K as H as (upd H a ho) := by
  obtain ⟨u, hu, _, ht, hf⟩ := RO.some_of hm (r.at_ i o a h ha)
  have e : Ext K as H as (upd H a ho) := Ext.write (List.mem_of_getElem? ha) (fun vs z => by rw [hu] at z; cases z; exact ht vs rfl) (fun o u' z => by rw [hu] at z; cases z; exact hf o u' rfl)
  obtain ⟨hi, _⟩ := List.getElem?_eq_some_iff.mp h
  refine ⟨⟨by rw [List.length_set]; exact r.len, fun j o2 b h1 h2 => ?_, fun j k b o1 o2 h1 h2 m1 m2 h3 h4 => ?_⟩, e⟩
  · by_cases hj : i = j
    · subst hj
      rw [List.getElem?_set_self hi] at h1
      cases h1
      rw [ha] at h2; cases h2
      exact new e
    · rw [List.getElem?_set_ne hj] at h1
      refine (r.at_ j o2 b h1 h2).mono e.wk fun u2 hu2 hor => ?_
      have hb : b ≠ a := by
        intro hb
        subst hb
        rcases hor with m2 | ⟨o3, u3, rfl⟩
        · exact hj (r.inj i j b o o2 h h1 hm m2 ha h2)
        · rw [hu] at hu2; cases hu2; exact hf _ _ rfl
      rw [upd_ne hb]; exact hu2
  · have back : ∀ (l : Nat) (ob : Ob), (st.set i o')[l]? = some ob → ob.mt = true → ∃ ob', st[l]? = some ob' ∧ ob'.mt = true := fun l ob hl hb => by
      by_cases hj : i = l
      · subst hj; exact ⟨o, h, hm⟩
      · rw [List.getElem?_set_ne hj] at hl; exact ⟨ob, hl, hb⟩
    obtain ⟨p1, q1, w1⟩ := back j o1 h1 m1
    obtain ⟨p2, q2, w2⟩ := back k o2 h2 m2
    exact r.inj j k b p1 p2 q1 q2 w1 w2 h3 h4

/-! ### an object that is tracked beside the store, and is taken into it later -/
theorem upd_self {H : Hp} {a : Addr} {o : HO} (h : H a = some o) : upd H a o = H := by
  funext b; unfold upd; split
  · rename_i e; rw [e, h]
  · rfl
theorem Ext.side {p : Addr} {u ho : HO} (e : Ext K as H as1 H1) (h0 : H p = none) (h1 : H1 p = some u) (hm : (∀ vs, u ≠ .tup vs) ∧ ∀ o w, u ≠ .frz o w) : Ext K as H as1 (upd H1 p ho) := by
  refine ⟨e.app, fun a o hn h => ?_, fun a vs h => sqT_upd (fun vs z => ?_) (fun o w z => ?_) (e.tup a vs h), fun a o w h => ?_⟩
  · rw [upd_ne (fun z => by rw [z, h0] at h; cases h)]; exact e.frm a o hn h
  · rw [h1] at z; cases z; exact hm.1 vs rfl
  · rw [h1] at z; cases z; exact hm.2 o w rfl
  · rw [upd_ne (fun z => by rw [z, h0] at h; cases h)]; exact e.frz a o w h
theorem Rel.side {p : Addr} {u ho : HO} (r : Rel K as st H) (hp : p ∉ as) (h1 : H p = some u) (hm : (∀ vs, u ≠ .tup vs) ∧ ∀ o w, u ≠ .frz o w) : Rel K as st (upd H p ho) := by
  have wk : Wk K as H as (upd H p ho) := ⟨fun _ _ h => h, fun a vs h => sqT_upd (fun vs z => by rw [h1] at z; cases z; exact hm.1 vs rfl) (fun o w z => by rw [h1] at z; cases z; exact hm.2 o w rfl) h, fun a o w h => by rw [upd_ne (fun z => by rw [z, h1] at h; cases h; exact hm.2 o w rfl)]; exact h⟩
  exact ⟨r.len, fun i o a h1 h2 => (r.at_ i o a h1 h2).mono wk fun u h _ => by rw [upd_ne (fun z => hp (by rw [← z]; exact List.mem_of_getElem? h2))]; exact h, r.inj⟩
theorem Wk.side {p : Addr} {u ho : HO} (h1 : H p = some u) (hm : (∀ vs, u ≠ .tup vs) ∧ ∀ o w, u ≠ .frz o w) : Wk K as H as (upd H p ho) :=
  ⟨fun _ _ h => h, fun a vs h => sqT_upd (fun vs z => by rw [h1] at z; cases z; exact hm.1 vs rfl) (fun o w z => by rw [h1] at z; cases z; exact hm.2 o w rfl) h, fun a o w h => by rw [upd_ne (fun z => by rw [z, h1] at h; cases h; exact hm.2 o w rfl)]; exact h⟩
theorem Ext.adopt {p : Addr} (e : Ext K as H as1 H1) (h0 : H p = none) : Ext K as H (as1 ++ [p]) H1 := by
  obtain ⟨l, rfl, hl⟩ := e.app
  refine ⟨⟨l ++ [p], by simp, fun a ha => ?_⟩, e.frm, e.tup, e.frz⟩
  rcases List.mem_append.mp ha with z | z
  · exact hl a z
  · simp at z; rw [z]; exact .inl h0
theorem Wk.snoc {p : Addr} : Wk K as H (as ++ [p]) H := ⟨fun i a h => by rw [List.getElem?_append_left (List.getElem?_eq_some_iff.mp h).1]; exact h, fun _ _ h => h, fun _ _ _ h => h⟩
theorem Rel.out (r : Rel K as st H) {p : Addr} (h : H p = none) : p ∉ as := fun hm => by
  obtain ⟨i, hi, e⟩ := List.getElem_of_mem hm
  have hi' : i < st.length := by rw [← r.len]; exact hi
  obtain ⟨u, hu, _⟩ := RO.some_of rfl (r.at_ i st[i] as[i] (List.getElem?_eq_getElem hi') (List.getElem?_eq_getElem hi))
  rw [e, h] at hu; cases hu
theorem Rel.adopt {p : Addr} {o : Ob} (r : Rel K as st H) (hp : p ∉ as) (new : RO K (as ++ [p]) H o p) : Rel K (as ++ [p]) (st ++ [o]) H := by
  refine ⟨by simp [r.len], fun i o' a h1 h2 => ?_, fun i j a o1 o2 h1 h2 m1 m2 h3 h4 => ?_⟩
  · rcases get_snoc h1 with h1 | ⟨rfl, rfl⟩
    · rcases get_snoc h2 with h2 | ⟨rfl, rfl⟩
      · exact (r.at_ i o' a h1 h2).mono Wk.snoc fun u h _ => h
      · have := (List.getElem?_eq_some_iff.mp h1).1
        rw [r.len] at this; omega
    · rw [← r.len] at h2
      rcases get_snoc h2 with h2 | ⟨_, rfl⟩
      · have := (List.getElem?_eq_some_iff.mp h2).1; omega
      · exact new
  · have old : ∀ (k : Nat) (b : Addr), as[k]? = some b → b ≠ p := fun k b hb z => hp (by rw [← z]; exact List.mem_of_getElem? hb)
    have l := r.len
    have lt : ∀ (k : Nat) (b : Addr), as[k]? = some b → k < as.length := fun k b hb => (List.getElem?_eq_some_iff.mp hb).1
    have lt2 : ∀ (k : Nat) (b : Ob), st[k]? = some b → k < st.length := fun k b hb => (List.getElem?_eq_some_iff.mp hb).1
    rcases get_snoc h3 with h3 | ⟨e3, f3⟩ <;> rcases get_snoc h4 with h4 | ⟨e4, f4⟩
    · rcases get_snoc h1 with h1 | ⟨e1, f1⟩ <;> rcases get_snoc h2 with h2 | ⟨e2, f2⟩
      · exact r.inj i j a o1 o2 h1 h2 m1 m2 h3 h4
      · have := lt j a h4; omega
      · have := lt i a h3; omega
      · omega
    · exact absurd f4.symm (old i a h3)
    · exact absurd f3.symm (old j a h4)
    · omega
end
end PL

set_option Elab.async false
set_option linter.all false
set_option maxRecDepth 100000
set_option maxHeartbeats 1000000
/-! PLC: what operations of the layer come to, by data. -/
namespace PL
open PySem PySem.Spec PyProof.Rows L2

/-- whatever the result is, P holds of it behind -/
def Good {α : Type} (K : PySem.W.Frag) (P : α → List Addr → Hp → Prop) (as : List Addr) (H : Hp) : Res α → Prop
  | .ok a st' => ∀ as' H', Ext K as H as' H' → Rel K as' st' H' → P a as' H'
  | _ => False
abbrev PE' (K : PySem.W.Frag) (Q : VK) : D → List Addr → Hp → Prop := fun d as' H' => ∀ v, RV K as' H' d v → Q v H'
abbrev PL' (K : PySem.W.Frag) (Q : List V → Hp → Prop) : List D → List Addr → Hp → Prop := fun ds as' H' => ∀ vs, RVs K as' H' ds vs → Q vs H'
abbrev GE (K : PySem.W.Frag) (Q : VK) (as : List Addr) (H : Hp) (r : Res D) : Prop := Good K (PE' K Q) as H r
section
variable {α β : Type} {K : PySem.W.Frag} {as as1 as' : List Addr} {H H1 H' : Hp} {st st1 : Sto}
theorem Good.imp {P P' : α → List Addr → Hp → Prop} {r : Res α} (h : Good K P as H r) (f : ∀ a as' H', Ext K as H as' H' → P a as' H' → P' a as' H') : Good K P' as H r := by
  cases r with
  | ok a st' => exact fun as' H' e r => f a as' H' e (h as' H' e r)
  | exc _ _ _ => exact h
  | bad => exact h
theorem Good.mono {P : α → List Addr → Hp → Prop} {r : Res α} (h : Good K P as H r) (e : Ext K as H as1 H1) : Good K P as1 H1 r := by
  cases r with
  | ok a st' => exact fun as' H' e' r => h as' H' (e.trans e') r
  | exc _ _ _ => exact h
  | bad => exact h
theorem Good.bind {P : β → List Addr → Hp → Prop} {r : Res α} {k : α → Sto → Res β} (h : Good K P as H (r.bind k)) :
    Good K (fun a as1 H1 => ∃ st1, Ext K as H as1 H1 ∧ Rel K as1 st1 H1 ∧ Good K P as1 H1 (k a st1)) as H r := by
  cases r with
  | ok a st' => exact fun as1 H1 e r => ⟨st', e, r, Good.mono (r := k a st') h e⟩
  | exc _ _ _ => exact h
  | bad => exact h
theorem Good.eq {P : α → List Addr → Hp → Prop} {r : Res α} (h : Good K P as H r) : Good K (fun a as1 H1 => ∃ st1, r = .ok a st1 ∧ Ext K as H as1 H1 ∧ Rel K as1 st1 H1 ∧ P a as1 H1) as H r := by
  cases r with
  | ok a st' => exact fun as1 H1 e r => ⟨st', rfl, e, r, h as1 H1 e r⟩
  | exc _ _ _ => exact h
  | bad => exact h
/-- the result is at hand -/
theorem Good.here {P : α → List Addr → Hp → Prop} {a : α} (h : Good K P as H (.ok a st)) (r : Rel K as st H) : P a as H := h as H Ext.refl r
theorem Good.lift {P : α → List Addr → Hp → Prop} {o : Option α} (h : Good K P as H (liftO o st)) : ∃ a, o = some a ∧ Good K P as H (.ok a st) := by
  cases o with
  | some a => exact ⟨a, rfl, h⟩
  | none => exact h.elim
/-- a new list is at hand -/
theorem GE.newL {Q : VK} {ds : List D} {vs : List V} (h : GE K Q as H (.ok (.ref st.length) (st ++ [.lst ds]))) (r : Rel K as st H) (rv : RVs K as H ds vs) :
    ∀ p, H p = none → Q (.ref p) (upd H p (.lst vs)) := fun p hp => by
  have e : Ext K as H (as ++ [p]) (upd H p (.lst vs)) := Ext.push hp
  refine h _ _ e (r.push hp ⟨vs, upd_same, RVs.mono e _ _ rv⟩) _ ⟨p, rfl, ?_⟩
  rw [List.getElem?_append_right (by rw [r.len]; exact Nat.le_refl _), r.len]; simp
theorem GE.newT {Q : VK} {ds : List D} {vs : List V} (h : GE K Q as H (.ok (.tup ds) st)) (r : Rel K as st H) (rv : RVs K as H ds vs) :
    ∀ p, H p = none → Q (.ref p) (upd H p (.tup vs)) := fun p hp =>
  have e : Ext K as H as (upd H p (.tup vs)) := Ext.laid hp
  h _ _ e (r.laid hp) _ ⟨p, vs, rfl, SqT.of upd_same, RVs.mono e _ _ rv⟩
theorem rv_ref {n : Nat} {v : V} {o : Ob} (r : Rel K as st H) (h : st[n]? = some o) (hv : RV K as H (.ref n) v) : ∃ a, v = .ref a ∧ as[n]? = some a ∧ RO K as H o a := r.of_ref h hv
/-- a list of the store, or the script -/
theorem ro_seq {o : Ob} {a : Addr} {xs : List D} (h : RO K as H o a) (ho : o = .lst xs) : ∃ vs, SqL K H a vs ∧ RVs K as H xs vs := by
  subst ho
  obtain ⟨vs, h1, h2⟩ := h; exact ⟨vs, SqL.of h1, h2⟩
end

/-! ### data read by the library -/
section
variable {X : Cx} {pins : List (Addr × Obj)} {σ : L2.St} {H : Hp} {s : Shared} {as : List Addr} {st : Sto}
theorem depthAll_le {n : Nat} : ∀ {ps : List PyData}, (∀ p ∈ ps, p.depth ≤ n) → PyData.depthAll ps ≤ n
  | [], _ => Nat.zero_le _
  | p :: ps, h => by
    rw [PyData.depthAll]
    exact Nat.max_le.mpr ⟨h p List.mem_cons_self, depthAll_le fun q hq => h q (List.mem_cons_of_mem _ hq)⟩
theorem readsAll_of {n : Nat} (ih : ∀ (d : D) (p : PyData) (v : V) (u : Value), toPy st n d = some p → RV X.K as H d v → RelV v u → (∃ bs, Reads s.heap u p bs) ∧ p.depth ≤ n) :
    ∀ (ds : List D) (ps : List PyData) (vs : List V) (us : List Value), optMap (toPy st n) ds = some ps → RVs X.K as H ds vs → Vals vs us → (∃ bs, ReadsAll s.heap us ps bs) ∧ ∀ p ∈ ps, p.depth ≤ n
  | [], _, _, _, h, hv, hu => by
    cases h
    have hv : _ = [] := hv
    subst hv
    cases hu
    exact ⟨⟨_, .nil⟩, by simp⟩
  | d :: ds, ps, vs, us, h, hv, hu => by
    obtain ⟨v, vs', rfl, h1, h2⟩ := hv
    cases hu with
    | cons r1 r2 =>
      unfold optMap at h
      cases e1 : toPy st n d with
      | none => rw [e1] at h; cases h
      | some p =>
        rw [e1] at h
        cases e2 : optMap (toPy st n) ds with
        | none => rw [e2] at h; cases h
        | some r =>
          rw [e2] at h
          cases h
          obtain ⟨⟨b1, q1⟩, q2⟩ := ih d p v _ e1 h1 r1
          obtain ⟨⟨b2, q3⟩, q4⟩ := readsAll_of ih ds r vs' _ e2 h2 r2
          exact ⟨⟨_, .cons q1 q3⟩, fun z hz => by
            rcases List.mem_cons.mp hz with rfl | hz
            · exact q2
            · exact q4 z hz⟩
theorem reads_of (I : Inv X pins σ H s) (rel : Rel X.K as st H) : ∀ (n : Nat) (d : D) (p : PyData) (v : V) (u : Value), toPy st n d = some p → RV X.K as H d v → RelV v u → (∃ bs, Reads s.heap u p bs) ∧ p.depth ≤ n := by
  intro n
  induction n with
  | zero =>
    intro d p v u h hv hu
    cases d <;> simp only [toPy] at h <;> first | (cases h; done) | skip
    all_goals (cases h; have hv : v = _ := hv; subst hv)
    · cases hu; exact ⟨⟨_, .none⟩, Nat.le_refl _⟩
    · cases hu; exact ⟨⟨_, .bool _⟩, Nat.le_refl _⟩
    · obtain ⟨t, rfl⟩ := hu; exact ⟨⟨_, .int _ _⟩, Nat.le_refl _⟩
    · obtain ⟨t, rfl⟩ := hu; exact ⟨⟨_, .str _ _⟩, Nat.le_refl _⟩
  | succ n ih =>
    intro d p v u h hv hu
    cases d with
    | non => cases h; have hv : v = _ := hv; subst hv; cases hu; exact ⟨⟨_, .none⟩, Nat.zero_le _⟩
    | bl b => cases h; have hv : v = _ := hv; subst hv; cases hu; exact ⟨⟨_, .bool _⟩, Nat.zero_le _⟩
    | int i => cases h; have hv : v = _ := hv; subst hv; obtain ⟨t, rfl⟩ := hu; exact ⟨⟨_, .int _ _⟩, Nat.zero_le _⟩
    | str x => cases h; have hv : v = _ := hv; subst hv; obtain ⟨t, rfl⟩ := hu; exact ⟨⟨_, .str _ _⟩, Nat.zero_le _⟩
    | rep _ => simp [toPy] at h
    | tup xs =>
      simp only [toPy] at h
      obtain ⟨ps, e, rfl⟩ := Option.map_eq_some_iff.mp h
      obtain ⟨a, vs, rfl, ht, hs⟩ := hv
      cases hu
      obtain ⟨its, rv, ⟨o, h1, h2, nn, h3⟩, _⟩ := I.tuple ht
      obtain ⟨⟨bs, q⟩, dq⟩ := readsAll_of ih xs ps vs its e hs rv
      refine ⟨⟨_, .tuple h1 h2 h3 q⟩, ?_⟩
      rw [PyData.depth]
      exact Nat.succ_le_succ (depthAll_le dq)
    | scr xs =>
      simp only [toPy] at h
      obtain ⟨ps, e, rfl⟩ := Option.map_eq_some_iff.mp h
      obtain ⟨a, vs, rfl, hl, hs⟩ := hv
      cases hu
      obtain ⟨its, rv, ⟨o, nn, h1, h2, _, h3⟩, _⟩ := I.list hl.l
      obtain ⟨⟨bs, q⟩, dq⟩ := readsAll_of ih xs ps vs its e hs rv
      refine ⟨⟨_, .list h1 h2 h3 q⟩, ?_⟩
      rw [PyData.depth]
      exact Nat.succ_le_succ (depthAll_le dq)
    | ref r =>
      simp only [toPy] at h
      split at h
      · rename_i xs ho
        obtain ⟨ps, e, rfl⟩ := Option.map_eq_some_iff.mp h
        obtain ⟨a, rfl, _, hro⟩ := rv_ref rel ho hv
        cases hu
        obtain ⟨vs, hl, hs⟩ := ro_seq hro rfl
        obtain ⟨its, rv, ⟨o, nn, h1, h2, _, h3⟩, _⟩ := I.list hl
        obtain ⟨⟨bs, q⟩, dq⟩ := readsAll_of ih xs ps vs its e hs rv
        refine ⟨⟨_, .list h1 h2 h3 q⟩, ?_⟩
        rw [PyData.depth]
        exact Nat.succ_le_succ (depthAll_le dq)
      · cases h
end

/-! ### texts of data -/
theorem str_len_append (a b : Str) : (a ++ b).length = a.length + b.length := strLen_append a b
theorem join_len (sep : Str) (n : Nat) (hn : sep.length ≤ n) : ∀ ts : List Str, (Str.join sep ts).length ≤ (ts.map fun t => t.length + n).sum
  | [] => by show Str.empty.length ≤ _; exact Nat.zero_le _
  | [x] => by show x.length ≤ _; simp
  | x :: y :: r => by
    have ih := join_len sep n hn (y :: r)
    have e : Str.join sep (x :: y :: r) = x ++ sep ++ Str.join sep (y :: r) := rfl
    rw [e, str_len_append, str_len_append, List.map_cons, List.sum_cons]
    omega
theorem costAll_eq : ∀ xs : List PyData, showCost.costAll xs = (xs.map fun x => showCost x + 2).sum
  | [] => by simp [showCost.costAll]
  | x :: xs => by rw [showCost.costAll, costAll_eq xs, List.map_cons, List.sum_cons]
mutual
theorem shown_len : ∀ d : PyData, d.canLay0 = true → d.shown.length ≤ showCost d
  | .none, _ => by rw [PyData.shown_none]; decide
  | .bool b, _ => by rw [PyData.shown_bool]; cases b <;> decide
  | .int i, _ => by
    rw [PyData.shown_int, showCost]
    have := int_text_length_le (a := i) (k := i.natAbs.log2 + 1) (Nat.succ_pos _) (Nat.lt_succ_self _)
    have e : ((toString i : String) : Str).length = (toString i).length := by
      exact PySem.ofString_length _
    rw [e]; exact this
  | .str x, h => by
    rw [PyData.shown_str, showCost]
    refine StrLaws.reprText_len x fun c hc => ?_
    have h' : PyData.strOk x = true := by simpa [PyData.canLay0] using h
    unfold PyData.strOk at h'
    rw [Array.all_eq_true_iff_forall_mem] at h'
    have := h' c (by simpa using hc)
    have : c < 0x110000 := by simpa using this
    omega
  | .list xs, h => by
    have ih := shownAll_len xs (by simpa [PyData.canLay0] using h)
    rw [PyData.shown_list, showCost, costAll_eq, str_len_append, str_len_append]
    have := join_len ", " 2 (by decide) (PyData.shownAll xs)
    have e1 : ("[" : Str).length = 1 := by decide
    have e2 : ("]" : Str).length = 1 := by decide
    omega
  | .tuple xs, h => by
    have ih := shownAll_len xs (by simpa [PyData.canLay0] using h)
    rw [PyData.shown_tuple, showCost, costAll_eq, str_len_append, str_len_append]
    have := join_len ", " 2 (by decide) (PyData.shownAll xs)
    have e1 : ("(" : Str).length = 1 := by decide
    have e2 : ((if xs.length == 1 then ",)" else ")" : String) : Str).length ≤ 2 := by split <;> decide
    omega
  | .dict _, h => by simp [PyData.canLay0] at h
theorem shownAll_len : ∀ xs : List PyData, PyData.canLayAll0 xs = true → ((PyData.shownAll xs).map fun t => t.length + 2).sum ≤ (xs.map fun x => showCost x + 2).sum
  | [], _ => by rw [PyData.shownAll_nil]; simp
  | x :: xs, h => by
    have h' : x.canLay0 = true ∧ PyData.canLayAll0 xs = true := by simpa [PyData.canLayAll0] using h
    rw [PyData.shownAll_cons, List.map_cons, List.map_cons, List.sum_cons, List.sum_cons]
    have := shown_len x h'.1
    have := shownAll_len xs h'.2
    omega
end
mutual
theorem same_eq : ∀ a b : PyData, same a b = true → a = b
  | .none, b, h => by cases b <;> simp [same] at h <;> rfl
  | .bool x, b, h => by cases b <;> simp [same] at h; rw [h]
  | .int x, b, h => by cases b <;> simp [same] at h; rw [h]
  | .str x, b, h => by cases b <;> simp [same] at h; rw [h]
  | .list x, b, h => by cases b <;> simp [same] at h; rw [sameAll_eq x _ h]
  | .tuple x, b, h => by cases b <;> simp [same] at h; rw [sameAll_eq x _ h]
  | .dict _, b, h => by cases b <;> simp [same] at h
theorem sameAll_eq : ∀ a b : List PyData, sameAll a b = true → a = b
  | [], b, h => by cases b <;> simp [sameAll] at h; rfl
  | x :: xs, b, h => by
    cases b with
    | nil => simp [sameAll] at h
    | cons y ys =>
      have h' : same x y = true ∧ sameAll xs ys = true := by simpa [sameAll] using h
      rw [same_eq x y h'.1, sameAll_eq xs ys h'.2]
end

/-! ### binary operators -/
def Bop.op : Bop → Operator
  | .add => .Add | .sub => .Sub | .mul => .Mult | .fdiv => .FloorDiv | .md => .Mod | .pow => .Pow
def rU2 (K : PySem.W.Frag) (f : D → D → Sto → Res D) : R2 := fun v u H Q => ∃ as st x y, Rel K as st H ∧ RV K as H x v ∧ RV K as H y u ∧ GE K Q as H (f x y st)
section
variable {X : Cx}
theorem lst_of {K : PySem.W.Frag} {as : List Addr} {H : Hp} {st : Sto} {n : Nat} {v : V} {xs : List D} (r : Rel K as st H) (h : st[n]? = some (.lst xs)) (hv : RV K as H (.ref n) v) :
    ∃ a vs, v = .ref a ∧ as[n]? = some a ∧ H a = some (.lst vs) ∧ RVs K as H xs vs := by
  obtain ⟨a, rfl, ha, vs, h1, h2⟩ := r.of_ref h hv
  exact ⟨a, vs, rfl, ha, h1, h2⟩
theorem cmul_of {i j : Int} (h : (small64 i || small64 j) = true) : CMul i j := by
  simp only [small64, Bool.or_eq_true, Bool.and_eq_true, decide_eq_true_eq] at h
  exact h
theorem op_bin (op : Bop) : OpR X (binaryOp op.op) (rU2 X.K (binD op)) := by
  intro pins s σ H v u vv uu Q I rv ru h
  obtain ⟨as, st, x, y, rel, rx, ry, g⟩ := h
  unfold binD at g
  split at g
  · have rx : v = _ := rx; have ry : u = _ := ry; subst rx; subst ry
    exact op_add pins s σ H _ _ _ _ Q I rv ru ⟨_, _, rfl, rfl, g.here rel _ rfl⟩
  · have rx : v = _ := rx; have ry : u = _ := ry; subst rx; subst ry
    exact op_sub pins s σ H _ _ _ _ Q I rv ru ⟨_, _, rfl, rfl, g.here rel _ rfl⟩
  · have rx : v = _ := rx; have ry : u = _ := ry; subst rx; subst ry
    split at g
    · rename_i hc
      exact op_mul pins s σ H _ _ _ _ Q I rv ru ⟨_, _, rfl, rfl, cmul_of hc, g.here rel _ rfl⟩
    · exact g.elim
  · have rx : v = _ := rx; have ry : u = _ := ry; subst rx; subst ry
    split at g
    · rename_i hc
      simp only [Bool.and_eq_true, decide_eq_true_eq] at hc
      exact op_fdiv pins s σ H _ _ _ _ Q I rv ru ⟨_, _, rfl, rfl, hc, g.here rel _ rfl⟩
    · exact g.elim
  · have rx : v = _ := rx; have ry : u = _ := ry; subst rx; subst ry
    split at g
    · rename_i hc
      exact op_mod pins s σ H _ _ _ _ Q I rv ru ⟨_, _, rfl, rfl, of_decide_eq_true hc, g.here rel _ rfl⟩
    · exact g.elim
  · have rx : v = _ := rx; have ry : u = _ := ry; subst rx; subst ry
    split at g
    · rename_i hc
      simp only [Bool.and_eq_true, decide_eq_true_eq] at hc
      exact op_pow pins s σ H _ _ _ _ Q I rv ru ⟨_, _, rfl, rfl, hc, g.here rel _ rfl⟩
    · exact g.elim
  · have rx : v = _ := rx; have ry : u = _ := ry; subst rx; subst ry
    split at g
    · rename_i hc
      exact op_add_str pins s σ H _ _ _ _ Q I rv ru ⟨_, _, rfl, rfl, hc, g.here rel _ rfl⟩
    · exact g.elim
  · rename_i xs ys
    obtain ⟨a, vs, rfl, h1, h2⟩ := rx
    obtain ⟨b, us, rfl, h3, h4⟩ := ry
    split at g
    · rename_i hc
      refine op_catA pins s σ H _ _ _ _ Q I rv ru ⟨a, b, vs, us, rfl, rfl, h1, h3, by rw [← h2.length, ← h4.length]; exact hc, fun e => ?_, fun _ e => ?_, fun _ _ => g.newT rel (h2.append h4)⟩
      · have := h2.length; rw [e] at this
        have : xs = [] := List.length_eq_zero_iff.mp this
        subst this
        exact g.here rel _ ⟨b, us, rfl, h3, h4⟩
      · have := h4.length; rw [e] at this
        have : ys = [] := List.length_eq_zero_iff.mp this
        subst this
        rw [List.append_nil] at g
        exact g.here rel _ ⟨a, vs, rfl, h1, h2⟩
    · exact g.elim
  · split at g
    · rename_i xs ys e1 e2
      obtain ⟨a, vs, rfl, _, h1, h2⟩ := lst_of rel e1 rx
      obtain ⟨b, us, rfl, _, h3, h4⟩ := lst_of rel e2 ry
      split at g
      · rename_i hc
        exact op_cat pins s σ H _ _ _ _ Q I rv ru ⟨a, b, vs, us, rfl, rfl, h1, h3, by rw [← h2.length, ← h4.length]; exact hc, g.newL rel (h2.append h4)⟩
      · exact g.elim
    · exact g.elim
  · split at g
    · rename_i xs e1
      obtain ⟨a, vs, rfl, _, h1, h2⟩ := lst_of rel e1 rx
      have ry : u = _ := ry; subst ry
      split at g
      · rename_i hc
        simp only [Bool.and_eq_true, decide_eq_true_eq] at hc
        exact op_rep pins s σ H _ _ _ _ Q I rv ru ⟨a, _, vs, rfl, rfl, h1, hc.1, hc.2.1, by rw [← h2.length]; exact hc.2.2, g.newL rel (h2.rep _)⟩
      · exact g.elim
    · exact g.elim
  · exact g.elim

/-! ### truth -/
theorem truV_of {K : PySem.W.Frag} {as : List Addr} {H : Hp} {st : Sto} {d : D} {v : V} {b : Bool} (rel : Rel K as st H) (h : truth st d = some b) (rv : RV K as H d v) : TruV K v H b := by
  unfold truth at h
  split at h
  · cases h; have rv : v = _ := rv; subst rv; rfl
  · cases h; have rv : v = _ := rv; subst rv; rfl
  · cases h; have rv : v = _ := rv; subst rv; rfl
  · have rv : v = _ := rv; subst rv
    split at h
    · rename_i hc; cases h; exact ⟨hc, rfl⟩
    · cases h
  · cases h
    obtain ⟨a, vs, rfl, h1, h2⟩ := rv
    exact .inr (.inl ⟨vs, h1, by rw [h2.isEmpty]⟩)
  · cases h
    obtain ⟨a, vs, rfl, h1, h2⟩ := rv
    exact .inl ⟨vs, h1.l, by rw [h2.isEmpty]⟩
  · split at h
    · rename_i e; cases h
      obtain ⟨a, rfl, _, hro⟩ := rel.of_ref e rv
      obtain ⟨vs, h1, h2⟩ := ro_seq hro rfl
      exact .inl ⟨vs, h1, by rw [h2.isEmpty]⟩
    · rename_i kvs e; cases h
      obtain ⟨a, rfl, _, vs, h1, h2⟩ := rel.of_ref e rv
      refine .inr (.inr ⟨vs, h1, ?_⟩)
      cases kvs with
      | nil => have h2 : vs = [] := h2; subst h2; rfl
      | cons _ _ => obtain ⟨_, _, rfl, _, _⟩ := h2; rfl
    · cases h
  · cases h

/-! ### comparisons -/
def Cop.op : Cop → CmpOp
  | .eq => .Eq | .ne => .NotEq | .lt => .Lt | .le => .LtE | .gt => .Gt | .ge => .GtE | .isn => .Is | .isnn => .IsNot | .isin => .In | .notin => .NotIn
def rC2 (K : PySem.W.Frag) (op : Cop) : R2 := fun v u H Q => ∃ as st x y b, Rel K as st H ∧ RV K as H x v ∧ RV K as H y u ∧ cmpD op x y st = some b ∧ Q (.bl b) H
/-- == of data -/
theorem eq_run {pins : List (Addr × Obj)} {s : Shared} {σ : L2.St} {H : Hp} {v u : V} {vv uu : Value} {Q : VK} (hu : X.A.units + 64 < cLine) (I : Inv X pins σ H s) (rv : RelV v vv) (ru : RelV u uu)
    {as : List Addr} {st : Sto} {x y : D} {b : Bool} (rel : Rel X.K as st H) (rx : RV X.K as H x v) (ry : RV X.K as H y u) (e : eqD st x y = some b) :
    (Q (.bl b) H → wpAny (model X.prog X.w) X.A (compareOp .Eq vv uu) (EP X pins σ Q) X.xe s) ∧ (Q (.bl (!b)) H → wpAny (model X.prog X.w) X.A (compareOp .NotEq vv uu) (EP X pins σ Q) X.xe s) := by
  have scal_case : ∀ k : Bool, scal v u = true → k = decide (v = u) → (Q (.bl k) H → wpAny (model X.prog X.w) X.A (compareOp .Eq vv uu) (EP X pins σ Q) X.xe s) ∧ (Q (.bl (!k)) H → wpAny (model X.prog X.w) X.A (compareOp .NotEq vv uu) (EP X pins σ Q) X.xe s) := fun k hs hk => by
    subst hk
    exact ⟨fun q => op_eq pins s σ H _ _ _ _ Q I rv ru ⟨hs, q⟩, fun q => op_ne pins s σ H _ _ _ _ Q I rv ru ⟨hs, q⟩⟩
  have gen : ∀ p q, toPy st 60 x = some p → toPy st 60 y = some q → (if p.canLay0 && q.canLay0 then some (PyData.eqv p q) else none) = some b →
      (Q (.bl b) H → wpAny (model X.prog X.w) X.A (compareOp .Eq vv uu) (EP X pins σ Q) X.xe s) ∧ (Q (.bl (!b)) H → wpAny (model X.prog X.w) X.A (compareOp .NotEq vv uu) (EP X pins σ Q) X.xe s) := fun p q e1 e2 e => by
    split at e
    · rename_i hc
      simp only [Bool.and_eq_true] at hc
      cases e
      obtain ⟨⟨bs, q1⟩, d1⟩ := reads_of I rel 60 x p v vv e1 rx rv
      obtain ⟨⟨cs, q2⟩, d2⟩ := reads_of I rel 60 y q u uu e2 ry ru
      have s1 : SeqAt.shaped p = true := by unfold SeqAt.shaped; rw [hc.1, decide_eq_true (Nat.le_trans d1 (by decide))]; rfl
      have s2 : SeqAt.shaped q = true := by unfold SeqAt.shaped; rw [hc.2, decide_eq_true (Nat.le_trans d2 (by decide))]; rfl
      exact ⟨fun k => SeqAt.compareEq_shaped q1 q2 s1 s2 hu ⟨.bl _, H, I, rfl, k⟩, fun k => SeqAt.compareNe_shaped q1 q2 s1 s2 hu ⟨.bl _, H, I, rfl, k⟩⟩
    · cases e
  unfold eqD at e
  split at e
  · split at e
    · rename_i hs; cases e
      have he := same_eq _ _ hs
      subst he
      have rx : v = _ := rx; have ry : u = _ := ry; subst rx; subst ry
      exact scal_case true rfl (by simp)
    · cases e
  · cases e; have rx : v = _ := rx; have ry : u = _ := ry; subst rx; subst ry
    exact scal_case _ rfl (by simp)
  · cases e; have rx : v = _ := rx; have ry : u = _ := ry; subst rx; subst ry
    exact scal_case _ rfl (by simp)
  · cases e; have rx : v = _ := rx; have ry : u = _ := ry; subst rx; subst ry
    exact scal_case _ rfl (by simp)
  · cases e; have rx : v = _ := rx; have ry : u = _ := ry; subst rx; subst ry
    exact scal_case _ rfl (by simp)
  · cases e; have rx : v = _ := rx; have ry : u = _ := ry; subst rx; subst ry
    exact scal_case _ rfl (by simp)
  · cases e; have rx : v = _ := rx; have ry : u = _ := ry; subst rx; subst ry
    exact scal_case _ rfl (by simp)
  · cases e; have rx : v = _ := rx; have ry : u = _ := ry; subst rx; subst ry
    exact scal_case _ rfl (by simp)
  · cases e; have rx : v = _ := rx; have ry : u = _ := ry; subst rx; subst ry
    exact scal_case _ rfl (by simp)
  · cases e; have rx : v = _ := rx; have ry : u = _ := ry; subst rx; subst ry
    exact scal_case _ rfl (by simp)
  · cases e; have rx : v = _ := rx; have ry : u = _ := ry; subst rx; subst ry
    exact scal_case _ rfl (by cases ‹Bool› <;> cases ‹Bool› <;> rfl)
  · split at e
    · rename_i e1 e2; exact gen _ _ e1 e2 e
    · cases e

theorem in_run {pins : List (Addr × Obj)} {s : Shared} {σ : L2.St} {H : Hp} {v u : V} {vv uu : Value} {Q : VK} (hu : X.A.units + 65 < cLine) (I : Inv X pins σ H s) (rv : RelV v vv) (ru : RelV u uu)
    {as : List Addr} {st : Sto} {x y : D} {b : Bool} (rel : Rel X.K as st H) (rx : RV X.K as H x v) (ry : RV X.K as H y u) (e : inD st x y = some b) :
    (Q (.bl b) H → wpAny (model X.prog X.w) X.A (compareOp .In vv uu) (EP X pins σ Q) X.xe s) ∧ (Q (.bl (!b)) H → wpAny (model X.prog X.w) X.A (compareOp .NotIn vv uu) (EP X pins σ Q) X.xe s) := by
  unfold inD at e
  split at e
  · rename_i p ys e1 e2
    split at e
    · rename_i hc
      simp only [Bool.and_eq_true] at hc
      cases e
      obtain ⟨⟨bs, q1⟩, d1⟩ := reads_of I rel 60 x p v vv e1 rx rv
      obtain ⟨⟨cs, q2⟩, d2⟩ := reads_of I rel 60 y _ u uu e2 ry ru
      have hr : X.A.units + 1 + min (PyData.depthAll ys) p.depth < cLine := by
        have := Nat.min_le_right (PyData.depthAll ys) p.depth; omega
      exact ⟨fun k => SeqAt.in_list_reads q2 q1 hc.2 hc.1 hr ⟨.bl _, H, I, rfl, k⟩, fun k => SeqAt.notIn_list_reads q2 q1 hc.2 hc.1 hr ⟨.bl _, H, I, rfl, k⟩⟩
    · cases e
  · rename_i p ys e1 e2
    split at e
    · rename_i hc
      simp only [Bool.and_eq_true] at hc
      cases e
      obtain ⟨⟨bs, q1⟩, d1⟩ := reads_of I rel 60 x p v vv e1 rx rv
      obtain ⟨⟨cs, q2⟩, d2⟩ := reads_of I rel 60 y _ u uu e2 ry ru
      have hr : X.A.units + 1 + min (PyData.depthAll ys) p.depth < cLine := by
        have := Nat.min_le_right (PyData.depthAll ys) p.depth; omega
      exact ⟨fun k => SeqAt.in_tuple_reads q2 q1 hc.2 hc.1 hr ⟨.bl _, H, I, rfl, k⟩, fun k => SeqAt.notIn_tuple_reads q2 q1 hc.2 hc.1 hr ⟨.bl _, H, I, rfl, k⟩⟩
    · cases e
  · cases e
theorem rv_non {K : PySem.W.Frag} {as : List Addr} {H : Hp} {d : D} {v : V} (rv : RV K as H d v) (h : d ≠ .non) : v ≠ .non := by
  cases d with
  | non => exact absurd rfl h
  | tup ds => obtain ⟨a, vs, rfl, _⟩ := rv; intro z; cases z
  | ref n => obtain ⟨a, rfl, _⟩ := rv; intro z; cases z
  | scr ds => obtain ⟨a, vs, rfl, _⟩ := rv; intro z; cases z
  | bl b => have rv : v = _ := rv; subst rv; intro z; cases z
  | int b => have rv : v = _ := rv; subst rv; intro z; cases z
  | str b => have rv : v = _ := rv; subst rv; intro z; cases z
  | rep b => have rv : v = _ := rv; subst rv; intro z; cases z
theorem op_cmp (hu : X.A.units + 65 < cLine) (op : Cop) : OpR X (compareOp op.op) (rC2 X.K op) := by
  intro pins s σ H v u vv uu Q I rv ru h
  obtain ⟨as, st, x, y, b, rel, rx, ry, e, q⟩ := h
  unfold cmpD at e
  split at e
  · exact (eq_run (by omega) I rv ru rel rx ry e).1 q
  · obtain ⟨k, e1, rfl⟩ := Option.map_eq_some_iff.mp e
    exact (eq_run (by omega) I rv ru rel rx ry e1).2 q
  · cases e; have rx : v = _ := rx; have ry : u = _ := ry; subst rx; subst ry
    exact op_lt pins s σ H _ _ _ _ Q I rv ru ⟨_, _, rfl, rfl, q⟩
  · cases e; have rx : v = _ := rx; have ry : u = _ := ry; subst rx; subst ry
    exact op_le pins s σ H _ _ _ _ Q I rv ru ⟨_, _, rfl, rfl, q⟩
  · cases e; have rx : v = _ := rx; have ry : u = _ := ry; subst rx; subst ry
    exact op_gt pins s σ H _ _ _ _ Q I rv ru ⟨_, _, rfl, rfl, q⟩
  · cases e; have rx : v = _ := rx; have ry : u = _ := ry; subst rx; subst ry
    exact op_ge pins s σ H _ _ _ _ Q I rv ru ⟨_, _, rfl, rfl, q⟩
  · cases e; have rx : v = _ := rx; have ry : u = _ := ry; subst rx; subst ry
    exact op_isN pins s σ H _ _ _ _ Q I rv ru ⟨rfl, q⟩
  · rename_i hn; cases e; have ry : u = _ := ry; subst ry
    refine op_isN pins s σ H _ _ _ _ Q I rv ru ⟨rfl, ?_⟩
    rw [decide_eq_false (rv_non rx (fun z => by subst z; simp_all))]; exact q
  · cases e; have rx : v = _ := rx; have ry : u = _ := ry; subst rx; subst ry
    exact op_notN pins s σ H _ _ _ _ Q I rv ru ⟨rfl, q⟩
  · rename_i hn; cases e; have ry : u = _ := ry; subst ry
    refine op_notN pins s σ H _ _ _ _ Q I rv ru ⟨rfl, ?_⟩
    rw [decide_eq_false (rv_non rx (fun z => by subst z; simp_all))]; exact q
  · exact (in_run hu I rv ru rel rx ry e).1 q
  · obtain ⟨k, e1, rfl⟩ := Option.map_eq_some_iff.mp e
    exact (in_run hu I rv ru rel rx ry e1).2 q
  · cases e

/-! ### subscripts, slices -/
theorem RVs.atI {K : PySem.W.Frag} {as : List Addr} {H : Hp} {ds : List D} {vs : List V} {i : Int} {d : D} (h : RVs K as H ds vs) (e : L2.atI ds i = some d) : ∃ v, L2.atI vs i = some v ∧ RV K as H d v := by
  unfold L2.atI at e ⊢
  rw [← h.length]
  cases q : ixN ds.length i with
  | none => rw [q] at e; cases e
  | some j => rw [q] at e; exact h.get e
theorem getKV_of {K : PySem.W.Frag} {as : List Addr} {H : Hp} {k : Key} {d : D} : ∀ {kvs : List (Key × D)} {vs : List (Key × V)}, RKV K as H kvs vs → getKV kvs k = some d → ∃ v, valV vs k = some v ∧ RV K as H d v
  | [], _, _, e => by simp [getKV] at e
  | p :: r, _, h, e => by
    obtain ⟨v, vs', rfl, h1, h2⟩ := h
    by_cases hk : p.1 = k
    · have : getKV (p :: r) k = some p.2 := by simp [getKV, List.find?_cons, hk]
      rw [this] at e; cases e
      exact ⟨v, valV_pos hk, h1⟩
    · have : getKV (p :: r) k = getKV r k := by simp [getKV, List.find?_cons, hk]
      rw [this] at e
      obtain ⟨w, e1, e2⟩ := getKV_of h2 e
      exact ⟨w, by rw [valV_neg hk]; exact e1, e2⟩
theorem keyD_of {K : PySem.W.Frag} {as : List Addr} {H : Hp} {d : D} {k : Key} {v : V} (h : keyD d = some k) (rv : RV K as H d v) : v = kV k := by
  unfold keyD at h
  split at h
  · cases h; exact rv
  · cases h; exact rv
  · cases h
theorem ix_all (hu : X.A.units + 1 < cLine) : IxR X (rU2 X.K idxD) := by
  intro value slice pins s σ H v u vv uu Q I rv ru h hs
  obtain ⟨as, st, x, y, rel, rx, ry, g⟩ := h
  unfold idxD at g
  split at g
  · obtain ⟨a, vs, rfl, h1, h2⟩ := rx
    have ry : u = _ := ry; subst ry
    obtain ⟨d, e, g⟩ := g.lift
    obtain ⟨w, e1, e2⟩ := h2.atI e
    exact ix_tup value slice pins s σ H _ _ _ _ Q I rv ru ⟨a, vs, _, w, rfl, rfl, h1, e1, g.here rel _ e2⟩ hs
  · obtain ⟨a, vs, rfl, h1, h2⟩ := rx
    have ry : u = _ := ry; subst ry
    obtain ⟨d, e, g⟩ := g.lift
    obtain ⟨w, e1, e2⟩ := h2.atI e
    exact ix_list value slice pins s σ H _ _ _ _ Q I rv ru ⟨a, vs, _, w, rfl, rfl, h1.l, e1, g.here rel _ e2⟩ hs
  · have rx : v = _ := rx; have ry : u = _ := ry; subst rx; subst ry
    split at g
    · rename_i hc
      obtain ⟨d, e, g⟩ := g.lift
      obtain ⟨c, e1, rfl⟩ := Option.map_eq_some_iff.mp e
      exact ix_str value slice pins s σ H _ _ _ _ Q I rv ru ⟨_, _, c, rfl, rfl, hc, e1, g.here rel _ rfl⟩ hs
    · exact g.elim
  · split at g
    · rename_i xs i e
      obtain ⟨a, rfl, _, hro⟩ := rel.of_ref e rx
      obtain ⟨vs, h1, h2⟩ := ro_seq hro rfl
      have ry : u = _ := ry; subst ry
      obtain ⟨d, e, g⟩ := g.lift
      obtain ⟨w, e1, e2⟩ := h2.atI e
      exact ix_list value slice pins s σ H _ _ _ _ Q I rv ru ⟨a, vs, _, w, rfl, rfl, h1, e1, g.here rel _ e2⟩ hs
    · rename_i kvs k e
      obtain ⟨a, rfl, _, vs, h1, h2⟩ := rel.of_ref e rx
      split at g
      · rename_i k' hk
        have := keyD_of hk ry
        subst this
        obtain ⟨d, e, g⟩ := g.lift
        obtain ⟨w, e1, e2⟩ := getKV_of h2 e
        have hdg : DGet H a (kV k') (some w) := by rw [← e1]; exact DGet.k h1
        cases rv
        exact tail_any (dict_typeIs I hdg) PySem.F.slot_dict_getitem.lookup (d_getItem hu I hdg ru fun w' s' I' r' => ⟨w, H, I', r', g.here rel _ e2⟩) hs
      · exact g.elim
    · exact g.elim
  · exact g.elim
end
end PL

set_option Elab.async false
set_option linter.all false
set_option maxRecDepth 100000
set_option maxHeartbeats 1000000
/-! PLD: slices, stores, built-ins, methods. -/
namespace PL
open PySem PySem.Spec PyProof.Rows L2

section
variable {X : Cx}
/-! ### slices -/
def tPartA (t : TE) : TO := fun σ H Q => t σ H fun x H1 => (∃ i, x = .int i ∧ Q (some i) H1) ∨ (x = .non ∧ Q none H1)
theorem po_any {e : Expr} {te : TE} (h : L2.PE X e te) : PO X (some e) (tPartA te) := by
  refine ⟨fun pins s σ H Q I hw => ?_⟩
  rw [evalPart_some]
  refine thn (h.run pins s σ H _ I hw) fun u s1 ⟨x, H1, I1, r1, q1⟩ => ?_
  rcases q1 with ⟨i, rfl, q⟩ | ⟨rfl, q⟩
  · obtain ⟨t, rfl⟩ := r1
    exact ⟨some i, H1, I1, .int i t, q⟩
  · cases r1
    exact ⟨none, H1, I1, .none, q⟩
theorem cutD_of {K : PySem.W.Frag} {as : List Addr} {H : Hp} {ds : List D} {vs : List V} (h : RVs K as H ds vs) (lo hi : Option Int) : RVs K as H (cutD ds lo hi) (cutV vs lo hi) := by
  unfold cutD cutV
  rw [h.length]
  exact (h.drop _).take _
/-- a slice by its parts -/
def slO (a : D) (l h : Option Int) (st : Sto) : Res D := match a with
  | .tup xs => .ok (.tup (cutD xs l h)) st
  | .scr xs => .ok (.ref st.length) (st ++ [.lst (cutD xs l h)])
  | .str x => if x.length ≤ sizeLine then .ok (.str ⟨(cutD x.cps.toList l h).toArray⟩) st else .bad
  | .ref r => match st[r]? with
    | some (.lst xs) => .ok (.ref st.length) (st ++ [.lst (cutD xs l h)])
    | _ => .bad
  | _ => .bad
theorem slD_eq {a lo hi : D} {st : Sto} {P : D → List Addr → Hp → Prop} {K : PySem.W.Frag} {as : List Addr} {H : Hp} (g : Good K P as H (slD a lo hi st)) :
    ∃ l h, partD lo = some l ∧ partD hi = some h ∧ Good K P as H (slO a l h st) := by
  unfold slD at g
  split at g
  · rename_i e1 e2; exact ⟨_, _, e1, e2, g⟩
  · rename_i e1 e2; exact ⟨_, _, e1, e2, g⟩
  · rename_i e1 e2; exact ⟨_, _, e1, e2, g⟩
  · rename_i e1 e2; exact ⟨_, _, e1, e2, g⟩
  · exact g.elim
def rSlU (K : PySem.W.Frag) : V → Option Int → Option Int → Hp → VK → Prop := fun v lo hi H Q => ∃ as st x, Rel K as st H ∧ RV K as H x v ∧ GE K Q as H (slO x lo hi st)
theorem cut_str (x : Str) (l h : Option Int) : (⟨(cutD x.cps.toList l h).toArray⟩ : Str) = cutS x l h := by
  unfold cutD cutS
  have e : x.cps.toList.length = x.length := by simp [Str.length]
  rw [e]
theorem sl_all : SlR X (rSlU X.K) := by
  intro pins s σ H v vv vl vu lo hi sl Q I rv hs pl pu h
  obtain ⟨as, st, x, rel, rx, g⟩ := h
  unfold slO at g
  split at g
  · rename_i xs
    obtain ⟨a, vs, rfl, h1, h2⟩ := rx
    refine sl_tupA pins s σ H _ _ vl vu lo hi sl Q I rv hs pl pu ⟨a, vs, rfl, h1, fun hw => ?_, fun _ => g.newT rel (cutD_of h2 lo hi)⟩
    have e : cutD xs lo hi = xs := by
      unfold cutD
      rw [h2.length, hw.1, hw.2, List.drop_zero, Nat.sub_zero]
      exact List.take_of_length_le (by rw [h2.length]; exact Nat.le_refl _)
    rw [e] at g
    exact g.here rel _ ⟨a, vs, rfl, h1, h2⟩
  · obtain ⟨a, vs, rfl, h1, h2⟩ := rx
    exact sl_list pins s σ H _ _ vl vu lo hi sl Q I rv hs pl pu ⟨a, vs, rfl, h1.l, g.newL rel (cutD_of h2 lo hi)⟩
  · have rx : v = _ := rx; subst rx
    split at g
    · rename_i hc
      rw [cut_str] at g
      exact sl_str pins s σ H _ _ vl vu lo hi sl Q I rv hs pl pu ⟨_, rfl, hc, g.here rel _ rfl⟩
    · exact g.elim
  · split at g
    · rename_i e
      obtain ⟨a, rfl, _, hro⟩ := rel.of_ref e rx
      obtain ⟨vs, h1, h2⟩ := ro_seq hro rfl
      exact sl_list pins s σ H _ _ vl vu lo hi sl Q I rv hs pl pu ⟨a, vs, rfl, h1, g.newL rel (cutD_of h2 lo hi)⟩
    · exact g.elim
  · exact g.elim

/-! ### o[i] = v -/
def rSetU (K : PySem.W.Frag) : TSet := fun o i v H Q => ∃ as st x y z st', Rel K as st H ∧ RV K as H x o ∧ RV K as H y i ∧ RV K as H z v ∧ setD x y z st = some st' ∧ ∀ H', Ext K as H as H' → Rel K as st' H' → Q H'
theorem putKV_of {K : PySem.W.Frag} {as : List Addr} {H : Hp} {k : Key} {d : D} {w : V} {kvs : List (Key × D)} {vs : List (Key × V)} (h : RKV K as H kvs vs) (r : RV K as H d w) : RKV K as H (putKV kvs k d) (putK vs k w) := by
  have len : ∀ {kvs : List (Key × D)} {vs : List (Key × V)}, RKV K as H kvs vs → (kvs.any fun kv => decide (kv.1 = k)) = (vs.any fun kv => decide (kv.1 = k)) := by
    intro kvs
    induction kvs with
    | nil => intro vs h; have h : vs = [] := h; subst h; rfl
    | cons p r ih =>
      intro vs h
      obtain ⟨v, vs', rfl, h1, h2⟩ := h
      rw [List.any_cons, List.any_cons, ih h2]
  have repl : ∀ {kvs : List (Key × D)} {vs : List (Key × V)}, RKV K as H kvs vs → RKV K as H (kvs.map fun kv => if kv.1 = k then (kv.1, d) else kv) (vs.map fun kv => if kv.1 = k then (kv.1, w) else kv) := by
    intro kvs
    induction kvs with
    | nil => intro vs h; have h : vs = [] := h; subst h; rfl
    | cons p r0 ih =>
      intro vs h
      obtain ⟨v, vs', rfl, h1, h2⟩ := h
      rw [List.map_cons, List.map_cons]
      by_cases e : p.1 = k
      · rw [if_pos e, if_pos e]; exact ⟨w, _, rfl, r, ih h2⟩
      · rw [if_neg e, if_neg e]; exact ⟨v, _, rfl, h1, ih h2⟩
  have app : ∀ {kvs : List (Key × D)} {vs : List (Key × V)}, RKV K as H kvs vs → RKV K as H (kvs ++ [(k, d)]) (vs ++ [(k, w)]) := by
    intro kvs
    induction kvs with
    | nil => intro vs h; have h : vs = [] := h; subst h; exact ⟨w, [], rfl, r, rfl⟩
    | cons p r0 ih =>
      intro vs h
      obtain ⟨v, vs', rfl, h1, h2⟩ := h
      exact ⟨v, _, rfl, h1, ih h2⟩
  unfold putKV putK
  rw [len h]
  split
  · exact repl h
  · exact app h
theorem RKV.length {K : PySem.W.Frag} {as : List Addr} {H : Hp} : ∀ {kvs : List (Key × D)} {vs : List (Key × V)}, RKV K as H kvs vs → kvs.length = vs.length
  | [], _, h => by have h : _ = [] := h; subst h; rfl
  | p :: r, _, h => by
    obtain ⟨v, vs', rfl, h1, h2⟩ := h
    rw [List.length_cons, List.length_cons, RKV.length h2]
theorem set_all (hu : X.A.units + 1 < cLine) : PSet X (rSetU X.K) := by
  intro pins s σ H o i v ov iv u Q I ro ri rv h
  obtain ⟨as, st, x, y, z, st', rel, rx, ry, rz, e, q⟩ := h
  unfold setD at e
  split at e
  · rename_i r
    split at e
    · rename_i xs k e1
      obtain ⟨j, e2, rfl⟩ := Option.map_eq_some_iff.mp e
      obtain ⟨a, vs, rfl, ha, h1, h2⟩ := lst_of rel e1 rx
      have ry : i = _ := ry; subst ry
      have hw := rel.write (o' := .lst (xs.set j z)) (ho := .lst (vs.set j v)) e1 ha rfl rfl fun ex => ⟨_, upd_same, RVs.mono ex _ _ (h2.set j rz)⟩
      exact set_list pins s σ H _ _ _ _ _ _ Q I ro ri rv ⟨a, vs, k, j, rfl, rfl, h1, by rw [← h2.length]; exact e2, q _ hw.2 hw.1⟩
    · rename_i k kvs e1
      split at e
      · rename_i k' hk
        split at e
        · rename_i hl
          cases e
          obtain ⟨a, rfl, ha, vs, h1, h2⟩ := rel.of_ref e1 rx
          have := keyD_of hk ry
          subst this
          have hw := rel.write (o' := .dct (putKV kvs k' z)) (ho := .dK (putK vs k' v)) e1 ha rfl rfl fun ex => ⟨_, upd_same, RKV.mono ex _ _ (putKV_of h2 rz)⟩
          cases ro
          exact d_setItem hu I (DPut.k h1 (by rw [← h2.length]; exact hl)) ri rv fun s' I' => ⟨_, I', q _ hw.2 hw.1⟩
        · cases e
      · cases e
    · cases e
  · cases e

/-! ### built-ins -/
/-- what a context allows -/
structure Fit (X : Cx) : Prop where
  hu : X.A.units + 100 < cLine
  hg : X.A.guards = some []
  hc : X.calm = true
def Blt.val : Blt → Value
  | .len => .builtin "len" | .abs => .builtin "abs" | .int => .type "int" | .tuple => .type "tuple" | .list => .type "list" | .min2 => .builtin "min" | .max2 => .builtin "max"
  | .repr => .builtin "repr" | .strI => .type "str" | .isi _ => .builtin "isinstance" | .dictP => .type "dict"
def rCallU (K : PySem.W.Frag) (b : Blt) : List V → Hp → VK → Prop := fun vs H Q => ∃ as st ds, Rel K as st H ∧ RVs K as H ds vs ∧ GE K Q as H (bltD b ds st)
theorem rvs_one {K : PySem.W.Frag} {as : List Addr} {H : Hp} {d : D} {vs : List V} (h : RVs K as H [d] vs) : ∃ v, vs = [v] ∧ RV K as H d v := by
  obtain ⟨v, vs', rfl, h1, h2⟩ := h
  have h2 : vs' = [] := h2
  subst h2
  exact ⟨v, rfl, h1⟩
theorem rvs_two {K : PySem.W.Frag} {as : List Addr} {H : Hp} {d e : D} {vs : List V} (h : RVs K as H [d, e] vs) : ∃ v u, vs = [v, u] ∧ RV K as H d v ∧ RV K as H e u := by
  obtain ⟨v, vs', rfl, h1, h2⟩ := h
  obtain ⟨u, rfl, h3⟩ := rvs_one h2
  exact ⟨v, u, rfl, h1, h3⟩
def Ty.nm : Ty → String
  | .int => "int" | .bool => "bool" | .str => "str" | .tup => "tuple" | .lst => "list" | .dct => "dict"
theorem kit_all (u t : Ty) : kitB u.nm t.nm = some (decide (u = t) || (decide (u = .bool) && decide (t = .int))) := by
  cases u <;> cases t <;> decide +kernel
theorem kit_none (t : Ty) : kitB "NoneType" t.nm = some false := by
  cases t <;> decide +kernel
theorem tyX_of {K : PySem.W.Frag} {as : List Addr} {H : Hp} {st : Sto} {d : D} {v : V} {t : Ty} (rel : Rel K as st H) (h : tyD st d = some t) (rv : RV K as H d v) : TyX K H v (.type t.nm) := by
  have sq : ∀ a vs, SqL K H a vs → TyX K H (.ref a) (.type "list") := fun a vs h => by
    rcases h with (h | ⟨o, h⟩) | ⟨o, its, n, h, hc, _⟩
    · exact .base (.lst h)
    · exact .base (.frz h)
    · exact .kList h hc
  unfold tyD at h
  split at h
  · cases h; have rv : v = _ := rv; subst rv; exact .base (.bl _)
  · cases h; have rv : v = _ := rv; subst rv; exact .base (.int _)
  · cases h; have rv : v = _ := rv; subst rv; exact .base (.str _)
  · cases h
    obtain ⟨a, vs, rfl, h1, _⟩ := rv
    rcases h1 with (h | ⟨o, h⟩) | ⟨o, its, n, h, hc, _⟩
    · exact .base (.tup h)
    · exact .fTuple h
    · exact .kTuple h hc
  · cases h
    obtain ⟨a, vs, rfl, h1, _⟩ := rv
    exact sq a vs h1.l
  · split at h
    · rename_i e; cases h
      obtain ⟨a, rfl, _, hro⟩ := rel.of_ref e rv
      obtain ⟨vs, h1, _⟩ := ro_seq hro rfl
      exact sq a vs h1
    · rename_i e; cases h
      obtain ⟨a, rfl, _, vs, h1, _⟩ := rel.of_ref e rv
      exact .base (.dK h1)
    · cases h
  · cases h; have rv : v = _ := rv; subst rv; exact .base (.str _)
  · cases h
theorem isi_run {pins : List (Addr × Obj)} {s : Shared} {σ : L2.St} {H : Hp} {v : V} {us : List Value} {Q : VK} {t : Ty} (I : Inv X pins σ H s) (r : Vals [v, .ty t.nm] us)
    {as : List Addr} {st : Sto} {d : D} {b : Bool} (rel : Rel X.K as st H) (rv : RV X.K as H d v) (e : isiD st t d = some b) (q : Q (.bl b) H) : wpAny (model X.prog X.w) X.A (call (.builtin "isinstance") us) (EP X pins σ Q) X.xe s := by
  unfold isiD at e
  split at e
  · cases e; have rv : v = _ := rv; subst rv
    exact call_isi pins s σ H _ us Q I r ⟨_, _, _, _, _, rfl, .ty _, .base .non, kit_ty (kit_none t), q⟩
  · split at e
    · rename_i u hu; cases e
      exact call_isi pins s σ H _ us Q I r ⟨_, _, _, _, _, rfl, .ty _, tyX_of rel hu rv, kit_ty (kit_all u t), q⟩
    · cases e
theorem repr_run (fx : Fit X) {pins : List (Addr × Obj)} {s : Shared} {σ : L2.St} {H : Hp} {v : V} {u : Value} {Q : VK} (I : Inv X pins σ H s) (r : RelV v u)
    {as : List Addr} {st : Sto} {d : D} {p : PyData} (rel : Rel X.K as st H) (rv : RV X.K as H d v) (e : toPy st 60 d = some p) (h1 : p.canLay0 = true) (h2 : p.showable = true) (h3 : showCost p ≤ sizeLine) (q : Q (.str p.shown) H) :
    wpAny (model X.prog X.w) X.A (call (.builtin "repr") [u]) (EP X pins σ Q) X.xe s := by
  obtain ⟨⟨bs, rd⟩, dp⟩ := reads_of I rel 60 d p v u e rv r
  have hsz : p.shown.length ≤ sizeLine := Nat.le_trans (shown_len p h1) h3
  have hu := fx.hu
  have fin : ∀ t, EP X pins σ Q (.str p.shown t) { s with toks := s.toks + 1 } := fun t => ⟨.str p.shown, H, I.tok _, ⟨t, rfl⟩, q⟩
  cases rd with
  | none => exact PySem.P.repr_of_none (fin _)
  | bool b => exact PySem.P.repr_of_bool (by have := fin s.toks; rw [PyData.shown_bool] at this; exact this)
  | int i t => exact PySem.P.repr_of_int (by simpa [PyData.showable] using h2) (by have := fin s.toks; rw [PyData.shown_int] at this; exact this)
  | str x t => exact PySem.P.repr_of_str (by have := fin s.toks; rw [PyData.shown_str] at this; exact this) (by rw [PyData.shown_str] at hsz; exact hsz)
  | list a1 a2 a3 a4 => exact repr_of_reads' (.list a1 a2 a3 a4) h2 (PyData.noDict_hsm (PyData.hasDict_of_canLay _ h1)) fx.hg (by omega) (fun _ _ e => e) (fun h' u tk hk => ⟨.str _, H, I.kept hk, ⟨u, rfl⟩, q⟩) hsz
  | tuple a1 a2 a3 a4 => exact repr_of_reads' (.tuple a1 a2 a3 a4) h2 (PyData.noDict_hsm (PyData.hasDict_of_canLay _ h1)) fx.hg (by omega) (fun _ _ e => e) (fun h' u tk hk => ⟨.str _, H, I.kept hk, ⟨u, rfl⟩, q⟩) hsz
  | dict a1 a2 a3 a4 a5 => simp [PyData.canLay0] at h1
def Blt.plain : Blt → Bool
  | .isi _ => false
  | .dictP => false
  | _ => true
theorem call_all (fx : Fit X) (b : Blt) (hb : b.plain = true) : CallR X b.val (rCallU X.K b) := by
  intro pins s σ H vs us Q I r h
  obtain ⟨as, st, ds, rel, rd, g⟩ := h
  have hc := fx.hc
  unfold bltD at g
  split at g
  · obtain ⟨v, rfl, a, ws, rfl, h1, h2⟩ := rvs_one rd
    refine call_len_seq pins s σ H _ us Q I r ⟨a, ws, rfl, .inr h1, ?_⟩
    rw [← h2.length]; exact g.here rel _ rfl
  · obtain ⟨v, rfl, a, ws, rfl, h1, h2⟩ := rvs_one rd
    refine call_len_seq pins s σ H _ us Q I r ⟨a, ws, rfl, .inl h1.l, ?_⟩
    rw [← h2.length]; exact g.here rel _ rfl
  · obtain ⟨v, rfl, rv⟩ := rvs_one rd
    have rv : v = _ := rv; subst rv
    split at g
    · rename_i hl; exact call_len_str pins s σ H _ us Q I r ⟨_, rfl, hl, g.here rel _ rfl⟩
    · exact g.elim
  · obtain ⟨v, rfl, rv⟩ := rvs_one rd
    split at g
    · rename_i e
      obtain ⟨a, rfl, _, hro⟩ := rel.of_ref e rv
      obtain ⟨ws, h1, h2⟩ := ro_seq hro rfl
      refine call_len_seq pins s σ H _ us Q I r ⟨a, ws, rfl, .inl h1, ?_⟩
      rw [← h2.length]; exact g.here rel _ rfl
    · exact g.elim
  · obtain ⟨v, rfl, rv⟩ := rvs_one rd
    have rv : v = _ := rv; subst rv
    exact call_abs pins s σ H _ us Q I r ⟨_, rfl, g.here rel _ rfl⟩
  · obtain ⟨v, rfl, rv⟩ := rvs_one rd
    have rv : v = _ := rv; subst rv
    exact call_int1 pins s σ H _ us Q I r (.inl ⟨_, rfl, g.here rel _ rfl⟩)
  · obtain ⟨v, rfl, rv⟩ := rvs_one rd
    have rv : v = _ := rv; subst rv
    exact call_int1 pins s σ H _ us Q I r (.inr ⟨_, rfl, g.here rel _ rfl⟩)
  · obtain ⟨v, rfl, a, ws, rfl, h1, h2⟩ := rvs_one rd
    exact call_tuple_of pins s σ H _ us Q I r ⟨a, ws, rfl, .inr ⟨h1, g.here rel _ ⟨a, ws, rfl, h1, h2⟩⟩⟩
  · obtain ⟨v, rfl, a, ws, rfl, h1, h2⟩ := rvs_one rd
    exact call_tuple_of pins s σ H _ us Q I r ⟨a, ws, rfl, .inl ⟨h1.l, g.newT rel h2⟩⟩
  · obtain ⟨v, rfl, rv⟩ := rvs_one rd
    split at g
    · rename_i e
      obtain ⟨a, rfl, _, hro⟩ := rel.of_ref e rv
      obtain ⟨ws, h1, h2⟩ := ro_seq hro rfl
      exact call_tuple_of pins s σ H _ us Q I r ⟨a, ws, rfl, .inl ⟨h1, g.newT rel h2⟩⟩
    · exact g.elim
  · obtain ⟨v, rfl, a, ws, rfl, h1, h2⟩ := rvs_one rd
    exact call_list_of pins s σ H _ us Q I r ⟨a, ws, rfl, .inr h1, g.newL rel h2⟩
  · obtain ⟨v, rfl, a, ws, rfl, h1, h2⟩ := rvs_one rd
    exact call_list_of pins s σ H _ us Q I r ⟨a, ws, rfl, .inl h1.l, g.newL rel h2⟩
  · obtain ⟨v, rfl, rv⟩ := rvs_one rd
    split at g
    · rename_i e
      obtain ⟨a, rfl, _, hro⟩ := rel.of_ref e rv
      obtain ⟨ws, h1, h2⟩ := ro_seq hro rfl
      exact call_list_of pins s σ H _ us Q I r ⟨a, ws, rfl, .inl h1, g.newL rel h2⟩
    · exact g.elim
  · obtain ⟨v, u, rfl, rv, ru⟩ := rvs_two rd
    have rv : v = _ := rv; have ru : u = _ := ru; subst rv; subst ru
    exact call_min2 hc pins s σ H _ us Q I r ⟨_, _, rfl, g.here rel _ rfl⟩
  · obtain ⟨v, u, rfl, rv, ru⟩ := rvs_two rd
    have rv : v = _ := rv; have ru : u = _ := ru; subst rv; subst ru
    exact call_max2 hc pins s σ H _ us Q I r ⟨_, _, rfl, g.here rel _ rfl⟩
  · obtain ⟨v, rfl, rv⟩ := rvs_one rd
    obtain ⟨u, rfl, ru⟩ := r.one
    split at g
    · rename_i p e
      split at g
      · rename_i hk
        simp only [Bool.and_eq_true, decide_eq_true_eq] at hk
        exact repr_run fx I ru rel rv e hk.1 hk.2.1 hk.2.2 (g.here rel _ rfl)
      · exact g.elim
    · exact g.elim
  · obtain ⟨v, rfl, rv⟩ := rvs_one rd
    have rv : v = _ := rv; subst rv
    split at g
    · rename_i hl; exact call_str_int pins s σ H _ us Q I r ⟨_, rfl, of_decide_eq_true hl, g.here rel _ rfl⟩
    · exact g.elim
  · cases hb
  · exact g.elim

/-! ### methods of lists -/
def Mt.id : Mt → String
  | .append => "list.append" | .pop0 => "list.pop" | .popAt => "list.pop" | .insert => "list.insert" | .extend => "list.extend"
def rMtU (K : PySem.W.Frag) (m : Mt) : V → List V → Hp → VK → Prop := fun v vs H Q => ∃ as st o ds, Rel K as st H ∧ RV K as H o v ∧ RVs K as H ds vs ∧ GE K Q as H (methD m o ds st)
theorem mt_all (m : Mt) : MtR X m.id (rMtU X.K m) := by
  intro pins s σ H v vs vv us Q I rv rvs h
  obtain ⟨as, st, o, ds, rel, ro, rd, g⟩ := h
  unfold methD at g
  split at g
  · rename_i n
    split at g
    · rename_i xs e
      obtain ⟨a, ws, rfl, ha, h1, h2⟩ := lst_of rel e ro
      have wr : ∀ (ys : List D) (zs : List V) (d : D) (w : V), RVs X.K as H ys zs → RV X.K as H d w → GE X.K Q as H (.ok d (st.set n (.lst ys))) → Q w (upd H a (.lst zs)) := fun ys zs d w r1 r2 g => by
        have hw := rel.write (o' := .lst ys) (ho := .lst zs) e ha rfl rfl fun ex => ⟨_, upd_same, RVs.mono ex _ _ r1⟩
        exact g _ _ hw.2 hw.1 _ (RV.mono hw.2 _ _ r2)
      split at g
      · obtain ⟨y, rfl, ry⟩ := rvs_one rd
        split at g
        · rename_i hl
          exact mt_append pins s σ H _ _ _ _ Q I rv rvs ⟨a, ws, y, rfl, rfl, h1, by rw [← h2.length]; exact hl, wr _ _ .non _ (h2.append (RVs.one ry)) rfl g⟩
        · exact g.elim
      · have rd : vs = [] := rd
        subst rd
        split at g
        · rename_i d hd
          obtain ⟨w, e1, e2⟩ := h2.get hd
          exact mt_pop pins s σ H _ _ _ _ Q I rv rvs ⟨a, ws, w, rfl, rfl, h1, by rw [← h2.length]; exact e1, wr _ _ _ _ h2.dropLast e2 g⟩
        · exact g.elim
      · obtain ⟨y, rfl, ry⟩ := rvs_one rd
        have ry : y = _ := ry; subst ry
        split at g
        · rename_i hb
          simp only [Bool.and_eq_true, decide_eq_true_eq] at hb
          split at g
          · rename_i k hk
            split at g
            · rename_i d hd
              obtain ⟨w, e1, e2⟩ := h2.get hd
              exact mt_popAt pins s σ H _ _ _ _ Q I rv rvs ⟨a, ws, _, k, w, rfl, rfl, h1, hb.1, hb.2, by rw [← h2.length]; exact hk, e1, wr _ _ _ _ (h2.eraseIdx k) e2 g⟩
            · exact g.elim
          · exact g.elim
        · exact g.elim
      · obtain ⟨y, u, rfl, ry, ru⟩ := rvs_two rd
        have ry : y = _ := ry; subst ry
        split at g
        · rename_i hb
          simp only [Bool.and_eq_true, decide_eq_true_eq] at hb
          exact mt_insert pins s σ H _ _ _ _ Q I rv rvs ⟨a, ws, _, u, rfl, rfl, h1, by rw [← h2.length]; exact hb.1, hb.2.1, hb.2.2, wr _ _ .non _ (((h2.take _).append (RVs.one ru)).append (h2.drop _)) rfl g⟩
        · exact g.elim
      · obtain ⟨y, rfl, ry⟩ := rvs_one rd
        split at g
        · rename_i ys e2
          obtain ⟨b, zs, rfl, _, h3, h4⟩ := lst_of rel e2 ry
          split at g
          · rename_i hl
            exact mt_extend pins s σ H _ _ _ _ Q I rv rvs ⟨a, b, ws, zs, rfl, rfl, h1, h3, by rw [← h2.length, ← h4.length]; exact hl, wr _ _ .non _ (h2.append h4) rfl g⟩
          · exact g.elim
        · exact g.elim
      · exact g.elim
    · exact g.elim
  · exact g.elim
end
end PL

set_option Elab.async false
set_option linter.all false
set_option maxRecDepth 100000
set_option maxHeartbeats 1000000
/-! PLI: what for and comprehensions walk: lists and tuples, numbered ones, two beside one another, in any mix. -/
namespace PL
open PySem PySem.Spec PyProof.Rows L2

/-- a list, a tuple -/
inductive Sk where | L | T
def SqK (k : Sk) (K : PySem.W.Frag) (H : Hp) (a : Addr) (xs : List V) : Prop := match k with
  | .L => SqL K H a xs
  | .T => SqT K H a xs
def SeqIs (k : Sk) (h : Heap) (a : Addr) (items : Array Value) : Prop := match k with
  | .L => h.IsList a items
  | .T => h.IsTuple a items
def ItIs (k : Sk) (h : Heap) (it a : Addr) (i : Nat) : Prop := match k with
  | .L => h.IsListIter it a i
  | .T => h.IsTupleIter it a i
def itObj (k : Sk) (a : Addr) : Obj := match k with
  | .L => { cls := .type "list_iterator", data := .fields #[.ref a, .int 0 0] }
  | .T => { cls := .type "tuple_iterator", data := .fields #[.ref a, .int 0 0] }
section
variable {X : Cx} {pins : List (Addr × Obj)} {σ : L2.St} {H : Hp} {s : Shared} {a : Addr} {xs ys : List V} {k : Sk}
theorem inv_seq (I : Inv X pins σ H s) (h : SqK k X.K H a xs) : ∃ its : List Value, Vals xs its ∧ SeqIs k s.heap a its.toArray ∧ xs.length ≤ sizeLine ∧ a < s.heap.objs.size := by
  cases k with
  | L =>
    obtain ⟨its, r, p, hz⟩ := I.list h
    exact ⟨its, r, p.isList, hz, p.lt⟩
  | T =>
    obtain ⟨its, r, p, hz⟩ := I.tuple h
    exact ⟨its, r, p, hz, p.lt⟩
theorem inv_inj (I : Inv X pins σ H s) (h : SqK k X.K H a xs) (h' : SqK k X.K H a ys) : xs = ys := by
  cases k with
  | L => exact I.list_inj h h'
  | T => exact I.tuple_inj h h'
end
theorem itIs_new (k : Sk) (h : Heap) (it a : Addr) (e : h.get? it = some (itObj k a)) : ItIs k h it a 0 := by
  cases k with
  | L => exact ⟨_, e, rfl, rfl⟩
  | T => exact ⟨_, e, rfl, rfl⟩
theorem itIs_at {k : Sk} {h h' : Heap} {it a : Addr} {i : Nat} (x : ItIs k h it a i) (e : ∀ o, h.get? it = some o → h'.get? it = some o) : ItIs k h' it a i := by
  cases k with
  | L => exact Heap.IsListIter.at x e
  | T => exact Heap.IsTupleIter.at x e
theorem itIs_obj {k : Sk} {h : Heap} {it a : Addr} {i : Nat} (x : ItIs k h it a i) : ∃ o, h.get? it = some o ∧ ∀ v, o.data ≠ .cell v := by
  cases k with
  | L => obtain ⟨o, e, c, d⟩ := x; exact ⟨o, e, fun v z => by rw [d] at z; cases z⟩
  | T => obtain ⟨o, e, c, d⟩ := x; exact ⟨o, e, fun v z => by rw [d] at z; cases z⟩
theorem begins_seq (k : Sk) (a : Addr) (items : Array Value) : Begins (.ref a) (itObj k a) fun h => SeqIs k h a items := by
  cases k with
  | L => exact begins_list a items
  | T => exact begins_tuple a items
theorem draws_seq (k : Sk) {prog : Program} {w : World} {A : Around} (hh : A.handled = none) (it a : Addr) (hne : a ≠ it) (items : Array Value) :
    Draws prog w A it [it, a] items.size (fun i v => items[i]? = some v) (fun i h => ItIs k h it a i ∧ SeqIs k h a items) := by
  cases k with
  | L => exact Draws.list hh it a hne items
  | T => exact Draws.tuple hh it a hne items
theorem seqIs_at {k : Sk} {h h' : Heap} {a : Addr} {items : Array Value} (x : SeqIs k h a items) (e : ∀ o, h.get? a = some o → h'.get? a = some o) : SeqIs k h' a items := by
  cases k with
  | L => exact Heap.IsList.at x e
  | T => exact Heap.IsTuple.at x e

/-! ### enumerate -/
def IteK (k : Sk) (K : PySem.W.Frag) (a : Addr) : It :=
  ⟨fun i H => ∃ (xs : List V) (x : V), SqK k K H a xs ∧ xs[i]? = some x, fun i H v H' => ∃ T x, v = .ref T ∧ H T = none ∧ H' = upd H T (.tup [.int (i : Nat), x]) ∧ ∀ xs, SqK k K H a xs → xs[i]? = some x,
    fun i H => ∃ xs : List V, SqK k K H a xs ∧ xs.length = i⟩
theorem turn_enumK {P : Program} {w : World} {K : PySem.W.Frag} {elts : List Expr} {kk : Nat} {tpos : Pos} (k : Sk) (a e it : Addr) :
    Turn P w K (.Tuple elts kk tpos) (IteK k K a) [e, it] e (fun i h => (∃ old, IsEnum h e it ((i : Nat) : Int) old) ∧ ItIs k h it a i ∧ e ≠ it ∧ a ≠ it ∧ a ≠ e) where
  mem := by simp
  obj := fun i h st b hb => by
    obtain ⟨⟨old, he⟩, hi, _⟩ := st
    have e' : b = e ∨ b = it := by simpa using hb
    rcases e' with z | z
    · rw [z]; exact ⟨_, he, fun v q => nomatch q⟩
    · rw [z]; exact itIs_obj hi
  keep := fun i h h' st kp => let ⟨⟨old, he⟩, hi, hne⟩ := st; ⟨⟨old, kp e (by simp) _ he⟩, itIs_at hi fun o q => kp it (by simp) o q, hne⟩
  item := by
    intro X hP hw hK hc i pins s σ H E I hf st hg
    subst hP hw hK
    obtain ⟨⟨old, he⟩, hit, hne, ha1, ha2⟩ := st
    obtain ⟨xs, x, hq, hx⟩ := hg
    obtain ⟨its, rv, p, hz, hal⟩ := inv_seq I hq
    obtain ⟨u, hu, ru⟩ := rv.get hx
    have hel : e < s.heap.objs.size := Heap.lt_size he
    have hil : it < s.heap.objs.size := by obtain ⟨o, q, _⟩ := itIs_obj hit; exact Heap.lt_size q
    have hi : i < its.toArray.size := by
      have := (List.getElem?_eq_some_iff.mp hu).1; simpa using this
    have W := GoesN.enumFrom (prog := X.prog) (w := X.w) (A := X.A) (elts := elts) (x1 := kk) (pos := tpos) 0 (draws_seq k (A := X.A.in1) (I.ok.hd hc) it a ha1 its.toArray) e hne (by simp [hne, Ne.symm ha2]) (by simp)
    refine W.goes i s _ E hi ⟨⟨old, by simpa using he⟩, hit, p⟩ fun v h' tk hY hst hk htk => ?_
    obtain ⟨T, t, y, rfl, hTn, hPy, hT⟩ := hY
    obtain ⟨⟨old', he'⟩, hit', p'⟩ := hst
    have hyu : y = u := by
      have h2 : its.toArray[i]? = some u := by simpa using hu
      rw [h2] at hPy; exact (Option.some.inj hPy).symm
    subst hyu
    have new : ObjOk X.prog X.w (upd H T (.tup [.int (i : Nat), x])) h' T (.tup [.int (i : Nat), x]) := by
      refine ⟨by show 2 ≤ sizeLine; decide, [.int (0 + (i : Int)) t, y], .cons ⟨_, by rw [Int.zero_add]⟩ (.cons ru .nil), ?_⟩
      obtain ⟨o, e1, e2, n, e3⟩ := hT
      exact ⟨o, e1, e2, n, e3⟩
    have I1 : Inv X pins σ (upd H T (.tup [.int (i : Nat), x])) { s with heap := h', toks := tk } :=
      I.turnedNew (ch := [e, it]) (fun b ob hb q => hk b ob hb q) hf hTn new
    refine ⟨.ref T, _, I1, rfl, ⟨T, x, rfl, I.hok.fresh hTn, rfl, fun ys hy => by rw [inv_inj I hy hq]; exact hx⟩, ⟨⟨old', ?_⟩, hit', hne, ha1, ha2⟩, fun b hb => ?_⟩
    · have e1 : (0 : Int) + ((i + 1 : Nat) : Int) = ((i + 1 : Nat) : Int) := by omega
      rw [← e1]; exact he'
    · have hb' : b < s.heap.objs.size := by
        have e' : b = e ∨ b = it := by simpa using hb
        rcases e' with z | z
        · rw [z]; exact hel
        · rw [z]; exact hil
      rw [upd_ne (Nat.ne_of_lt (Nat.lt_of_lt_of_le hb' hTn))]
      exact (hf b hb).1
  done := by
    intro X hP hw hK hc i pins s σ H E I hf st hg
    subst hP hw hK
    obtain ⟨⟨old, he⟩, hit, hne, ha1, ha2⟩ := st
    obtain ⟨xs, hq, hx⟩ := hg
    obtain ⟨its, rv, p, hz, hal⟩ := inv_seq I hq
    have hl := rv.length
    have hn : its.toArray.size = i := by simp; omega
    have W := GoesN.enumFrom (prog := X.prog) (w := X.w) (A := X.A) (elts := elts) (x1 := kk) (pos := tpos) 0 (draws_seq k (A := X.A.in1) (I.ok.hd hc) it a ha1 its.toArray) e hne (by simp [hne, Ne.symm ha2]) (by simp)
    refine W.stops s _ E ⟨⟨old, by rw [hn]; simpa using he⟩, by rw [hn]; exact hit, p⟩ fun h' tk hk htk => ?_
    exact I.turnedL (ch := [e, it]) (fun b o hb q => hk b o hb q) hf
  self := fun A i s Q E st h => let ⟨⟨_, he⟩, _⟩ := st; wpAny_pyIter_enum he h
theorem meets_enumerate_newB1 {v : Value} {o : Obj} {H : Heap → Prop} (B : Begins v o H) :
    Meets (Builtin.«enumerate.__new__» ⟨[.type "enumerate", v], []⟩) (fun _ R s => H s.heap ∧
      R (.ok (.ret (.ref (s.heap.push o).objs.size))) { s with heap := (s.heap.push o).push { cls := .type "enumerate", data := .fields #[.none, .bool false, .ref s.heap.objs.size, rawInt 0, .none, .none] } }) :=
  .of_wp fun prog w A R s h => by
    obtain ⟨hp, g, d, tk, os⟩ := s; obtain ⟨h1, h⟩ := h
    have hsub := sub_enumerate
    have q1 : ∀ {A' : Around} {E : Value → Shared → Prop} {Q : Value → Shared → Prop}, Q (.ref hp.objs.size) ⟨hp.push o, g, d, tk, os⟩ → wpAny (model prog w) A' (pyIter v) Q E ⟨hp, g, d, tk, os⟩ :=
      fun q => B.iter prog w _ _ ⟨hp, g, d, tk, os⟩ _ h1 q
    wp_walk using q1
    refine wpAny_stack_any fun st => wpAny_pure ?_
    split
    · rename_i c _ _ _ _ _
      cases (c == Value.type "enumerate")
      · wp_walk using q1
        exact ⟨_, rfl, h⟩
      · wp_walk using q1
        exact ⟨_, rfl, h⟩
    · wp_walk using q1
      exact ⟨_, rfl, h⟩

section
variable {prog : Program} {w : World} {A : Around} {E : Value → Shared → Prop} {s : Shared}
/-- enumerate(v): its two new cells -/
theorem enum_begins1 {v : Value} {o : Obj} {H : Heap → Prop} {Q : Value → Shared → Prop} (B : Begins v o H) (h1 : H s.heap)
    (h : ∀ h', IsEnum h' (s.heap.objs.size + 1) s.heap.objs.size 0 .none → h'.get? s.heap.objs.size = some o → h'.objs.size = s.heap.objs.size + 2 →
      (∀ b o, s.heap.get? b = some o → h'.get? b = some o) → Q (.ref (s.heap.objs.size + 1)) { s with heap := h' }) :
    wpAny (model prog w) A (call (.type "enumerate") [v]) Q E s := by
  refine callType_new F.called_enumerate (by decide) (F.typeCall_enumerate_1 _) (F.newCall_enumerate_1 _) (fun obj => F.args_object_init_2 obj _) F.entry_enumerate_new
    (meets_enumerate_newB1 B) ⟨h1, ?_⟩
  have hz : (s.heap.push o).objs.size = s.heap.objs.size + 1 := Heap.size_push ..
  show _ ∧ _
  rw [hz]
  have he : IsEnum ((s.heap.push o).push { cls := .type "enumerate", data := .fields #[.none, .bool false, .ref s.heap.objs.size, rawInt 0, .none, .none] }) (s.heap.objs.size + 1) s.heap.objs.size 0 .none := by
    have := Heap.get?_push_size (s.heap.push o) (o := { cls := .type "enumerate", data := .fields #[.none, .bool false, .ref s.heap.objs.size, rawInt 0, .none, .none] }) rfl
    rw [hz] at this; exact this
  refine ⟨⟨_, he, rfl⟩, h _ he (Heap.get?_push_of_some _ (Heap.get?_push_size _ B.free)) (by rw [Heap.size_push, hz]) fun b o x => Heap.get?_push_of_some _ (Heap.get?_push_of_some _ x)⟩
end
def iEnumK (K : PySem.W.Frag) (ta : TA) : TI := fun σ H R => ta σ H fun vs H1 => ∃ k a xs, vs = [.ref a] ∧ SqK k K H1 a xs ∧ R (IteK k K a) H1
theorem pi_enumK {X : Cx} {e : Expr} {ta : TA} {p pos tpos : Pos} {elts : List Expr} {kk : Nat} (hg : Gl X "enumerate") (hm : X.mg "enumerate" = none) (ha : PA X [e] ta) (hs : starEach [e] X.env = [(false, eval e X.env)]) :
    PI X (.Tuple elts kk tpos) (.Call (.Name "enumerate" p) [e] [] pos) (iEnumK X.K ta) := by
  refine ⟨fun pins s σ H R I h => ?_⟩
  refine Call_ (ld_blt I hg hm boot_enumerate (PyProof.Rows.callWith_type1 (thn (ha.run pos pins s σ H _ I h) fun us s1 ⟨vs, H1, I1, r1, q1⟩ => ?_) hs rfl))
  obtain ⟨k, a, xs, ex, hq, q⟩ := q1
  subst ex
  cases r1 with
  | cons r rr =>
    cases rr
    cases r
    obtain ⟨its, rv, p', hz, hal⟩ := inv_seq I1 hq
    refine enum_begins1 (begins_seq k a its.toArray) p' fun h' he hit hsz hk => wpAny_pyIter_enum he ?_
    have I2 : Inv X pins σ H1 { s1 with heap := h' } := I1.kept (t' := s1.toks) hk
    refine ⟨s1.heap.objs.size + 1, [s1.heap.objs.size + 1, s1.heap.objs.size], _, _, H1, rfl, I2, turn_enumK k a (s1.heap.objs.size + 1) s1.heap.objs.size,
      ⟨⟨.none, he⟩, itIs_new k _ _ _ hit, Nat.succ_ne_self _, Nat.ne_of_lt hal, Nat.ne_of_lt (Nat.lt_succ_of_lt hal)⟩, fun b hb => ?_, q⟩
    have e' : b = s1.heap.objs.size + 1 ∨ b = s1.heap.objs.size := by simpa using hb
    have hle : s1.heap.objs.size ≤ b := by
      rcases e' with z | z
      · rw [z]; exact Nat.le_add_right _ _
      · rw [z]; exact Nat.le_refl _
    exact I1.fpOk hle (I1.hok.fresh hle)

/-! ### zip of two -/
def ItzK (k k' : Sk) (K : PySem.W.Frag) (a b : Addr) : It :=
  ⟨fun i H => ∃ (xs ys : List V) (x y : V), SqK k K H a xs ∧ SqK k' K H b ys ∧ xs[i]? = some x ∧ ys[i]? = some y,
    fun i H v H' => ∃ T x y, v = .ref T ∧ H T = none ∧ H' = upd H T (.tup [x, y]) ∧ (∀ xs, SqK k K H a xs → xs[i]? = some x) ∧ ∀ ys, SqK k' K H b ys → ys[i]? = some y,
    fun i H => ∃ xs ys : List V, SqK k K H a xs ∧ SqK k' K H b ys ∧ i = min xs.length ys.length⟩
/-- how the cells of a zip lie -/
structure ZApart (z TI TO i1 i2 a b : Addr) : Prop where
  TIz : TI ≠ z
  TOz : TO ≠ z
  TITO : TI ≠ TO
  TIi1 : TI ≠ i1
  TIi2 : TI ≠ i2
  zi1 : z ≠ i1
  zi2 : z ≠ i2
  TOi1 : TO ≠ i1
  TOi2 : TO ≠ i2
  i12 : i1 ≠ i2
  az : a ≠ z
  aTO : a ≠ TO
  ai1 : a ≠ i1
  ai2 : a ≠ i2
  bz : b ≠ z
  bTO : b ≠ TO
  bi1 : b ≠ i1
  bi2 : b ≠ i2
theorem zapart_new (N a b : Nat) (ha : a < N) (hb : b < N) : ZApart (N + 4) (N + 2) (N + 3) N (N + 1) a b := by
  have ne : ∀ {x y : Nat}, x ≠ y → (x : Addr) ≠ (y : Addr) := fun h => h
  constructor <;> (apply ne; omega)
theorem ZApart.sep {z TI TO i1 i2 a b : Addr} (D : ZApart z TI TO i1 i2 a b) : ZipSep2 z TI TO i1 i2 [i1, a] [i2, b] :=
  ⟨D.TIz, D.TOz, D.TITO, D.TIi1, by simp, by simp [D.zi1, Ne.symm D.az], by simp [D.TOi1, Ne.symm D.aTO], D.TIi2, by simp, by simp [D.zi2, Ne.symm D.bz], by simp [D.TOi2, Ne.symm D.bTO],
    by simp [D.i12, Ne.symm D.bi1], by simp [Ne.symm D.i12, Ne.symm D.ai2]⟩
theorem turn_zipK {P : Program} {w : World} {K : PySem.W.Frag} {elts : List Expr} {kk : Nat} {tpos : Pos} (k k' : Sk) {a b z TI TO i1 i2 : Addr} (D : ZApart z TI TO i1 i2 a b) :
    Turn P w K (.Tuple elts kk tpos) (ItzK k k' K a b) [z, TI, TO, i1, i2] z (fun i h => IsZip h z TI TO .none ∧ IsTupOf2 h TI (.ref i1) (.ref i2) ∧ (∃ x y, IsTupOf2 h TO x y) ∧ ItIs k h i1 a i ∧ ItIs k' h i2 b i) where
  mem := by simp
  obj := fun i h st c hc => by
    obtain ⟨hz, hTI, ⟨x, y, hTO⟩, h1, h2⟩ := st
    have e' : c = z ∨ c = TI ∨ c = TO ∨ c = i1 ∨ c = i2 := by simpa using hc
    rcases e' with q | q | q | q | q
    · rw [q]; exact ⟨_, hz, fun v q => nomatch q⟩
    · rw [q]; exact ⟨_, hTI, fun v q => nomatch q⟩
    · rw [q]; exact ⟨_, hTO, fun v q => nomatch q⟩
    · rw [q]; exact itIs_obj h1
    · rw [q]; exact itIs_obj h2
  keep := fun i h h' st kp => by
    obtain ⟨hz, hTI, ⟨x, y, hTO⟩, h1, h2⟩ := st
    exact ⟨kp z (by simp) _ hz, kp TI (by simp) _ hTI, ⟨x, y, kp TO (by simp) _ hTO⟩, itIs_at h1 fun o q => kp i1 (by simp) o q, itIs_at h2 fun o q => kp i2 (by simp) o q⟩
  item := by
    intro X hP hw hK hc i pins s σ H E I hf st hg
    subst hP hw hK
    obtain ⟨hz, hTI, hTO, h1, h2⟩ := st
    obtain ⟨xs, ys, x, y, hqx, hqy, hx, hy⟩ := hg
    obtain ⟨its, rv, p, _, hal⟩ := inv_seq I hqx
    obtain ⟨its2, rv2, p2, _, hbl⟩ := inv_seq I hqy
    obtain ⟨u, hu, ru⟩ := rv.get hx
    obtain ⟨u2, hu2, ru2⟩ := rv2.get hy
    have hi : i < min its.toArray.size its2.toArray.size := by
      have q1 := (List.getElem?_eq_some_iff.mp hu).1
      have q2 := (List.getElem?_eq_some_iff.mp hu2).1
      simp only [List.size_toArray]; omega
    have old : ∀ c ∈ [z, TI, TO, i1, i2], c < s.heap.objs.size := fun c hc => by
      have e' : c = z ∨ c = TI ∨ c = TO ∨ c = i1 ∨ c = i2 := by simpa using hc
      obtain ⟨x0, y0, hTO'⟩ := hTO
      rcases e' with q | q | q | q | q
      · rw [q]; exact Heap.lt_size hz
      · rw [q]; exact Heap.lt_size hTI
      · rw [q]; exact Heap.lt_size hTO'
      · rw [q]; obtain ⟨_, e1, _⟩ := itIs_obj h1; exact Heap.lt_size e1
      · rw [q]; obtain ⟨_, e1, _⟩ := itIs_obj h2; exact Heap.lt_size e1
    have W := GoesN.zip2 (prog := X.prog) (w := X.w) (A := X.A) (elts := elts) (x1 := kk) (pos := tpos) D.sep (draws_seq k (A := X.A.in1) (I.ok.hd hc) i1 a D.ai1 its.toArray) (draws_seq k' (A := X.A.in1) (I.ok.hd hc) i2 b D.bi2 its2.toArray)
    refine W.goes i s _ E hi ⟨hz, hTI, hTO, ⟨h1, p⟩, ⟨h2, p2⟩⟩ fun v h' tk hY hst hk htk => ?_
    obtain ⟨T, u', u2', rfl, hTn, hP1, hP2, hT⟩ := hY
    obtain ⟨hz', hTI', hTO', ⟨h1', _⟩, ⟨h2', _⟩⟩ := hst
    have e1 : u' = u := by
      have q : its.toArray[i]? = some u := by simpa using hu
      rw [q] at hP1; exact (Option.some.inj hP1).symm
    have e2 : u2' = u2 := by
      have q : its2.toArray[i]? = some u2 := by simpa using hu2
      rw [q] at hP2; exact (Option.some.inj hP2).symm
    subst e1 e2
    have new : ObjOk X.prog X.w (upd H T (.tup [x, y])) h' T (.tup [x, y]) := by
      refine ⟨by show 2 ≤ sizeLine; decide, [u', u2'], .cons ru (.cons ru2 .nil), ?_⟩
      obtain ⟨o, e1, e2, n, e3⟩ := hT
      exact ⟨o, e1, e2, n, e3⟩
    have I1 : Inv X pins σ (upd H T (.tup [x, y])) { s with heap := h', toks := tk } :=
      I.turnedNew (ch := [z, TO, i1, i2]) (fun c ob hb q => hk c ob hb q) (fun c hc => hf c (by
        have e' : c = z ∨ c = TO ∨ c = i1 ∨ c = i2 := by simpa using hc
        rcases e' with q | q | q | q <;> simp [q])) hTn new
    refine ⟨.ref T, _, I1, rfl, ⟨T, x, y, rfl, I.hok.fresh hTn, rfl, fun l hl => by rw [inv_inj I hl hqx]; exact hx, fun l hl => by rw [inv_inj I hl hqy]; exact hy⟩, ⟨hz', hTI', hTO', h1', h2'⟩, fun c hcm => ?_⟩
    rw [upd_ne (Nat.ne_of_lt (Nat.lt_of_lt_of_le (old c hcm) hTn))]
    exact (hf c hcm).1
  done := by
    intro X hP hw hK hc i pins s σ H E I hf st hg
    subst hP hw hK
    obtain ⟨hz, hTI, hTO, h1, h2⟩ := st
    obtain ⟨xs, ys, hqx, hqy, hend⟩ := hg
    obtain ⟨its, rv, p, _, hal⟩ := inv_seq I hqx
    obtain ⟨its2, rv2, p2, _, hbl⟩ := inv_seq I hqy
    have l1 := rv.length
    have l2 := rv2.length
    have hn : min its.toArray.size its2.toArray.size = i := by simp only [List.size_toArray]; omega
    have W := GoesN.zip2 (prog := X.prog) (w := X.w) (A := X.A) (elts := elts) (x1 := kk) (pos := tpos) D.sep (draws_seq k (A := X.A.in1) (I.ok.hd hc) i1 a D.ai1 its.toArray) (draws_seq k' (A := X.A.in1) (I.ok.hd hc) i2 b D.bi2 its2.toArray)
    refine W.stops s _ E ⟨hz, hTI, hTO, ⟨by rw [hn]; exact h1, p⟩, ⟨by rw [hn]; exact h2, p2⟩⟩ fun h' tk hk htk => ?_
    exact I.turnedL (ch := [z, TO, i1, i2]) (fun c ob hb q => hk c ob hb q) (fun c hc => hf c (by
        have e' : c = z ∨ c = TO ∨ c = i1 ∨ c = i2 := by simpa using hc
        rcases e' with q | q | q | q <;> simp [q]))
  self := fun A i s Q E st h => wpAny_pyIter_zip st.1 h
def iZipK (K : PySem.W.Frag) (ta : TA) : TI := fun σ H R => ta σ H fun vs H1 => ∃ k k' a b xs ys, vs = [.ref a, .ref b] ∧ SqK k K H1 a xs ∧ SqK k' K H1 b ys ∧ R (ItzK k k' K a b) H1
theorem pi_zipK {X : Cx} {e e2 : Expr} {ta : TA} {p pos tpos : Pos} {elts : List Expr} {kk : Nat} (hg : Gl X "zip") (hm : X.mg "zip" = none) (ha : PA X [e, e2] ta)
    (hs : starEach [e, e2] X.env = (false, eval e X.env) :: starEach [e2] X.env) (hpl : (backTo pos (starEach [e2] X.env)).any (·.1) = false) :
    PI X (.Tuple elts kk tpos) (.Call (.Name "zip" p) [e, e2] [] pos) (iZipK X.K ta) := by
  refine ⟨fun pins s σ H R I h => ?_⟩
  refine Call_ (ld_blt I hg hm PyProof.Rows.boot_zip (PyProof.Rows.callWith_type1 (thn (ha.run pos pins s σ H _ I h) fun us s1 ⟨vs, H1, I1, r1, q1⟩ => ?_) hs hpl))
  obtain ⟨k, k', a, b, xs, ys, ex, hqx, hqy, q⟩ := q1
  subst ex
  cases r1 with
  | cons r rr =>
    cases rr with
    | cons r' rr =>
      cases rr
      cases r
      cases r'
      obtain ⟨its, rv, p1, _, hal⟩ := inv_seq I1 hqx
      obtain ⟨its2, rv2, p2, _, hbl⟩ := inv_seq I1 hqy
      refine zip_begins2 (begins_seq k a its.toArray) (begins_seq k' b its2.toArray) p1 p2 fun h' hz hTI hTO h1 h2 hsz hk => wpAny_pyIter_zip hz ?_
      have I2 : Inv X pins σ H1 { s1 with heap := h' } := I1.kept (t' := s1.toks) hk
      have D : ZApart (s1.heap.objs.size + 4) (s1.heap.objs.size + 2) (s1.heap.objs.size + 3) s1.heap.objs.size (s1.heap.objs.size + 1) a b := zapart_new _ _ _ hal hbl
      refine ⟨s1.heap.objs.size + 4, [s1.heap.objs.size + 4, s1.heap.objs.size + 2, s1.heap.objs.size + 3, s1.heap.objs.size, s1.heap.objs.size + 1], _, _, H1, rfl, I2, turn_zipK k k' D,
        ⟨hz, hTI, ⟨_, _, hTO⟩, itIs_new k _ _ _ h1, itIs_new k' _ _ _ h2⟩, fun c hcm => ?_, q⟩
      have e' : c = s1.heap.objs.size + 4 ∨ c = s1.heap.objs.size + 2 ∨ c = s1.heap.objs.size + 3 ∨ c = s1.heap.objs.size ∨ c = s1.heap.objs.size + 1 := by simpa using hcm
      have hle : s1.heap.objs.size ≤ c := by
        rcases e' with z | z | z | z | z
        · rw [z]; exact Nat.le_add_right _ _
        · rw [z]; exact Nat.le_add_right _ _
        · rw [z]; exact Nat.le_add_right _ _
        · rw [z]; exact Nat.le_refl _
        · rw [z]; exact Nat.le_add_right _ _
      exact I1.fpOk hle (I1.hok.fresh hle)

/-! ### a list, a tuple, a text -/
def iPlain (K : PySem.W.Frag) (tl : TE) : TI := fun σ H R => tl σ H fun x H1 => (∃ k a xs, x = .ref a ∧ SqK k K H1 a xs ∧ R (match k with | .L => Itl K a | .T => Itt K a) H1) ∨ ∃ z, x = .str z ∧ R (Its z) H1
theorem pi_plain {X : Cx} {tg l : Expr} {tl : TE} (hl : L2.PE X l tl) : PI X tg l (iPlain X.K tl) := by
  refine ⟨fun pins s σ H R I h => ?_⟩
  have lift : ∀ {t' : TI}, PI X tg l t' → t' σ H R → wpAny (model X.prog X.w) X.A (eval l X.env) (fun v s1 => wpAny (model X.prog X.w) X.A (pyIter v) (PIE X pins σ tg R) X.xe s1) X.xe s := fun p q => p.run pins s σ H R I q
  refine thn (hl.run pins s σ H _ I h) fun v s1 ⟨x, H1, I1, r1, q1⟩ => ?_
  have here : L2.PE X l (fun _ _ _ => True) → True := fun _ => trivial
  rcases q1 with ⟨k, a, xs, rfl, hq, q⟩ | ⟨z, rfl, q⟩
  · cases r1
    cases k with
    | L =>
      obtain ⟨its, rv, p, _⟩ := I1.list hq
      refine wpAny_pyIter_list p.isList ?_
      exact pi_one I1 _ (turn_list a s1.heap.objs.size) ⟨_, Heap.get?_push_size _ rfl, rfl, rfl⟩ q
    | T =>
      obtain ⟨its, rv, p, _⟩ := I1.tuple hq
      refine wpAny_pyIter_tuple (show s1.heap.IsTuple a its.toArray from p) ?_
      exact pi_one I1 _ (turn_tuple a s1.heap.objs.size) ⟨_, Heap.get?_push_size _ rfl, rfl, rfl⟩ q
  · obtain ⟨t, rfl⟩ := r1
    cases ha : z.cps.all (· < 128)
    · exact wpAny_pyIter_wide ha (pi_one I1 _ (turn_str s1.heap.objs.size z t "str_iterator" (.inr rfl)) ⟨_, Heap.get?_push_size _ rfl, rfl, rfl⟩ q)
    · exact wpAny_pyIter_ascii ha (pi_one I1 _ (turn_str s1.heap.objs.size z t "str_ascii_iterator" (.inl rfl)) ⟨_, Heap.get?_push_size _ rfl, rfl, rfl⟩ q)
end PL

set_option Elab.async false
set_option linter.all false
set_option maxRecDepth 100000
set_option maxHeartbeats 1000000
/-! PLE: calls of defs where no repr is under way, the shapes of the program's expressions, and the look that holds them against the small language. -/
namespace PL
open PySem PySem.Spec PyProof.Rows L2

/-! ### defs -/
structure FnOkG (P : Program) (w : World) (K : PySem.W.Frag) (mg : Str → Option Value) (base : Heap) (CX : CXT) (k : Nat) (f : Addr) (fd : FuncData) (ps : List Str) (sp : Sp) : Prop where
  len : ∀ vs H Q E, sp vs H Q E → vs.length = ps.length
  run : ∀ (A : Around) (outer : List PySem.Env) (s : Shared) (H : Hp) (args : Args) (us : List Value) (vs : List V) (Q : VK) (E : XK), A.guards = some [] → Room k A → Env0 P w K mg base A outer s H → BindsTo s fd args (ps.zip us) → Vals vs us → sp vs H Q E →
    codeAny (model P w) A (.call (.ref f) args) (CR CX outer P w H s Q E) s
section
variable {X : Cx} {CX : CXT} {k : Nat} {f : Addr} {fd : FuncData} {ps : List Str} {sp : Sp} {E : XK} {x : Str} {p pos : Pos} {e : Expr} {es : List Expr} {t : TA}
theorem run_fnG {pins : List (Addr × Obj)} {σ : L2.St} {H : Hp} {s : Shared} {Q : VK} {us ws : List Value} {kw : List (Str × Value)} {vs : List V} (F : FnOkG X.prog X.w X.K X.mg X.base CX k f fd ps sp) (hg : X.A.guards = some []) (hr : Room k X.A) (hx : Passes CX X E)
    (I : Inv X pins σ H s) (hb : BindsTo s fd ⟨us, kw⟩ (ps.zip ws)) (r : Vals vs ws) (h : sp vs H Q E) : wpAny (model X.prog X.w) X.A (call (.ref f) us kw) (EP X pins σ Q) X.xe s := by
  refine wpAny_call (codeAny_mono (F.run X.A X.stack s H ⟨us, kw⟩ ws vs Q E hg hr I.env0 hb r h) fun r s' hq => ?_)
  cases r with
  | error e => exact hx pins σ H s e s' I hq
  | ok fl =>
    cases fl with
    | ret u => exact I.after hq
    | next => exact False.elim hq
    | brk => exact False.elim hq
    | cont => exact False.elim hq
/-- how a def binds what is handed in -/
structure FnAt (X : Cx) (CX : CXT) (k : Nat) (x : Str) (ps : List Str) (kws : List (Nat × List Str × List Nat)) (sp : Sp) (f : Addr) (fd : FuncData) : Prop where
  mg : X.mg x = some (.ref f)
  keep : PySem.W.keepIn X.K (.ref f) = true
  bind : ∀ (s : Shared) (us : List Value), us.length = ps.length → BindsTo s fd ⟨us, []⟩ (ps.zip us)
  bindK : ∀ q ∈ kws, ∀ (s : Shared) (us ws : List Value), us.length = q.1 → ws.length = q.2.1.length → BindsTo s fd ⟨us, q.2.1.zip ws⟩ (ps.zip (q.2.2.map fun j => (us ++ ws).getD j .none))
  ok : FnOkG X.prog X.w X.K X.mg X.base CX k f fd ps sp
theorem pe_callG {kws : List (Nat × List Str × List Nat)} (F : FnAt X CX k x ps kws sp f fd) (hg : X.A.guards = some []) (hr : Room k X.A) (hgl : Gl X x) (hx : Passes CX X E)
    (ha : PA X (e :: es) t) (hdb : (x == ("__debug__" : Str)) = false) (he : starEach (e :: es) X.env = (false, eval e X.env) :: starEach es X.env) (hpl : (backTo pos (starEach es X.env)).any (·.1) = false) :
    L2.PE X (.Call (.Name x p) (e :: es) [] pos) (tCall sp [] E t) := by
  refine ⟨fun pins s σ H Q I h => ?_⟩
  refine wpAny_Call_Name_kw (ld_glob I hgl F.mg ?_ hdb)
  refine PySem.W.callWith_K (h₀ := X.base) I.ok.mod.kin F.keep (thn (ha.run pos pins s σ H _ I h) fun us s1 ⟨vs, H1, I1, r, q⟩ => ⟨I1.kIn, ?_⟩) he hpl
  have q' : sp vs H1 Q E := by simpa using q
  exact run_fnG F.ok hg hr hx I1 (F.bind s1 us (by rw [← r.length]; exact F.ok.len _ _ _ _ q')) r q'
theorem pe_callG0 {kws : List (Nat × List Str × List Nat)} (F : FnAt X CX k x ps kws sp f fd) (hg : X.A.guards = some []) (hr : Room k X.A) (hgl : Gl X x) (hx : Passes CX X E)
    (hdb : (x == ("__debug__" : Str)) = false) : L2.PE X (.Call (.Name x p) [] [] pos) (tCall sp [] E tNil) := by
  refine ⟨fun pins s σ H Q I h => ?_⟩
  refine wpAny_Call_Name_kw (ld_glob I hgl F.mg ?_ hdb)
  have q' : sp [] H Q E := by simpa [tCall, tNil] using h
  exact PySem.W.callWith_K0 I.kIn F.keep (run_fnG (us := []) (ws := []) F.ok hg hr hx I (F.bind s [] (F.ok.len _ _ _ _ q')) .nil q')
/-- what is handed in by place, then by names; put in the parameters' order -/
def tCallP (sp : Sp) (n m : Nat) (g : List Nat) (E : XK) (t tk : TA) : TE := fun σ H Q => t σ H fun vs H1 => tk σ H1 fun zs H2 => vs.length = n ∧ zs.length = m ∧ sp (g.map fun j => (vs ++ zs).getD j .non) H2 Q E
theorem vals_getD {vs : List V} {us : List Value} (r : Vals vs us) (j : Nat) : RelV (vs.getD j .non) (us.getD j .none) := by
  by_cases hj : j < vs.length
  · have h1 : vs[j]? = some vs[j] := List.getElem?_eq_getElem hj
    obtain ⟨u, h2, h3⟩ := r.get h1
    rw [List.getD_eq_getElem?_getD, List.getD_eq_getElem?_getD, h1, h2]
    exact h3
  · have h1 : vs[j]? = none := List.getElem?_eq_none (by omega)
    rw [List.getD_eq_getElem?_getD, List.getD_eq_getElem?_getD, h1, r.none_of h1]
    rfl
theorem vals_perm {vs : List V} {us : List Value} (r : Vals vs us) : ∀ g : List Nat, Vals (g.map fun j => vs.getD j .non) (g.map fun j => us.getD j .none)
  | [] => .nil
  | j :: g => .cons (vals_getD r j) (vals_perm r g)
theorem pe_callGK {kws : List (Nat × List Str × List Nat)} (F : FnAt X CX k x ps kws sp f fd) (hg : X.A.guards = some []) (hr : Room k X.A) (hgl : Gl X x) (hx : Passes CX X E) {q : Nat × List Str × List Nat} (hq : q ∈ kws)
    {kl : List Keyword} {tk : TA} (ha : PA X (e :: es) t) (hkw : PK X kl tk) (hall : (backToKw pos (keywordEach kl X.env)).all (·.1.isSome) = true) (hks : (backToKw pos (keywordEach kl X.env)).filterMap (·.1) = q.2.1)
    (hdb : (x == ("__debug__" : Str)) = false) (he : starEach (e :: es) X.env = (false, eval e X.env) :: starEach es X.env)
    (hpl : ((backTo pos (starEach (e :: es) X.env)).any (·.1) || (backToKw pos (keywordEach kl X.env)).any (·.1.isNone)) = false) :
    L2.PE X (.Call (.Name x p) (e :: es) kl pos) (tCallP sp q.1 q.2.1.length q.2.2 E t tk) := by
  refine ⟨fun pins s σ H Q I h => ?_⟩
  refine wpAny_Call_Name_kw (ld_glob I hgl F.mg ?_ hdb)
  refine PySem.W.callWith_KW (h₀ := X.base) I.ok.mod.kin F.keep hall (thn (ha.run pos pins s σ H _ I h) fun us s1 ⟨vs, H1, I1, r, q1⟩ => ?_) hpl he
  refine thn (hkw.run pos pins s1 σ H1 _ I1 q1) fun ws s2 ⟨zs, H2, I2, rz, l1, l2, q2⟩ => ⟨I2.kIn, ?_⟩
  rw [hks]
  exact run_fnG F.ok hg hr hx I2 (F.bindK q hq s2 us ws (r.length.symm.trans l1) (rz.length.symm.trans l2)) (vals_perm (r.append rz) _) q2
theorem pe_callGK0 {kws : List (Nat × List Str × List Nat)} (F : FnAt X CX k x ps kws sp f fd) (hg : X.A.guards = some []) (hr : Room k X.A) (hgl : Gl X x) (hx : Passes CX X E) {q : Nat × List Str × List Nat} (hq : q ∈ kws)
    {kl : List Keyword} {tk : TA} (hkw : PK X kl tk) (hall : (backToKw pos (keywordEach kl X.env)).all (·.1.isSome) = true) (hks : (backToKw pos (keywordEach kl X.env)).filterMap (·.1) = q.2.1)
    (hdb : (x == ("__debug__" : Str)) = false) (hpl : ((backTo pos (starEach [] X.env)).any (·.1) || (backToKw pos (keywordEach kl X.env)).any (·.1.isNone)) = false) :
    L2.PE X (.Call (.Name x p) [] kl pos) (tCallP sp q.1 q.2.1.length q.2.2 E tNil tk) := by
  refine ⟨fun pins s σ H Q I h => ?_⟩
  refine wpAny_Call_Name_kw (ld_glob I hgl F.mg ?_ hdb)
  refine PySem.W.callWith_KW0 (h₀ := X.base) I.ok.mod.kin F.keep hall ?_ hpl
  refine thn (hkw.run pos pins s σ H _ I h) fun ws s2 ⟨zs, H2, I2, rz, l1, l2, q2⟩ => ⟨I2.kIn, ?_⟩
  rw [hks]
  exact run_fnG F.ok hg hr hx I2 (F.bindK q hq s2 [] ws l1 (rz.length.symm.trans l2)) (vals_perm rz _) q2
end

/-! ### shapes -/
def asName : Expr → Option Str | .Name x _ => some x | _ => none
def asConst : Expr → Option Const | .Constant c _ _ => some c | _ => none
def asBin : Expr → Option (Expr × Operator × Expr) | .BinOp a o b _ => some (a, o, b) | _ => none
def asUn : Expr → Option (UnaryOp × Expr) | .UnaryOp o a _ => some (o, a) | _ => none
def asBool : Expr → Option (BoolOp × List Expr × Pos) | .BoolOp o l p => some (o, l, p) | _ => none
def asCmp : Expr → Option (Expr × List CmpOp × List Expr) | .Compare a o l _ => some (a, o, l) | _ => none
def asIf : Expr → Option (Expr × Expr × Expr) | .IfExp c a b _ => some (c, a, b) | _ => none
def asTup : Expr → Option (List Expr) | .Tuple l _ _ => some l | _ => none
def asLst : Expr → Option (List Expr) | .List l _ => some l | _ => none
def asDic : Expr → Option (List (Option Expr) × List Expr) | .Dict k v _ => some (k, v) | _ => none
def asCall : Expr → Option (Str × List Expr × List Keyword) | .Call (.Name x _) a k _ => some (x, a, k) | _ => none
def asMeth : Expr → Option (Expr × Str × Bool × List Expr) | .Call (.Attribute o m ap) a [] cp => some (o, m, ap.endLine == cp.line, a) | _ => none
def asSub : Expr → Option (Expr × Expr) | .Subscript a b _ => some (a, b) | _ => none
def asSlice : Expr → Option (Option Expr × Option Expr) | .Slice a b none _ => some (a, b) | _ => none
def asRev : Expr → Option Expr | .Subscript e (.Slice none none (some (.UnaryOp .USub (.Constant (.int 1) _ _) _)) _) _ => some e | _ => none
def asLc : Expr → Option (Expr × Expr × Expr × List Expr × Scope) | .ListComp e [⟨t, i, c, 0⟩] s _ => some (e, t, i, c, s) | _ => none
theorem asName_eq {e : Expr} {x : Str} (h : asName e = some x) : ∃ p, e = .Name x p := by cases e <;> simp [asName] at h; exact ⟨_, by rw [h]⟩
theorem asConst_eq {e : Expr} {c : Const} (h : asConst e = some c) : ∃ k p, e = .Constant c k p := by cases e <;> simp [asConst] at h; exact ⟨_, _, by rw [h]⟩
theorem asBin_eq {e a b : Expr} {o : Operator} (h : asBin e = some (a, o, b)) : ∃ p, e = .BinOp a o b p := by cases e <;> simp [asBin] at h; obtain ⟨rfl, rfl, rfl⟩ := h; exact ⟨_, rfl⟩
theorem asUn_eq {e a : Expr} {o : UnaryOp} (h : asUn e = some (o, a)) : ∃ p, e = .UnaryOp o a p := by cases e <;> simp [asUn] at h; obtain ⟨rfl, rfl⟩ := h; exact ⟨_, rfl⟩
theorem asBool_eq {e : Expr} {o : BoolOp} {l : List Expr} {p : Pos} (h : asBool e = some (o, l, p)) : e = .BoolOp o l p := by cases e <;> simp [asBool] at h; obtain ⟨rfl, rfl, rfl⟩ := h; rfl
theorem asCmp_eq {e a : Expr} {o : List CmpOp} {l : List Expr} (h : asCmp e = some (a, o, l)) : ∃ p, e = .Compare a o l p := by cases e <;> simp [asCmp] at h; obtain ⟨rfl, rfl, rfl⟩ := h; exact ⟨_, rfl⟩
theorem asIf_eq {e c a b : Expr} (h : asIf e = some (c, a, b)) : ∃ p, e = .IfExp c a b p := by cases e <;> simp [asIf] at h; obtain ⟨rfl, rfl, rfl⟩ := h; exact ⟨_, rfl⟩
theorem asTup_eq {e : Expr} {l : List Expr} (h : asTup e = some l) : ∃ k p, e = .Tuple l k p := by cases e <;> simp [asTup] at h; exact ⟨_, _, by rw [h]⟩
theorem asLst_eq {e : Expr} {l : List Expr} (h : asLst e = some l) : ∃ p, e = .List l p := by cases e <;> simp [asLst] at h; exact ⟨_, by rw [h]⟩
theorem asDic_eq {e : Expr} {k : List (Option Expr)} {v : List Expr} (h : asDic e = some (k, v)) : ∃ p, e = .Dict k v p := by cases e <;> simp [asDic] at h; obtain ⟨rfl, rfl⟩ := h; exact ⟨_, rfl⟩
theorem asCall_eq {e : Expr} {x : Str} {a : List Expr} {k : List Keyword} (h : asCall e = some (x, a, k)) : ∃ p pos, e = .Call (.Name x p) a k pos := by
  unfold asCall at h; split at h
  · cases h; exact ⟨_, _, rfl⟩
  · cases h
theorem asMeth_eq {e o : Expr} {m : Str} {b : Bool} {a : List Expr} (h : asMeth e = some (o, m, b, a)) : ∃ ap cp, e = .Call (.Attribute o m ap) a [] cp ∧ (ap.endLine == cp.line) = b := by
  unfold asMeth at h; split at h
  · cases h; exact ⟨_, _, rfl, rfl⟩
  · cases h
theorem asSub_eq {e a b : Expr} (h : asSub e = some (a, b)) : ∃ p, e = .Subscript a b p := by cases e <;> simp [asSub] at h; obtain ⟨rfl, rfl⟩ := h; exact ⟨_, rfl⟩
theorem asSlice_eq {e : Expr} {a b : Option Expr} (h : asSlice e = some (a, b)) : ∃ p, e = .Slice a b none p := by
  unfold asSlice at h; split at h
  · cases h; exact ⟨_, rfl⟩
  · cases h
theorem asRev_eq {e a : Expr} (h : asRev e = some a) : ∃ k p1 p2 p3 p, e = .Subscript a (.Slice none none (some (.UnaryOp .USub (.Constant (.int 1) k p1) p2)) p3) p := by
  unfold asRev at h; split at h
  · cases h; exact ⟨_, _, _, _, _, rfl⟩
  · cases h
theorem asLc_eq {e a t i : Expr} {c : List Expr} {s : Scope} (h : asLc e = some (a, t, i, c, s)) : ∃ p, e = .ListComp a [⟨t, i, c, 0⟩] s p := by
  unfold asLc at h; split at h
  · cases h; exact ⟨_, rfl⟩
  · cases h
/-- no star, no slice, no set, no comprehension -/
def noStar : Expr → Bool | .Starred _ _ => false | _ => true
def noSlice : Expr → Bool | .Slice _ _ _ _ => false | _ => true
def noSet : Expr → Bool | .Set _ _ _ => false | _ => true
def noComp : Expr → Bool | .ListComp _ _ _ _ => false | .SetComp _ _ _ _ => false | .DictComp _ _ _ _ _ => false | _ => true
def plainT : Expr → Bool | .UnaryOp .Not _ _ => false | .BoolOp _ _ _ => false | .IfExp _ _ _ _ => false | .Compare _ _ _ _ => false | _ => true
def noBase : Expr → Bool | .Call (.Name _ _) [] [] _ => false | _ => true
theorem star_cons {e : Expr} (h : noStar e = true) (es : List Expr) (env : PySem.Env) : starEach (e :: es) env = (false, eval e env) :: starEach es env := by
  cases e <;> first | rfl | cases h
theorem stars_plain {pos : Pos} {env : PySem.Env} : ∀ {es : List Expr}, es.all noStar = true → (backTo pos (starEach es env)).any (·.1) = false
  | [], _ => rfl
  | e :: es, h => by
    rw [List.all_cons, Bool.and_eq_true] at h
    rw [star_cons h.1]
    have := stars_plain (pos := pos) (env := env) h.2
    simpa [backTo] using this
theorem stars_all {pos : Pos} {env : PySem.Env} : ∀ {es : List Expr}, es.all noStar = true → (backTo pos (starEach es env)).all (fun x => !x.1) = true
  | [], _ => rfl
  | e :: es, h => by
    rw [List.all_cons, Bool.and_eq_true] at h
    rw [star_cons h.1]
    have := stars_all (pos := pos) (env := env) h.2
    simpa [backTo] using this
theorem noSlice_ix {e : Expr} (h : noSlice e = true) : PlainIx e := by
  intro o i
  cases e <;> first | rfl | cases h
theorem noSet_fold {e : Expr} (h : noSet e = true) (env : PySem.Env) : ∀ x, foldedSetIterable e env x = pure x := by
  intro x
  cases e <;> first | rfl | cases h
theorem noSet_marks {e : Expr} (h : noSet e = true) (op : CmpOp) : behindInMarks op e = false := by
  cases e <;> first | rfl | cases h
theorem plainT_is {e : Expr} (h : plainT e = true) (env : PySem.Env) : ∀ whole, isTrue e env whole = (do let v ← whole; standAt e.pos; holding [v] (truthy v)) := by
  intro whole
  cases e <;> first | rfl | (cases h; done) | skip
  rename_i op a p
  cases op <;> first | rfl | cases h
theorem noBase_is {o : Expr} (h : noBase o = true) (m : Str) (env : PySem.Env) (w : Sem Value) : attributeBase o m env w = w := by
  unfold attributeBase
  split
  · cases h
  · rfl
theorem noComp_sw {e : Expr} (h : noComp e = true) (t : Option Expr) (n : Nat) (env : PySem.Env) : swapsWith e t n env = pure false := by
  cases e <;> first | rfl | cases h
end PL

set_option Elab.async false
set_option linter.all false
set_option maxRecDepth 100000
set_option maxHeartbeats 2000000
/-! PLF: the look that holds the program's own syntax against the small language, and what it is good for: expressions. -/
namespace PL
open PySem PySem.Spec PyProof.Rows L2

structure Tab where
  fns : List (Str × List Str)
  kws : List (Nat × Nat × List Str × List Nat)
  free : List Str
  cons : List (Str × D)
def Tab.kwsOf (B : Tab) (i : Nat) : List (Nat × List Str × List Nat) := B.kws.filterMap fun q => if q.1 = i then some q.2 else none
def CXP : CXT := fun _ _ _ _ _ _ => False
theorem passP {X : Cx} {E : XK} : Passes CXP X E := fun _ _ _ _ _ _ _ h => h.elim
def spU (K : PySem.W.Frag) (m : List D → Sto → Res D) (n : Nat) : Sp := fun vs H Q _ => ∃ as st ds, Rel K as st H ∧ RVs K as H ds vs ∧ ds.length = n ∧ GE K Q as H (m ds st)
structure Ctx (B : Tab) (F : Nat → List D → Sto → Res D) (G : List D) (N : List Str) (sc : Scope) (k : Nat) (X : Cx) : Prop where
  fit : Fit X
  hN : X.N = N
  nd : N.Nodup
  sub : ∀ (x : Str) (q : NameKind), sc.names.lookup x = some q → ∃ q', X.env.scope.names.lookup x = some q' ∧ (q' = q ∨ (q = .free ∧ q' = .cell))
  fnc : ∀ x : Str, sc.names.lookup x = some .cell → X.fn x = true
  room : Room k X.A
  fns : ∀ (i : Nat) (x : Str) (ps : List Str), B.fns[i]? = some (x, ps) → ∃ f fd, FnAt X CXP k x ps (B.kwsOf i) (spU X.K (F i) ps.length) f fd
  free : ∀ x ∈ B.free, X.mg x = none
  con : ∀ (i : Nat) (x : Str) (d : D), B.cons[i]? = some (x, d) → G[i]? = some d ∧ ∃ u v, X.mg x = some u ∧ RelV v u ∧ ∀ as H, RV X.K as H d v

/-! ### the look -/
def dbgB (x : Str) : Bool := !(x == ("__debug__" : Str))
def visB (sc : Scope) (x : Str) : Bool := (match sc.names.lookup x with | some .local => true | some .cell => true | some .free => true | _ => false) && (dbgB x && !(x == ("__classdict__" : Str)))
def glB (sc : Scope) (x : Str) : Bool := (match sc.names.lookup x with | some .globalImplicit => true | _ => false) && dbgB x
def locB (sc : Scope) (x : Str) : Bool := match sc.names.lookup x with | some .local => true | some .cell => true | _ => false
def Blt.nm : Blt → Str
  | .len => "len" | .abs => "abs" | .int => "int" | .tuple => "tuple" | .list => "list" | .min2 => "min" | .max2 => "max" | .repr => "repr" | .strI => "str" | .isi _ => "isinstance" | .dictP => "dict"
def Ty.sn (t : Ty) : Str := Str.ofString t.nm
def Mt.nm : Mt → Str
  | .append => "append" | .pop0 => "pop" | .popAt => "pop" | .insert => "insert" | .extend => "extend"
def ItK.nm : ItK → Str
  | .plain => "" | .range1 => "range" | .range2 => "range" | .range3 => "range" | .enum => "enumerate" | .zip => "zip"
def keyB (k : Key) (e : Option Expr) : Bool := match e with
  | some e => (match asConst e, k with
    | some (.int j), .inl i => decide (i = j)
    | some (.str y), .inr x => decide (x = y)
    | _, _ => false)
  | none => false
def keysB : List Key → List (Option Expr) → Bool
  | [], [] => true
  | k :: ks, e :: es => keyB k e && keysB ks es
  | _, _ => false
def fnB (B : Tab) (f : Nat) (x : Str) (n : Nat) : Bool := match B.fns[f]? with
  | some (y, ps) => decide (x = y) && decide (n = ps.length)
  | none => false
def kwB (B : Tab) (f : Nat) (x : Str) (n : Nat) (kl : List Keyword) (g : List Nat) : Bool := (match B.fns[f]? with
  | some (y, ps) => decide (x = y) && decide (g.length = ps.length)
  | none => false) && (kl.all (·.arg.isSome) && decide ((f, n, kl.filterMap (·.arg), g) ∈ B.kws))
def conB (B : Tab) (i : Nat) (x : Str) : Bool := match B.cons[i]? with
  | some (y, _) => decide (x = y)
  | none => false
def freeB (B : Tab) (sc : Scope) (x y : Str) : Bool := decide (x = y) && (decide (y ∈ B.free) && glB sc x)
def tgOwn : Tg → List Nat → Bool
  | .name i, own => own.contains i
  | .tup ts, own => tgsOwn ts own
  | .sub _ _, _ => true
where tgsOwn : Tgs → List Nat → Bool
  | .nil, _ => true
  | .cons t ts, own => tgOwn t own && tgsOwn ts own
def isTup : Expr → Bool | .Tuple _ _ _ => true | _ => false

def isN : E → Bool | .cN => true | _ => false
def isYes : T → Bool | .yes => true | _ => false
def onlyIf (b : Bool) (l : List Expr) : Option (List Expr) := match b with | true => some l | false => none
theorem onlyIf_of {b : Bool} {l l' : List Expr} (h : onlyIf b l = some l') : b = true ∧ l = l' := by
  cases b
  · cases h
  · cases h; exact ⟨rfl, rfl⟩
/-- the arguments of a built-in that are looked at -/
def bltA (B : Tab) (sc : Scope) (b : Blt) (e : Expr) : Option (List Expr) := match asCall e with
  | some (x, args, []) => (match b, args with
    | .isi t, [a, c] => onlyIf (freeB B sc x "isinstance" && (match asName c with | some y => freeB B sc y t.sn | none => false)) [a]
    | .isi _, _ => none
    | .dictP, _ => none
    | b, a0 :: al => onlyIf (freeB B sc x b.nm) (a0 :: al)
    | _, _ => none)
  | _ => none
/-- what is walked: the arguments that are looked at -/
def itA (B : Tab) (sc : Scope) (k : ItK) (it tg : Expr) : Option (List Expr) := match k with
  | .plain => some [it]
  | k => match asCall it with
    | some (x, args, []) => onlyIf (freeB B sc x k.nm && (match k, args with
        | .range1, [_] => true
        | .range2, [_, _] => true
        | .range3, [_, _, _] => true
        | .enum, [_] => isTup tg
        | .zip, [_, _] => isTup tg
        | _, _ => false)) args
    | _ => none
section
variable (B : Tab) (N : List Str)
mutual
def chkE : E → Scope → Expr → Bool
  | .var i, sc, e => match asName e with | some x => decide (N[i]? = some x) && visB sc x | none => false
  | .cI i, _, e => match asConst e with | some (.int j) => decide (i = j) | _ => false
  | .cB b, _, e => match asConst e with | some (.bool c) => b == c | _ => false
  | .cS x, _, e => match asConst e with | some (.str y) => decide (x = y) | _ => false
  | .cN, _, e => match asConst e with | some .none => true | _ => false
  | .gcon i, sc, e => match asName e with | some x => conB B i x && glB sc x | none => false
  | .bin op a b, sc, e => match asBin e with | some (x, o, y) => decide (o = op.op) && (chkE a sc x && chkE b sc y) | none => false
  | .neg a, sc, e => match asUn e with | some (.USub, x) => chkE a sc x | _ => false
  | .notE a, sc, e => match asUn e with | some (.Not, x) => chkE a sc x | _ => false
  | .and1 a, sc, e => match asBool e with | some (.And, [x], _) => chkE a sc x | _ => false
  | .and2 a r, sc, e => match asBool e with | some (.And, x :: y :: l, p) => chkE a sc x && chkE r sc (.BoolOp .And (y :: l) p) | _ => false
  | .or1 a, sc, e => match asBool e with | some (.Or, [x], _) => chkE a sc x | _ => false
  | .or2 a r, sc, e => match asBool e with | some (.Or, x :: y :: l, p) => chkE a sc x && chkE r sc (.BoolOp .Or (y :: l) p) | _ => false
  | .cmp op a b, sc, e => match asCmp e with | some (x, [o], [y]) => decide (o = op.op) && (noSet y && (chkE a sc x && chkE b sc y)) | _ => false
  | .cmp2 op op' a b c, sc, e => match asCmp e with | some (x, [o, o'], [y, z]) => (decide (o = op.op) && decide (o' = op'.op)) && (noSet z && (chkE a sc x && (chkE b sc y && chkE c sc z))) | _ => false
  | .ife c a b, sc, e => match asIf e with | some (x, y, z) => chkT c sc x && (chkE a sc y && chkE b sc z) | none => false
  | .tup es, sc, e => match asTup e with | some l => chkEs es sc l | none => false
  | .lst es, sc, e => match asLst e with | some l => chkEs es sc l | none => false
  | .dic ks es, sc, e => match asDic e with | some (kl, vl) => (keysB ks kl && (decide (kl.length = vl.length) && (decide (kl.length ≤ 15) && !kl.isEmpty))) && chkEs es sc vl | none => false
  | .call f es, sc, e => match asCall e with | some (x, args, []) => (fnB B f x args.length && glB sc x) && chkEs es sc args | _ => false
  | .callK f es ks g, sc, e => match asCall e with | some (x, args, k0 :: kl) => (kwB B f x args.length (k0 :: kl) g && glB sc x) && (chkEs es sc args && chkEs ks sc ((k0 :: kl).map (·.value))) | _ => false
  | .blt b es, sc, e => match bltA B sc b e with | some l => chkEs es sc l | none => false
  | .meth m o es, sc, e => match asMeth e with | some (x, nm, ln, args) => (decide (nm = m.nm) && (ln && (noBase x && decide (args.length < 30)))) && (chkE o sc x && chkEs es sc args) | none => false
  | .idx a b, sc, e => match asSub e with | some (x, y) => noSlice y && (chkE a sc x && chkE b sc y) | none => false
  | .sl a lo hi, sc, e => match asSub e with
    | some (x, y) => (match asSlice y with
      | some (l, h) => chkE a sc x && ((match l with | some l => chkE lo sc l | none => isN lo) && (match h with | some h => chkE hi sc h | none => isN hi))
      | none => false)
    | none => false
  | .rev a, sc, e => match asRev e with | some x => chkE a sc x | none => false
  | .lc own elt t k es c, sc, e => match asLc e with
    | some (x, tg, it, ifs, sc') => (blkC N sc sc' (own.map fun j => (N.getD j "", j)) && (tgOwn t own && noSet it)) && ((match itA B sc k it tg with | some l => chkEs es sc l | none => false) && (chkTg t sc' tg && ((match ifs with | [] => isYes c | [y] => chkT c sc' y | _ => false) && chkE elt sc' x)))
    | none => false
def chkEs : Es → Scope → List Expr → Bool
  | .nil, _, [] => true
  | .cons e es, sc, x :: l => noStar x && (chkE e sc x && chkEs es sc l)
  | _, _, _ => false
def chkT : T → Scope → Expr → Bool
  | .val a, sc, e => plainT e && chkE a sc e
  | .vc op a b, sc, e => match asCmp e with | some (x, [o], [y]) => decide (o = op.op) && (noSet y && (chkE a sc x && chkE b sc y)) | _ => false
  | .vc2 op op' a b c, sc, e => match asCmp e with | some (x, [o, o'], [y, z]) => (decide (o = op.op) && decide (o' = op'.op)) && (noSet z && (chkE a sc x && (chkE b sc y && chkE c sc z))) | _ => false
  | .not a, sc, e => match asUn e with | some (.Not, x) => chkT a sc x | _ => false
  | .and1 a, sc, e => match asBool e with | some (.And, [x], _) => chkT a sc x | _ => false
  | .and2 a r, sc, e => match asBool e with | some (.And, x :: y :: l, p) => chkT a sc x && chkT r sc (.BoolOp .And (y :: l) p) | _ => false
  | .or1 a, sc, e => match asBool e with | some (.Or, [x], _) => chkT a sc x | _ => false
  | .or2 a r, sc, e => match asBool e with | some (.Or, x :: y :: l, p) => chkT a sc x && chkT r sc (.BoolOp .Or (y :: l) p) | _ => false
  | .yes, _, _ => false
def chkTg : Tg → Scope → Expr → Bool
  | .name i, sc, e => match asName e with | some x => decide (N[i]? = some x) && locB sc x | none => false
  | .tup ts, sc, e => match asTup e with | some l => chkTgs ts sc l | none => false
  | .sub o i, sc, e => match asSub e with | some (x, y) => noSlice y && (chkE o sc x && chkE i sc y) | none => false
def chkTgs : Tgs → Scope → List Expr → Bool
  | .nil, _, [] => true
  | .cons t ts, sc, x :: l => noStar x && (chkTg t sc x && chkTgs ts sc l)
  | _, _, _ => false
end
end
end PL

set_option Elab.async false
set_option linter.all false
set_option maxRecDepth 100000
set_option maxHeartbeats 2000000
/-! PLG: the small language's meanings as the layer's meanings; one lemma for each form of expression. -/
namespace PL
open PySem PySem.Spec PyProof.Rows L2

def tE (K : PySem.W.Frag) (m : Env → Sto → Res D) : TE := fun σ H Q => ∃ as st env, Rel K as st H ∧ REnv K as H env σ ∧ GE K Q as H (m env st)
def tT (K : PySem.W.Frag) (m : Env → Sto → Res Bool) : TT := fun σ H Q => ∃ as st env, Rel K as st H ∧ REnv K as H env σ ∧ Good K (fun b _ H' => Q b H') as H (m env st)
def tA (K : PySem.W.Frag) (m : Env → Sto → Res (List D)) : TA := fun σ H Q => ∃ as st env, Rel K as st H ∧ REnv K as H env σ ∧ Good K (PL' K Q) as H (m env st)
abbrev PG' (K : PySem.W.Frag) (own : List Nat → Bool) (σ : L2.St) (Q : L2.St → Hp → Prop) : Env → List Addr → Hp → Prop := fun env' as' H' => ∀ σ', REnv K as' H' env' σ' → (∀ vs, own vs = true → wipe σ' vs = wipe σ vs) → Q σ' H'
def tG (K : PySem.W.Frag) (own : List Nat → Bool) (m : D → Env → Sto → Res Env) : TG := fun v σ H Q => ∃ as st env d, Rel K as st H ∧ REnv K as H env σ ∧ RV K as H d v ∧ Good K (PG' K own σ Q) as H (m d env st)
def tGs (K : PySem.W.Frag) (own : List Nat → Bool) (m : List D → Env → Sto → Res Env) : TGs := fun vs σ H Q => ∃ as st env ds, Rel K as st H ∧ REnv K as H env σ ∧ RVs K as H ds vs ∧ Good K (PG' K own σ Q) as H (m ds env st)
theorem pe_imp {X : Cx} {e : Expr} {t t' : TE} (h : L2.PE X e t) (f : ∀ σ H Q, t' σ H Q → t σ H Q) : L2.PE X e t' := ⟨fun pins s σ H Q I q => h.run pins s σ H Q I (f σ H Q q)⟩
theorem pt_imp {X : Cx} {e : Expr} {t t' : TT} (h : L2.PT X e t) (f : ∀ σ H Q, t' σ H Q → t σ H Q) : L2.PT X e t' := ⟨fun pins s σ H Q I q => h.run pins s σ H Q I (f σ H Q q)⟩
theorem pw_imp {X : Cx} {e : Expr} {t t' : TT} (h : PW X e t) (f : ∀ σ H Q, t' σ H Q → t σ H Q) : PW X e t' := ⟨fun wh pins s σ H Q I q => h.run wh pins s σ H Q I (f σ H Q q)⟩
theorem pa_imp {X : Cx} {e : List Expr} {t t' : TA} (h : PA X e t) (f : ∀ σ H Q, t' σ H Q → t σ H Q) : PA X e t' := ⟨fun p pins s σ H Q I q => h.run p pins s σ H Q I (f σ H Q q)⟩
theorem pk_imp {X : Cx} {e : List Keyword} {t t' : TA} (h : PK X e t) (f : ∀ σ H Q, t' σ H Q → t σ H Q) : PK X e t' := ⟨fun p pins s σ H Q I q => h.run p pins s σ H Q I (f σ H Q q)⟩
theorem pg_imp {X : Cx} {e : Expr} {t t' : TG} (h : PG X e t) (f : ∀ v σ H Q, t' v σ H Q → t v σ H Q) : PG X e t' := ⟨fun pins s σ H v u Q I r q => h.run pins s σ H v u Q I r (f v σ H Q q)⟩
theorem pgs_imp {X : Cx} {e : List Expr} {t t' : TGs} (h : PGs X e t) (f : ∀ v σ H Q, t' v σ H Q → t v σ H Q) : PGs X e t' := ⟨fun pins s σ H v u Q I r q => h.run pins s σ H v u Q I r (f v σ H Q q)⟩
theorem pi_imp {X : Cx} {tg e : Expr} {t t' : TI} (h : PI X tg e t) (f : ∀ σ H R, t' σ H R → t σ H R) : PI X tg e t' := ⟨fun pins s σ H R I q => h.run pins s σ H R I (f σ H R q)⟩
theorem pg_or {X : Cx} {e : Expr} {t u : TG} (h : PG X e t) (h' : PG X e u) : PG X e (fun v σ H Q => t v σ H Q ∨ u v σ H Q) := ⟨fun pins s σ H v uu Q I r q => by
  rcases q with q | q
  · exact h.run pins s σ H v uu Q I r q
  · exact h'.run pins s σ H v uu Q I r q⟩

section
variable {K : PySem.W.Frag} {σ : L2.St} {H : Hp} {Q : VK}
variable {ma mb mc : Env → Sto → Res D}
/-- one value, then more -/
theorem one_of {β : Type} {P : β → List Addr → Hp → Prop} {as : List Addr} {st : Sto} {env : Env} {f : D → Sto → Res β} (rel : Rel K as st H) (re : REnv K as H env σ) (g : Good K P as H ((ma env st).bind f)) :
    tE K ma σ H fun v H1 => ∃ as1 st1 d, Ext K as H as1 H1 ∧ Rel K as1 st1 H1 ∧ REnv K as1 H1 env σ ∧ RV K as1 H1 d v ∧ Good K P as1 H1 (f d st1) :=
  ⟨as, st, env, rel, re, g.bind.imp fun d as1 H1 e1 ⟨st1, _, r1, g1⟩ v rv => ⟨as1, st1, d, e1, r1, re.mono e1, rv, g1⟩⟩
theorem two_of {β : Type} {P : β → List Addr → Hp → Prop} {as : List Addr} {st : Sto} {env : Env} {f : D → D → Sto → Res β} (rel : Rel K as st H) (re : REnv K as H env σ) (g : Good K P as H ((ma env st).bind fun x st1 => (mb env st1).bind fun y st2 => f x y st2)) :
    tE K ma σ H fun v H1 => tE K mb σ H1 fun u H2 => ∃ as2 st2 x y, Ext K as H as2 H2 ∧ Rel K as2 st2 H2 ∧ REnv K as2 H2 env σ ∧ RV K as2 H2 x v ∧ RV K as2 H2 y u ∧ Good K P as2 H2 (f x y st2) :=
  ⟨as, st, env, rel, re, g.bind.imp fun d as1 H1 e1 ⟨st1, _, r1, g1⟩ v rv => ⟨as1, st1, env, r1, re.mono e1, g1.bind.imp fun y as2 H2 e2 ⟨st2, _, r2, g2⟩ u ru => ⟨as2, st2, d, y, e1.trans e2, r2, re.mono (e1.trans e2), RV.mono e2 _ _ rv, ru, g2⟩⟩⟩
theorem GE.here' {as : List Addr} {st : Sto} {d : D} {v : V} (g : GE K Q as H (.ok d st)) (rel : Rel K as st H) (rv : RV K as H d v) : Q v H := g.here rel v rv
theorem tE_mono {m : Env → Sto → Res D} {Q' : VK} (h : tE K m σ H Q) (f : ∀ v H', Q v H' → Q' v H') : tE K m σ H Q' := by
  obtain ⟨as, st, env, rel, re, g⟩ := h
  exact ⟨as, st, env, rel, re, g.imp fun d _ _ _ q v rv => f _ _ (q v rv)⟩
theorem tT_mono {m : Env → Sto → Res Bool} {Q Q' : Bool → Hp → Prop} (h : tT K m σ H Q) (f : ∀ v H', Q v H' → Q' v H') : tT K m σ H Q' := by
  obtain ⟨as, st, env, rel, re, g⟩ := h
  exact ⟨as, st, env, rel, re, g.imp fun d _ _ _ q => f _ _ q⟩
theorem tA_mono {m : Env → Sto → Res (List D)} {Q Q' : List V → Hp → Prop} (h : tA K m σ H Q) (f : ∀ v H', Q v H' → Q' v H') : tA K m σ H Q' := by
  obtain ⟨as, st, env, rel, re, g⟩ := h
  exact ⟨as, st, env, rel, re, g.imp fun d _ _ _ q v rv => f _ _ (q v rv)⟩
theorem all_of {β : Type} {m : Env → Sto → Res (List D)} {P : β → List Addr → Hp → Prop} {as : List Addr} {st : Sto} {env : Env} {f : List D → Sto → Res β} (rel : Rel K as st H) (re : REnv K as H env σ) (g : Good K P as H ((m env st).bind f)) :
    tA K m σ H fun vs H1 => ∃ as1 st1 ds, Ext K as H as1 H1 ∧ Rel K as1 st1 H1 ∧ REnv K as1 H1 env σ ∧ RVs K as1 H1 ds vs ∧ Good K P as1 H1 (f ds st1) :=
  ⟨as, st, env, rel, re, g.bind.imp fun d as1 H1 e1 ⟨st1, _, r1, g1⟩ v rv => ⟨as1, st1, d, e1, r1, re.mono e1, rv, g1⟩⟩
theorem test_of {β : Type} {m : Env → Sto → Res Bool} {P : β → List Addr → Hp → Prop} {as : List Addr} {st : Sto} {env : Env} {f : Bool → Sto → Res β} (rel : Rel K as st H) (re : REnv K as H env σ) (g : Good K P as H ((m env st).bind f)) :
    tT K m σ H fun b H1 => ∃ as1 st1, Ext K as H as1 H1 ∧ Rel K as1 st1 H1 ∧ REnv K as1 H1 env σ ∧ Good K P as1 H1 (f b st1) :=
  ⟨as, st, env, rel, re, g.bind.imp fun d as1 H1 e1 ⟨st1, _, r1, g1⟩ => ⟨as1, st1, e1, r1, re.mono e1, g1⟩⟩
end

section
variable {X : Cx} {a b c : Expr} {ma mb mc : Env → Sto → Res D} {ta tb : Env → Sto → Res Bool} {pos : Pos}
theorem s_var {i : Nat} {x : Str} {p : Pos} (hN : X.N[i]? = some x) (hv : Vis X.env.scope x) (hd : (x == ("__debug__" : Str)) = false) (hcd : (x == ("__classdict__" : Str)) = false) :
    L2.PE X (.Name x p) (tE X.K fun env st => match env[i]? with | some (some d) => .ok d st | _ => .bad) := by
  refine pe_imp (pe_var hN hv hd hcd) fun σ H Q ⟨as, st, env, rel, re, g⟩ => ?_
  simp only [] at g
  split at g
  · rename_i d e
    obtain ⟨v, h1, h2⟩ := re.2 i d e
    exact ⟨v, h1, g.here rel _ h2⟩
  · exact g.elim
theorem s_c {e : Expr} {d : D} {v : V} (h : L2.PE X e (tC v)) (hd : ∀ as H, RV X.K as H d v) : L2.PE X e (tE X.K fun _ st => .ok d st) :=
  pe_imp h fun σ H Q ⟨as, st, env, rel, re, g⟩ => g.here rel _ (hd _ _)
theorem s_gcon {x : Str} {d : D} {u : Value} {v : V} {p : Pos} {G : List D} {i : Nat} (hg : Gl X x) (hm : X.mg x = some u) (r : RelV v u) (hdb : (x == ("__debug__" : Str)) = false) (hd : ∀ as H, RV X.K as H d v) (hG : G[i]? = some d) :
    L2.PE X (.Name x p) (tE X.K fun _ st => liftO G[i]? st) := by
  rw [hG]; exact s_c (pe_glob hg hm r hdb) hd
theorem s_bin {op : Bop} (ha : L2.PE X a (tE X.K ma)) (hb : L2.PE X b (tE X.K mb)) : L2.PE X (.BinOp a op.op b pos) (tE X.K fun env st => (ma env st).bind fun x st1 => (mb env st1).bind fun y st2 => binD op x y st2) :=
  pe_imp (pe_op (op_bin op) ha hb) fun σ H Q ⟨as, st, env, rel, re, g⟩ => tE_mono (two_of rel re g) fun v H1 h => tE_mono h fun u H2 ⟨as2, st2, x, y, _, r2, _, rx, ry, g2⟩ => ⟨as2, st2, x, y, r2, rx, ry, g2⟩
theorem s_neg (ha : L2.PE X a (tE X.K ma)) : L2.PE X (.UnaryOp .USub a pos) (tE X.K fun env st => (ma env st).bind fun x st1 => match x with | .int i => .ok (.int (-i)) st1 | _ => .bad) :=
  pe_imp (pe_un un_neg ha) fun σ H Q ⟨as, st, env, rel, re, g⟩ => tE_mono (one_of rel re g) fun v H1 ⟨as1, st1, d, _, r1, _, rv, g1⟩ => by
    split at g1
    · have rv : v = _ := rv
      exact ⟨_, rv, g1.here r1 _ rfl⟩
    · exact g1.elim
theorem s_not (ha : L2.PE X a (tE X.K ma)) : L2.PE X (.UnaryOp .Not a pos) (tE X.K fun env st => (ma env st).bind fun x st1 => liftO ((truth st1 x).map fun b => .bl (!b)) st1) :=
  pe_imp (pe_notT ha) fun σ H Q ⟨as, st, env, rel, re, g⟩ => tE_mono (one_of rel re g) fun v H1 ⟨as1, st1, d, _, r1, _, rv, g1⟩ => by
    obtain ⟨z, e, g2⟩ := g1.lift
    obtain ⟨k, e1, rfl⟩ := Option.map_eq_some_iff.mp e
    exact ⟨k, truV_of r1 e1 rv, g2.here r1 _ rfl⟩
theorem s_and {l : List Expr} (ha : L2.PE X a (tE X.K ma)) (hb : L2.PE X (.BoolOp .And (b :: l) pos) (tE X.K mb)) :
    L2.PE X (.BoolOp .And (a :: b :: l) pos) (tE X.K fun env st => (ma env st).bind fun x st1 => match truth st1 x with | some true => mb env st1 | some false => .ok x st1 | none => .bad) :=
  pe_imp (pe_andT ha hb) fun σ H Q ⟨as, st, env, rel, re, g⟩ => tE_mono (one_of rel re g) fun v H1 ⟨as1, st1, d, e1, r1, re1, rv, g1⟩ => by
    split at g1
    · rename_i e; exact ⟨true, truV_of r1 e rv, by rw [if_pos rfl]; exact ⟨as1, st1, env, r1, re1, g1⟩⟩
    · rename_i e; exact ⟨false, truV_of r1 e rv, by rw [if_neg (by simp)]; exact g1.here r1 _ rv⟩
    · exact g1.elim
theorem s_or {l : List Expr} (ha : L2.PE X a (tE X.K ma)) (hb : L2.PE X (.BoolOp .Or (b :: l) pos) (tE X.K mb)) :
    L2.PE X (.BoolOp .Or (a :: b :: l) pos) (tE X.K fun env st => (ma env st).bind fun x st1 => match truth st1 x with | some true => .ok x st1 | some false => mb env st1 | none => .bad) :=
  pe_imp (pe_orT ha hb) fun σ H Q ⟨as, st, env, rel, re, g⟩ => tE_mono (one_of rel re g) fun v H1 ⟨as1, st1, d, e1, r1, re1, rv, g1⟩ => by
    split at g1
    · rename_i e; exact ⟨true, truV_of r1 e rv, by rw [if_pos rfl]; exact g1.here r1 _ rv⟩
    · rename_i e; exact ⟨false, truV_of r1 e rv, by rw [if_neg (by simp)]; exact ⟨as1, st1, env, r1, re1, g1⟩⟩
    · exact g1.elim
def mCmp (op : Cop) (ma mb : Env → Sto → Res D) : Env → Sto → Res D := fun env st => (ma env st).bind fun x st1 => (mb env st1).bind fun y st2 => liftO ((cmpD op x y st2).map .bl) st2
def mCmp2 (op op' : Cop) (ma mb mc : Env → Sto → Res D) : Env → Sto → Res D := fun env st => (ma env st).bind fun x st1 => (mb env st1).bind fun y st2 => match cmpD op x y st2 with
    | some true => (mc env st2).bind fun z st3 => liftO ((cmpD op' y z st3).map .bl) st3
    | some false => .ok (.bl false) st2
    | none => .bad
def mVal (m : Env → Sto → Res D) : Env → Sto → Res Bool := fun env st => (m env st).bind fun x st1 => liftO (truth st1 x) st1
def mTc (op : Cop) (ma mb : Env → Sto → Res D) : Env → Sto → Res Bool := fun env st => (ma env st).bind fun x st1 => (mb env st1).bind fun y st2 => liftO (cmpD op x y st2) st2
def mTc2 (op op' : Cop) (ma mb mc : Env → Sto → Res D) : Env → Sto → Res Bool := fun env st => (ma env st).bind fun x st1 => (mb env st1).bind fun y st2 => match cmpD op x y st2 with
    | some true => (mc env st2).bind fun z st3 => liftO (cmpD op' y z st3) st3
    | some false => .ok false st2
    | none => .bad
theorem cmp_of {op : Cop} {σ : L2.St} {H : Hp} {Q : VK} (h : tE X.K (mCmp op ma mb) σ H Q) : tOp (rC2 X.K op) (tE X.K ma) (tE X.K mb) σ H Q := by
  obtain ⟨as, st, env, rel, re, g⟩ := h
  refine tE_mono (two_of rel re g) fun v H1 h => tE_mono h fun u H2 ⟨as2, st2, x, y, _, r2, _, rx, ry, g2⟩ => ?_
  obtain ⟨z, e, g3⟩ := g2.lift
  obtain ⟨k, e1, rfl⟩ := Option.map_eq_some_iff.mp e
  exact ⟨as2, st2, x, y, k, r2, rx, ry, e1, g3.here r2 _ rfl⟩
theorem cmp2_of {op op' : Cop} {σ : L2.St} {H : Hp} {Q : VK} (h : tE X.K (mCmp2 op op' ma mb mc) σ H Q) : tChain (rC2 X.K op) (rC2 X.K op') (tE X.K ma) (tE X.K mb) (tE X.K mc) σ H Q := by
  obtain ⟨as, st, env, rel, re, g⟩ := h
  refine tE_mono (two_of rel re g) fun v H1 h => tE_mono h fun u H2 ⟨as2, st2, x, y, _, r2, re2, rx, ry, g2⟩ => ?_
  split at g2
  · rename_i e
    refine ⟨as2, st2, x, y, true, r2, rx, ry, e, true, rfl, ?_⟩
    rw [if_pos rfl]
    refine tE_mono (one_of r2 re2 g2) fun w H3 ⟨as3, st3, z, e3, r3, _, rz, g3⟩ => ?_
    obtain ⟨q, e4, g4⟩ := g3.lift
    obtain ⟨k, e5, rfl⟩ := Option.map_eq_some_iff.mp e4
    exact ⟨as3, st3, y, z, k, r3, RV.mono e3 _ _ ry, rz, e5, g4.here r3 _ rfl⟩
  · rename_i e
    exact ⟨as2, st2, x, y, false, r2, rx, ry, e, false, rfl, by rw [if_neg (by simp)]; exact g2.here r2 _ rfl⟩
  · exact g2.elim
theorem s_cmp (fx : Fit X) {op : Cop} (ha : L2.PE X a (tE X.K ma)) (hb : L2.PE X b (tE X.K mb)) (hs : noSet b = true) : L2.PE X (.Compare a [op.op] [b] pos) (tE X.K (mCmp op ma mb)) :=
  pe_imp (pe_cmpR (op_cmp (by have := fx.hu; omega) op) ha hb (noSet_marks hs _)) fun σ H Q h => cmp_of h
theorem lastM {op op' : CmpOp} {b c : Expr} (h : noSet c = true) : lastMarks [op, op'] [b, c] = false := by
  have := noSet_marks h op'
  simpa [lastMarks] using this
theorem s_cmp2 (fx : Fit X) {op op' : Cop} (ha : L2.PE X a (tE X.K ma)) (hb : L2.PE X b (tE X.K mb)) (hc : L2.PE X c (tE X.K mc)) (hs : noSet c = true) : L2.PE X (.Compare a [op.op, op'.op] [b, c] pos) (tE X.K (mCmp2 op op' ma mb mc)) :=
  pe_imp (pe_chain (op_cmp (by have := fx.hu; omega) op) (op_cmp (by have := fx.hu; omega) op') ha hb hc (lastM hs)) fun σ H Q h => cmp2_of h
theorem bind_ok {α β : Type} {r : Res α} {k : α → Sto → Res β} {b : β} {st' : Sto} (h : r.bind k = .ok b st') : ∃ a st1, r = .ok a st1 ∧ k a st1 = .ok b st' := by
  cases r with
  | ok a st1 => exact ⟨a, st1, rfl, h⟩
  | exc _ _ _ => cases h
  | bad => cases h
theorem lift_ok {α : Type} {o : Option α} {st st' : Sto} {a : α} (h : liftO o st = .ok a st') : o = some a ∧ st = st' := by
  cases o with
  | some b => cases h; exact ⟨rfl, rfl⟩
  | none => cases h
theorem s_tcmp (fx : Fit X) {op : Cop} (ha : L2.PE X a (tE X.K ma)) (hb : L2.PE X b (tE X.K mb)) (hs : noSet b = true) : L2.PT X (.Compare a [op.op] [b] pos) (tT X.K (mTc op ma mb)) :=
  pt_imp (pt_cmpR (op_cmp (by have := fx.hu; omega) op) ha hb (noSet_marks hs _)) fun σ H Q ⟨as, st, env, rel, re, g⟩ => tE_mono (two_of rel re g) fun v H1 h => tE_mono h fun u H2 ⟨as2, st2, x, y, _, r2, _, rx, ry, g2⟩ => by
    obtain ⟨z, e, g3⟩ := g2.lift
    exact ⟨as2, st2, x, y, z, r2, rx, ry, e, z, rfl, g3.here r2⟩
theorem s_tcmp2 (fx : Fit X) {op op' : Cop} (ha : L2.PE X a (tE X.K ma)) (hb : L2.PE X b (tE X.K mb)) (hc : L2.PE X c (tE X.K mc)) (hs : noSet c = true) : L2.PT X (.Compare a [op.op, op'.op] [b, c] pos) (tT X.K (mTc2 op op' ma mb mc)) :=
  pt_imp (pt_chain (op_cmp (by have := fx.hu; omega) op) (op_cmp (by have := fx.hu; omega) op') ha hb hc (lastM hs)) fun σ H Q ⟨as, st, env, rel, re, g⟩ => tE_mono (two_of rel re g) fun v H1 h => tE_mono h fun u H2 ⟨as2, st2, x, y, _, r2, re2, rx, ry, g2⟩ => by
    split at g2
    · rename_i e
      refine ⟨as2, st2, x, y, true, r2, rx, ry, e, true, rfl, ?_⟩
      rw [if_pos rfl]
      refine tE_mono (one_of r2 re2 g2) fun w H3 ⟨as3, st3, z, e3, r3, _, rz, g3⟩ => ?_
      obtain ⟨q, e4, g4⟩ := g3.lift
      exact ⟨as3, st3, y, z, q, r3, RV.mono e3 _ _ ry, rz, e4, q, rfl, g4.here r3⟩
    · rename_i e
      exact ⟨as2, st2, x, y, false, r2, rx, ry, e, false, rfl, by rw [if_neg (by simp)]; exact ⟨false, rfl, g2.here r2⟩⟩
    · exact g2.elim
theorem s_tval (ha : L2.PE X a (tE X.K ma)) (h : plainT a = true) : L2.PT X a (tT X.K (mVal ma)) :=
  pt_imp (pt_truth ha (plainT_is h _)) fun σ H Q ⟨as, st, env, rel, re, g⟩ => tE_mono (one_of rel re g) fun v H1 ⟨as1, st1, d, _, r1, _, rv, g1⟩ => by
    obtain ⟨k, e, g2⟩ := g1.lift
    exact ⟨k, truV_of r1 e rv, g2.here r1⟩
theorem s_tnot (ha : L2.PT X a (tT X.K ta)) : L2.PT X (.UnaryOp .Not a pos) (tT X.K fun env st => (ta env st).bind fun b st1 => .ok (!b) st1) :=
  pt_imp (pt_not ha) fun σ H Q ⟨as, st, env, rel, re, g⟩ => tT_mono (test_of rel re g) fun b H1 ⟨as1, st1, _, r1, _, g1⟩ => g1.here r1
theorem s_tand {l : List Expr} (ha : L2.PT X a (tT X.K ta)) (hb : PW X (.BoolOp .And (b :: l) pos) (tT X.K tb)) :
    PW X (.BoolOp .And (a :: b :: l) pos) (tT X.K fun env st => (ta env st).bind fun b st1 => if b then tb env st1 else .ok false st1) :=
  pw_imp (pw_and ha hb) fun σ H Q ⟨as, st, env, rel, re, g⟩ => tT_mono (test_of rel re g) fun b H1 ⟨as1, st1, _, r1, re1, g1⟩ => by
    cases b with
    | true => rw [if_pos rfl]; exact ⟨as1, st1, env, r1, re1, g1⟩
    | false => rw [if_neg (by simp)]; exact g1.here r1
theorem s_tor {l : List Expr} (ha : L2.PT X a (tT X.K ta)) (hb : PW X (.BoolOp .Or (b :: l) pos) (tT X.K tb)) :
    PW X (.BoolOp .Or (a :: b :: l) pos) (tT X.K fun env st => (ta env st).bind fun b st1 => if b then .ok true st1 else tb env st1) :=
  pw_imp (pw_or ha hb) fun σ H Q ⟨as, st, env, rel, re, g⟩ => tT_mono (test_of rel re g) fun b H1 ⟨as1, st1, _, r1, re1, g1⟩ => by
    cases b with
    | true => rw [if_pos rfl]; exact g1.here r1
    | false => rw [if_neg (by simp)]; exact ⟨as1, st1, env, r1, re1, g1⟩
theorem s_ife (hc : L2.PT X c (tT X.K ta)) (ha : L2.PE X a (tE X.K ma)) (hb : L2.PE X b (tE X.K mb)) : L2.PE X (.IfExp c a b pos) (tE X.K fun env st => (ta env st).bind fun k st1 => if k then ma env st1 else mb env st1) :=
  pe_imp (pe_ifExp hc ha hb) fun σ H Q ⟨as, st, env, rel, re, g⟩ => tT_mono (test_of rel re g) fun b H1 ⟨as1, st1, _, r1, re1, g1⟩ => by
    cases b with
    | true => rw [if_pos rfl]; exact ⟨as1, st1, env, r1, re1, g1⟩
    | false => rw [if_neg (by simp)]; exact ⟨as1, st1, env, r1, re1, g1⟩
variable {es : List Expr} {m m' : Env → Sto → Res (List D)}
theorem s_nil : PA X [] (tA X.K fun _ st => .ok [] st) := pa_imp pa_nil fun σ H Q ⟨as, st, env, rel, re, g⟩ => g.here rel _ rfl
theorem s_cons (ha : L2.PE X a (tE X.K ma)) (hr : PA X es (tA X.K m)) (hs : noStar a = true) : PA X (a :: es) (tA X.K fun env st => (ma env st).bind fun d st1 => (m env st1).bind fun ds st2 => .ok (d :: ds) st2) :=
  pa_imp (pa_cons ha hr (star_cons hs _ _)) fun σ H Q ⟨as, st, env, rel, re, g⟩ => tE_mono (one_of rel re g) fun v H1 ⟨as1, st1, d, _, r1, re1, rv, g1⟩ => tA_mono (all_of r1 re1 g1) fun vs H2 ⟨as2, st2, ds, e2, r2, _, rvs, g2⟩ =>
    g2.here r2 _ ⟨v, vs, rfl, RV.mono e2 _ _ rv, rvs⟩
theorem s_tup {k : Nat} (h : PA X es (tA X.K m)) : L2.PE X (.Tuple es k pos) (tE X.K fun env st => (m env st).bind fun ds st1 => if ds.length ≤ sizeLine then .ok (.tup ds) st1 else .bad) :=
  pe_imp (pe_tup h) fun σ H Q ⟨as, st, env, rel, re, g⟩ => tA_mono (all_of rel re g) fun vs H1 ⟨as1, st1, ds, _, r1, _, rvs, g1⟩ => by
    split at g1
    · rename_i hl; exact ⟨by rw [← rvs.length]; exact hl, GE.newT g1 r1 rvs⟩
    · exact g1.elim
theorem s_lst (h : PA X es (tA X.K m)) : L2.PE X (.List es pos) (tE X.K fun env st => (m env st).bind fun ds st1 => if ds.length ≤ sizeLine then .ok (.ref st1.length) (st1 ++ [.lst ds]) else .bad) :=
  pe_imp (pe_lst h) fun σ H Q ⟨as, st, env, rel, re, g⟩ => tA_mono (all_of rel re g) fun vs H1 ⟨as1, st1, ds, _, r1, _, rvs, g1⟩ => by
    split at g1
    · rename_i hl; exact ⟨by rw [← rvs.length]; exact hl, GE.newL g1 r1 rvs⟩
    · exact g1.elim
theorem s_idx (fx : Fit X) (ha : L2.PE X a (tE X.K ma)) (hb : L2.PE X b (tE X.K mb)) (hs : noSlice b = true) : L2.PE X (.Subscript a b pos) (tE X.K fun env st => (ma env st).bind fun x st1 => (mb env st1).bind fun y st2 => idxD x y st2) :=
  pe_imp (pe_ix (ix_all (by have := fx.hu; omega)) ha hb (noSlice_ix hs)) fun σ H Q ⟨as, st, env, rel, re, g⟩ => tE_mono (two_of rel re g) fun v H1 h => tE_mono h fun u H2 ⟨as2, st2, x, y, _, r2, _, rx, ry, g2⟩ => ⟨as2, st2, x, y, r2, rx, ry, g2⟩
theorem s_rev {k : Nat} {p1 p2 p3 : Pos} (ha : L2.PE X a (tE X.K ma)) : L2.PE X (.Subscript a (.Slice none none (some (.UnaryOp .USub (.Constant (.int 1) k p1) p2)) p3) pos) (tE X.K fun env st => (ma env st).bind fun x st1 => revD x st1) :=
  pe_imp (pe_revL ha) fun σ H Q ⟨as, st, env, rel, re, g⟩ => tE_mono (one_of rel re g) fun v H1 ⟨as1, st1, d, _, r1, _, rv, g1⟩ => by
    unfold revD at g1
    split at g1
    · obtain ⟨a, vs, rfl, h1, h2⟩ := rv
      exact ⟨a, vs, rfl, h1.l, GE.newL g1 r1 h2.reverse⟩
    · split at g1
      · rename_i e
        obtain ⟨a, rfl, _, hro⟩ := r1.of_ref e rv
        obtain ⟨vs, h1, h2⟩ := ro_seq hro rfl
        exact ⟨a, vs, rfl, h1, GE.newL g1 r1 h2.reverse⟩
      · exact g1.elim
    · exact g1.elim
theorem s_noPart : PO X none (tPartA (tE X.K fun _ st => .ok .non st)) := ⟨fun pins s σ H Q I ⟨as, st, env, rel, re, g⟩ => po_none.run pins s σ H Q I (by
  rcases GE.here' g rel rfl with ⟨i, e, _⟩ | ⟨_, q⟩
  · cases e
  · exact q)⟩
theorem part_ok {mh : Env → Sto → Res D} {x l : D} {env : Env} {st : Sto} {P : D → List Addr → Hp → Prop} {as : List Addr} {H : Hp} (g : Good X.K P as H ((mh env st).bind fun h st3 => slD x l h st3)) : ∃ o, partD l = some o := by
  cases e : mh env st with
  | ok h st3 =>
    rw [e] at g
    obtain ⟨o, _, e1, _⟩ := slD_eq g
    exact ⟨o, e1⟩
  | exc _ _ _ => rw [e] at g; exact g.elim
  | bad => rw [e] at g; exact g.elim
theorem part_rv {l : D} {o : Option Int} {as : List Addr} {H : Hp} {v : V} {Q : Option Int → Hp → Prop} (e : partD l = some o) (rv : RV X.K as H l v) (q : Q o H) : (∃ i, v = .int i ∧ Q (some i) H) ∨ (v = .non ∧ Q none H) := by
  unfold partD at e
  split at e
  · cases e; exact .inr ⟨rv, q⟩
  · cases e; exact .inl ⟨_, rv, q⟩
  · cases e
theorem s_sl {ml mh : Env → Sto → Res D} {lo hi : Option Expr} {p2 : Pos} (ha : L2.PE X a (tE X.K ma)) (hl : PO X lo (tPartA (tE X.K ml))) (hh : PO X hi (tPartA (tE X.K mh))) :
    L2.PE X (.Subscript a (.Slice lo hi none p2) pos) (tE X.K fun env st => (ma env st).bind fun x st1 => (ml env st1).bind fun l st2 => (mh env st2).bind fun h st3 => slD x l h st3) :=
  pe_imp (pe_slice sl_all ha hl hh) fun σ H Q ⟨as, st, env, rel, re, g⟩ => tE_mono (one_of rel re g) fun v H1 ⟨as1, st1, x, e1, r1, re1, rv, g1⟩ => by
    refine tE_mono (one_of r1 re1 g1) fun vl H2 ⟨as2, st2, l, e2, r2, re2, rl, g2⟩ => ?_
    obtain ⟨ol, hol⟩ := part_ok g2
    refine part_rv (Q := fun l H2 => tPartA (tE X.K mh) σ H2 fun u H3 => rSlU X.K v l u H3 Q) hol rl ?_
    refine tE_mono (one_of r2 re2 g2) fun vh H3 ⟨as3, st3, h, e3, r3, re3, rh, g3⟩ => ?_
    obtain ⟨ol', oh, h1, h2, g4⟩ := slD_eq g3
    rw [hol] at h1; cases h1
    exact part_rv (Q := fun u H3 => rSlU X.K v ol u H3 Q) h2 rh ⟨as3, st3, x, r3, RV.mono e3 _ _ (RV.mono e2 _ _ rv), g4⟩
end
end PL

set_option Elab.async false
set_option linter.all false
set_option maxRecDepth 100000
set_option maxHeartbeats 2000000
/-! PLH: calls, displays of dicts, methods, targets. -/
namespace PL
open PySem PySem.Spec PyProof.Rows L2

def Es.len : Es → Nat
  | .nil => 0
  | .cons _ es => es.len + 1
def Tgs.len : Tgs → Nat
  | .nil => 0
  | .cons _ es => es.len + 1
section
variable {α β : Type} {K : PySem.W.Frag} {as : List Addr} {H : Hp}
theorem Good.bindE {P : β → List Addr → Hp → Prop} {r : Res α} {k : α → Sto → Res β} (h : Good K P as H (r.bind k)) :
    Good K (fun a as1 H1 => ∃ st1, r = .ok a st1 ∧ Ext K as H as1 H1 ∧ Rel K as1 st1 H1 ∧ Good K P as H (k a st1)) as H r := by
  cases r with
  | ok a st' => exact fun as1 H1 e r => ⟨st', rfl, e, r, h⟩
  | exc _ _ _ => exact h
  | bad => exact h
theorem Res.bind_assoc {γ : Type} (r : Res α) (f : α → Sto → Res β) (g : β → Sto → Res γ) : (r.bind f).bind g = r.bind fun a st => (f a st).bind g := by
  cases r <;> rfl
end
section
variable (F : Nat → List D → Sto → Res D) (G : List D)
theorem evs_len : ∀ (es : Es) (env : Env) (st : Sto) (ds : List D) (st' : Sto), evs F G es env st = .ok ds st' → ds.length = es.len
  | .nil, _, _, ds, _, h => by rw [evs] at h; cases h; rfl
  | .cons e es, env, st, ds, st', h => by
    rw [evs] at h
    obtain ⟨d, s1, _, h⟩ := bind_ok h
    obtain ⟨r, s2, h2, h⟩ := bind_ok h
    have := evs_len es env s1 r s2 h2
    cases h
    rw [List.length_cons, this]; rfl
/-- each of them -/
def PAll (X : Cx) : Es → List Expr → Prop
  | .nil, [] => True
  | .cons e es, x :: l => noStar x = true ∧ L2.PE X x (tE X.K (ev F G e)) ∧ PAll X es l
  | _, _ => False
variable {F G} {X : Cx}
theorem PAll.len : ∀ {es : Es} {l : List Expr}, PAll F G X es l → l.length = es.len
  | .nil, [], _ => rfl
  | .cons e es, x :: l, h => by rw [List.length_cons, PAll.len h.2.2]; rfl
  | .nil, _ :: _, h => h.elim
  | .cons _ _, [], h => h.elim
theorem PAll.stars : ∀ {es : Es} {l : List Expr}, PAll F G X es l → l.all noStar = true
  | .nil, [], _ => rfl
  | .cons e es, x :: l, h => by rw [List.all_cons, h.1, PAll.stars h.2.2]; rfl
  | .nil, _ :: _, h => h.elim
  | .cons _ _, [], h => h.elim
theorem evs_nil : (fun (_ : Env) (st : Sto) => (Res.ok ([] : List D) st)) = evs F G .nil := by funext env st; rw [evs]
theorem evs_cons (e : E) (es : Es) : (fun (env : Env) (st : Sto) => (ev F G e env st).bind fun d st1 => (evs F G es env st1).bind fun ds st2 => .ok (d :: ds) st2) = evs F G (.cons e es) := by funext env st; rw [evs]
theorem evs_nilE (env : Env) (st : Sto) : evs F G .nil env st = .ok [] st := by rw [evs]
theorem evs_consE (e : E) (es : Es) (env : Env) (st : Sto) : evs F G (.cons e es) env st = (ev F G e env st).bind fun d st1 => (evs F G es env st1).bind fun ds st2 => .ok (d :: ds) st2 := by rw [evs]
theorem PAll.pa : ∀ {es : Es} {l : List Expr}, PAll F G X es l → PA X l (tA X.K (evs F G es))
  | .nil, [], _ => by rw [← evs_nil]; exact s_nil
  | .cons e es, x :: l, h => by rw [← evs_cons]; exact s_cons h.2.1 (PAll.pa h.2.2) h.1
  | .nil, _ :: _, h => h.elim
  | .cons _ _, [], h => h.elim
theorem PAll.pk : ∀ {es : Es} {kl : List Keyword}, PAll F G X es (kl.map (·.value)) → PK X kl (tA X.K (evs F G es))
  | .nil, [], _ => by
    rw [← evs_nil]
    exact pk_imp pk_nil fun σ H Q ⟨as, st, env, rel, re, g⟩ => g.here rel _ rfl
  | .cons e es, ⟨nm, x, kp⟩ :: l, h => by
    rw [← evs_cons]
    exact pk_imp (pk_cons h.2.1 (PAll.pk h.2.2)) fun σ H Q ⟨as, st, env, rel, re, g⟩ => tE_mono (one_of rel re g) fun v H1 ⟨as1, st1, d, _, r1, re1, rv, g1⟩ => tA_mono (all_of r1 re1 g1) fun vs H2 ⟨as2, st2, ds, e2, r2, _, rvs, g2⟩ =>
      g2.here r2 _ ⟨v, vs, rfl, RV.mono e2 _ _ rv, rvs⟩
  | .nil, _ :: _, h => h.elim
  | .cons _ _, [], h => h.elim
/-- all of them, with their number -/
theorem evs_of {β : Type} {es : Es} {P : β → List Addr → Hp → Prop} {as : List Addr} {st : Sto} {env : Env} {σ : L2.St} {H : Hp} {f : List D → Sto → Res β} (rel : Rel X.K as st H) (re : REnv X.K as H env σ) (g : Good X.K P as H ((evs F G es env st).bind f)) :
    tA X.K (evs F G es) σ H fun vs H1 => ∃ as1 st1 ds, Ext X.K as H as1 H1 ∧ Rel X.K as1 st1 H1 ∧ REnv X.K as1 H1 env σ ∧ RVs X.K as1 H1 ds vs ∧ ds.length = es.len ∧ Good X.K P as1 H1 (f ds st1) :=
  ⟨as, st, env, rel, re, g.bindE.imp fun ds as1 H1 e1 ⟨st1, eq, _, r1, g1⟩ v rv => ⟨as1, st1, ds, e1, r1, re.mono e1, rv, evs_len F G es env st ds st1 eq, g1.mono e1⟩⟩

/-! ### calls -/
theorem s_call {k : Nat} {x : Str} {p pos : Pos} {ps : List Str} {kws : List (Nat × List Str × List Nat)} {Ff : List D → Sto → Res D} {f : Addr} {fd : FuncData} {es : Es} {l : List Expr}
    (Fa : FnAt X CXP k x ps kws (spU X.K Ff ps.length) f fd) (fx : Fit X) (hr : Room k X.A) (hgl : Gl X x) (hdb : (x == ("__debug__" : Str)) = false) (h : PAll F G X es l) (hn : l.length = ps.length) :
    L2.PE X (.Call (.Name x p) l [] pos) (tE X.K fun env st => (evs F G es env st).bind fun ds st1 => Ff ds st1) := by
  have core : ∀ σ H Q, tE X.K (fun env st => (evs F G es env st).bind fun ds st1 => Ff ds st1) σ H Q → tCall (spU X.K Ff ps.length) [] (fun _ _ _ => False) (tA X.K (evs F G es)) σ H Q := fun σ H Q ⟨as, st, env, rel, re, g⟩ =>
    tA_mono (evs_of rel re g) fun vs H1 ⟨as1, st1, ds, _, r1, _, rvs, hl, g1⟩ => ⟨as1, st1, ds, r1, by rw [List.append_nil]; exact rvs, by rw [hl, ← h.len, hn], g1⟩
  cases es with
  | nil => cases l with
    | nil =>
      refine pe_imp (pe_callG0 (E := fun _ _ _ => False) Fa fx.hg hr hgl passP hdb) fun σ H Q ht => ?_
      obtain ⟨as, st, env, rel, re, g⟩ := core σ H Q ht
      rw [evs_nilE] at g
      exact g.here rel _ rfl
    | cons _ _ => exact h.elim
  | cons e es => cases l with
    | nil => exact h.elim
    | cons y l => exact pe_imp (pe_callG (E := fun _ _ _ => False) Fa fx.hg hr hgl passP h.pa hdb (star_cons h.1 _ _) (stars_plain (PAll.stars h.2.2))) core
theorem kw_all {env : PySem.Env} {pos : Pos} : ∀ {kl : List Keyword}, kl.all (·.arg.isSome) = true → (backToKw pos (keywordEach kl env)).all (·.1.isSome) = true
  | [], _ => rfl
  | ⟨nm, e, p⟩ :: kl, h => by
    rw [List.all_cons, Bool.and_eq_true] at h
    have ih := kw_all (env := env) (pos := pos) h.2
    simp only [keywordEach, backToKw, List.map_cons, List.all_cons, Bool.and_eq_true] at ih ⊢
    exact ⟨h.1, ih⟩
theorem kw_none {env : PySem.Env} {pos : Pos} : ∀ {kl : List Keyword}, kl.all (·.arg.isSome) = true → (backToKw pos (keywordEach kl env)).any (·.1.isNone) = false
  | [], _ => rfl
  | ⟨nm, e, p⟩ :: kl, h => by
    rw [List.all_cons, Bool.and_eq_true] at h
    have ih := kw_none (env := env) (pos := pos) h.2
    simp only [keywordEach, backToKw, List.map_cons, List.any_cons, Bool.or_eq_false_iff] at ih ⊢
    refine ⟨?_, ih⟩
    have := h.1
    cases nm <;> simp_all
theorem kw_names {env : PySem.Env} {pos : Pos} : ∀ {kl : List Keyword}, (backToKw pos (keywordEach kl env)).filterMap (·.1) = kl.filterMap (·.arg)
  | [] => rfl
  | ⟨nm, e, p⟩ :: kl => by
    have ih := kw_names (env := env) (pos := pos) (kl := kl)
    simp only [keywordEach, backToKw, List.map_cons, List.filterMap_cons] at ih ⊢
    rw [ih]
theorem RVs.getD {K : PySem.W.Frag} {as : List Addr} {H : Hp} {ds : List D} {vs : List V} (h : RVs K as H ds vs) (j : Nat) : RV K as H (ds.getD j .non) (vs.getD j .non) := by
  cases e : ds[j]? with
  | none => rw [List.getD_eq_getElem?_getD, List.getD_eq_getElem?_getD, e, h.none_of e]; rfl
  | some d =>
    obtain ⟨v, e1, r⟩ := h.get e
    rw [List.getD_eq_getElem?_getD, List.getD_eq_getElem?_getD, e, e1]; exact r
theorem RVs.perm {K : PySem.W.Frag} {as : List Addr} {H : Hp} {ds : List D} {vs : List V} (h : RVs K as H ds vs) : ∀ g : List Nat, RVs K as H (g.map fun j => ds.getD j .non) (g.map fun j => vs.getD j .non)
  | [] => rfl
  | j :: g => ⟨_, _, rfl, h.getD j, RVs.perm h g⟩
theorem s_callK {k : Nat} {x : Str} {p pos : Pos} {ps : List Str} {kws : List (Nat × List Str × List Nat)} {Ff : List D → Sto → Res D} {f : Addr} {fd : FuncData} {es ks : Es} {l : List Expr} {kl : List Keyword} {g : List Nat}
    (Fa : FnAt X CXP k x ps kws (spU X.K Ff ps.length) f fd) (fx : Fit X) (hr : Room k X.A) (hgl : Gl X x) (hdb : (x == ("__debug__" : Str)) = false) (h : PAll F G X es l) (hk : PAll F G X ks (kl.map (·.value)))
    (hall : kl.all (·.arg.isSome) = true) (hq : (l.length, kl.filterMap (·.arg), g) ∈ kws) (hg : g.length = ps.length) :
    L2.PE X (.Call (.Name x p) l kl pos) (tE X.K fun env st => (evs F G es env st).bind fun ds st1 => (evs F G ks env st1).bind fun zs st2 => Ff (g.map fun j => (ds ++ zs).getD j .non) st2) := by
  have hlen : (kl.filterMap (·.arg)).length = kl.length := by
    clear hk hq
    induction kl with
    | nil => rfl
    | cons q kl ih =>
      rw [List.all_cons, Bool.and_eq_true] at hall
      obtain ⟨nm, hnm⟩ := Option.isSome_iff_exists.mp hall.1
      rw [List.filterMap_cons, hnm]
      simp [ih hall.2]
  have hkl : kl.length = ks.len := by rw [← hk.len, List.length_map]
  have core : ∀ σ H Q, tE X.K (fun env st => (evs F G es env st).bind fun ds st1 => (evs F G ks env st1).bind fun zs st2 => Ff (g.map fun j => (ds ++ zs).getD j .non) st2) σ H Q →
      tCallP (spU X.K Ff ps.length) l.length (kl.filterMap (·.arg)).length g (fun _ _ _ => False) (tA X.K (evs F G es)) (tA X.K (evs F G ks)) σ H Q := fun σ H Q ⟨as, st, env, rel, re, gg⟩ =>
    tA_mono (evs_of rel re gg) fun vs H1 ⟨as1, st1, ds, _, r1, re1, rvs, hl, g1⟩ => tA_mono (evs_of r1 re1 g1) fun zs H2 ⟨as2, st2, es2, e2, r2, _, rvz, hl2, g2⟩ =>
      ⟨by rw [← rvs.length, hl, h.len], by rw [← rvz.length, hl2, hlen, hkl], as2, st2, _, r2, ((RVs.mono e2 _ _ rvs).append rvz).perm g, by rw [List.length_map, hg], g2⟩
  cases es with
  | nil => cases l with
    | nil =>
      refine pe_imp (pe_callGK0 (E := fun _ _ _ => False) Fa fx.hg hr hgl passP hq hk.pk (kw_all hall) kw_names hdb ?_) fun σ H Q ht => ?_
      · rw [kw_none hall, Bool.or_false]; rfl
      · obtain ⟨as, st, env, rel, re, gg⟩ := core σ H Q ht
        rw [evs_nilE] at gg
        exact gg.here rel _ rfl
    | cons _ _ => exact h.elim
  | cons e es => cases l with
    | nil => exact h.elim
    | cons y l =>
      refine pe_imp (pe_callGK (E := fun _ _ _ => False) Fa fx.hg hr hgl passP hq h.pa hk.pk (kw_all hall) kw_names hdb (star_cons h.1 _ _) ?_) core
      rw [kw_none hall, Bool.or_false]
      exact stars_plain h.stars

/-! ### built-ins -/
theorem boot_of (b : Blt) (hb : b.plain = true) : bootBuiltins b.nm = some b.val := by
  cases b <;> first | (cases hb; done) | decide +kernel
theorem s_blt {b : Blt} (hb : b.plain = true) (fx : Fit X) {es : Es} {l : List Expr} {p pos : Pos} (hgl : Gl X b.nm) (hm : X.mg b.nm = none) (h : PAll F G X es l) (h0 : l ≠ []) :
    L2.PE X (.Call (.Name b.nm p) l [] pos) (tE X.K fun env st => (evs F G es env st).bind fun ds st1 => bltD b ds st1) := by
  have core : ∀ σ H Q, tE X.K (fun env st => (evs F G es env st).bind fun ds st1 => bltD b ds st1) σ H Q → tCB (rCallU X.K b) (tA X.K (evs F G es)) σ H Q := fun σ H Q ⟨as, st, env, rel, re, g⟩ =>
    tA_mono (all_of rel re g) fun vs H1 ⟨as1, st1, ds, _, r1, _, rvs, g1⟩ => ⟨as1, st1, ds, r1, rvs, g1⟩
  have hn : b.nm ≠ ("__name__" : Str) := by cases b <;> first | (cases hb; done) | decide
  have hdb : (b.nm == ("__debug__" : Str)) = false := by cases b <;> first | (cases hb; done) | decide
  have hc := call_all fx b hb
  have hv := boot_of b hb
  cases l with
  | nil => exact absurd rfl h0
  | cons y l => cases es with
    | nil => exact h.elim
    | cons e es =>
      refine pe_imp ?_ core
      cases b <;> first
        | (cases hb; done)
        | exact pe_callB hc hgl hm hv h.pa hn hdb (star_cons h.1 _ _) (stars_plain (PAll.stars h.2.2))
        | exact pe_callTy hc hgl hm hv h.pa hn hdb (star_cons h.1 _ _) (stars_plain (PAll.stars h.2.2))
theorem boot_ty (t : Ty) : bootBuiltins t.sn = some (.type t.nm) := by cases t <;> decide +kernel
theorem s_isi {t : Ty} {e : E} {a : Expr} {p pos py : Pos} (hgl : Gl X "isinstance") (hm : X.mg "isinstance" = none) (hgy : Gl X t.sn) (hmy : X.mg t.sn = none) (ha : L2.PE X a (tE X.K (ev F G e))) (hs : noStar a = true) :
    L2.PE X (.Call (.Name "isinstance" p) [a, .Name t.sn py] [] pos) (tE X.K fun env st => (evs F G (.cons e .nil) env st).bind fun ds st1 => bltD (.isi t) ds st1) := by
  have hty : L2.PE X (.Name t.sn py) (tC (.ty t.nm)) := pe_bltn hgy hmy (boot_ty t) rfl (by cases t <;> decide) (by cases t <;> decide)
  have hc : CallR X (.builtin "isinstance") (fun vs H Q => ∃ as st v d b, vs = [v, .ty t.nm] ∧ Rel X.K as st H ∧ RV X.K as H d v ∧ isiD st t d = some b ∧ Q (.bl b) H) := by
    intro pins s σ H vs us Q I r h
    obtain ⟨as, st, v, d, b, rfl, rel, rv, eq, q⟩ := h
    exact isi_run I r rel rv eq q
  refine pe_imp (pe_callB (x := "isinstance") hc hgl hm (by decide +kernel) (pa_cons ha (pa_cons hty pa_nil) (star_cons hs _ _)) (by decide) (by decide) (star_cons hs _ _)) fun σ H Q ⟨as, st, env, rel, re, g⟩ => ?_
  have g : Good X.K (PE' X.K Q) as H ((evs F G (.cons e .nil) env st).bind fun ds st1 => bltD (.isi t) ds st1) := g
  simp only [evs_consE, evs_nilE, Res.bind_assoc, Res.bind_ok] at g
  show tCons (tE X.K (ev F G e)) (tCons (tC (.ty t.nm)) tNil) σ H _
  refine tE_mono (one_of rel re g) fun v H1 ⟨as1, st1, d, _, r1, re1, rv, g1⟩ => ?_
  obtain ⟨z, e1, g2⟩ := Good.lift (o := (isiD st1 t d).map D.bl) g1
  obtain ⟨b, e2, rfl⟩ := Option.map_eq_some_iff.mp e1
  exact ⟨as1, st1, v, d, b, rfl, r1, rv, e2, g2.here r1 _ rfl⟩

/-! ### methods of lists -/
theorem s_meth {m : Mt} {e : E} {es : Es} {o : Expr} {l : List Expr} {ap cp : Pos} (ho : L2.PE X o (tE X.K (ev F G e))) (h : PAll F G X es l) (hb : noBase o = true) (hl : (ap.endLine == cp.line) = true) (h30 : l.length < 30) :
    L2.PE X (.Call (.Attribute o m.nm ap) l [] cp) (tE X.K fun env st => (ev F G e env st).bind fun x st1 => if isLst x st1 = true then (evs F G es env st1).bind fun ds st2 => methD m x ds st2 else .bad) := by
  have core : ∀ σ H Q, tE X.K (fun env st => (ev F G e env st).bind fun x st1 => if isLst x st1 = true then (evs F G es env st1).bind fun ds st2 => methD m x ds st2 else .bad) σ H Q →
      tBM X.K "list" (rMtU X.K m) (tE X.K (ev F G e)) (tA X.K (evs F G es)) σ H Q := fun σ H Q ⟨as, st, env, rel, re, g⟩ =>
    tE_mono (one_of rel re g) fun v H1 ⟨as1, st1, d, _, r1, re1, rv, g1⟩ => by
      split at g1
      · rename_i hi
        refine ⟨?_, tA_mono (all_of r1 re1 g1) fun vs H2 ⟨as2, st2, ds, e2, r2, _, rvs, g2⟩ => ⟨as2, st2, d, ds, r2, RV.mono e2 _ _ rv, rvs, g2⟩⟩
        unfold isLst at hi
        split at hi
        · split at hi
          · rename_i e
            obtain ⟨a, rfl, _, hro⟩ := r1.of_ref e rv
            obtain ⟨vs, h1, _⟩ := ro_seq hro rfl
            exact .inl ⟨rfl, vs, h1⟩
          · cases hi
        · cases hi
      · exact g1.elim
  have hslot : Slot "list" m.nm m.id := by
    cases m
    · exact PySem.F.slot_list_append
    · exact PySem.F.slot_list_pop
    · exact PySem.F.slot_list_pop
    · exact PySem.F.slot_list_insert
    · exact PySem.F.slot_list_extend
  have hty : typeOf (.builtin m.id) = pure (.type "method_descriptor") := by
    cases m
    · exact PySem.F.type_list_append
    · exact PySem.F.type_list_pop
    · exact PySem.F.type_list_pop
    · exact PySem.F.type_list_insert
    · exact PySem.F.type_list_extend
  cases es with
  | nil => cases l with
    | nil =>
      refine pe_imp (pe_bm0 PySem.F.plainAttrs_list hslot hty (mt_all m) ho (noBase_is hb _ _ _) hl) fun σ H Q ht => ?_
      refine tE_mono (core σ H Q ht) fun v H1 ⟨h1, as1, st1, env1, r1, re1, g1⟩ => ⟨h1, ?_⟩
      rw [evs_nilE] at g1
      exact g1.here r1 _ rfl
    | cons _ _ => exact h.elim
  | cons e' es => cases l with
    | nil => exact h.elim
    | cons y l =>
      refine pe_imp (pe_bm PySem.F.plainAttrs_list hslot hty (mt_all m) ho h.pa (noBase_is hb _ _ _) ?_ hl (star_cons h.1 _ _) (stars_plain (PAll.stars h.2.2))) core
      rw [stars_all h.stars]
      simpa [keywordEach, backToKw] using h30

/-! ### displays of dicts -/
section
variable {β : Type} {K : PySem.W.Frag} {P : β → List Addr → Hp → Prop} {as0 as : List Addr} {H0 H : Hp} {st : Sto} {env : Env} {σ : L2.St}
/-- as one_of; what is to come is told from an elder place -/
theorem one_ofE {ma : Env → Sto → Res D} {f : D → Sto → Res β} (e : Ext K as0 H0 as H) (rel : Rel K as st H) (re : REnv K as H env σ) (g : Good K P as0 H0 ((ma env st).bind f)) :
    tE K ma σ H fun v H1 => ∃ as1 st1 d, Ext K as H as1 H1 ∧ Rel K as1 st1 H1 ∧ REnv K as1 H1 env σ ∧ RV K as1 H1 d v ∧ Good K P as0 H0 (f d st1) :=
  ⟨as, st, env, rel, re, (g.bindE.mono e).imp fun d as1 H1 e1 ⟨st1, _, _, r1, g1⟩ v rv => ⟨as1, st1, d, e1, r1, re.mono e1, rv, g1⟩⟩
theorem test_ofE {m : Env → Sto → Res Bool} {f : Bool → Sto → Res β} (e : Ext K as0 H0 as H) (rel : Rel K as st H) (re : REnv K as H env σ) (g : Good K P as0 H0 ((m env st).bind f)) :
    tT K m σ H fun b H1 => ∃ as1 st1, Ext K as H as1 H1 ∧ Rel K as1 st1 H1 ∧ REnv K as1 H1 env σ ∧ Good K P as0 H0 (f b st1) :=
  ⟨as, st, env, rel, re, (g.bindE.mono e).imp fun d as1 H1 e1 ⟨st1, _, _, r1, g1⟩ => ⟨as1, st1, e1, r1, re.mono e1, g1⟩⟩
theorem tg_ofE {own : List Nat → Bool} {m : D → Env → Sto → Res Env} {f : Env → Sto → Res β} {d : D} {v : V} (e : Ext K as0 H0 as H) (rel : Rel K as st H) (re : REnv K as H env σ) (rv : RV K as H d v) (g : Good K P as0 H0 ((m d env st).bind f)) :
    tG K own m v σ H fun σ' H1 => ∃ as1 st1 env1, Ext K as H as1 H1 ∧ Rel K as1 st1 H1 ∧ REnv K as1 H1 env1 σ' ∧ (∀ vs, own vs = true → wipe σ' vs = wipe σ vs) ∧ Good K P as0 H0 (f env1 st1) :=
  ⟨as, st, env, d, rel, re, rv, (g.bindE.mono e).imp fun env1 as1 H1 e1 ⟨st1, _, _, r1, g1⟩ σ' re1 hw => ⟨as1, st1, env1, e1, r1, re1, hw, g1⟩⟩
end
def prs (K : PySem.W.Frag) (F : Nat → List D → Sto → Res D) (G : List D) : List Key → Es → List (TE × TE)
  | k :: ks, .cons e es => (tC (kV k), tE K (ev F G e)) :: prs K F G ks es
  | _, _ => []
theorem key_pe {k : Key} {e : Option Expr} (h : keyB k e = true) : ∃ x, e = some x ∧ L2.PE X x (tC (kV k)) := by
  cases e with
  | none => cases h
  | some x =>
    refine ⟨x, rfl, ?_⟩
    unfold keyB at h
    simp only [] at h
    split at h
    · rename_i j i e
      obtain ⟨_, _, rfl⟩ := asConst_eq e
      cases of_decide_eq_true h
      exact pe_int
    · rename_i y z e
      obtain ⟨_, _, rfl⟩ := asConst_eq e
      cases of_decide_eq_true h
      exact pe_str
    · cases h
theorem pps_of {pos : Pos} : ∀ {ks : List Key} {es : Es} {kl : List (Option Expr)} {vl : List Expr}, keysB ks kl = true → kl.length = vl.length → PAll F G X es vl → PPs X pos kl vl (prs X.K F G ks es)
  | [], .nil, [], [], _, _, _ => pps_nil
  | k :: ks, .cons e es, x :: kl, v :: vl, hk, hl, h => by
    unfold keysB at hk
    rw [Bool.and_eq_true] at hk
    obtain ⟨y, rfl, hy⟩ := key_pe (X := X) hk.1
    exact pps_cons hy h.2.1 (pps_of hk.2 (by simpa using hl) h.2.2)
  | [], _, _ :: _, _, hk, _, _ => by cases hk
  | _ :: _, _, [], _, hk, _, _ => by cases hk
  | [], _, [], _ :: _, _, hl, _ => by cases hl
  | _ :: _, _, _ :: _, [], _, hl, _ => by cases hl
  | _, .nil, _, _ :: _, _, _, h => h.elim
  | _, .cons _ _, _, [], _, _, h => h.elim
theorem key_some {k : Key} {e : Option Expr} (h : keyB k e = true) : e.isSome = true := by
  cases e with
  | none => cases h
  | some x => rfl
theorem keysB_all : ∀ {ks : List Key} {kl : List (Option Expr)}, keysB ks kl = true → kl.all (·.isSome) = true ∧ ks.length = kl.length
  | [], [], _ => ⟨rfl, rfl⟩
  | k :: ks, x :: kl, h => by
    unfold keysB at h
    rw [Bool.and_eq_true] at h
    obtain ⟨h1, h2⟩ := keysB_all h.2
    exact ⟨by rw [List.all_cons, h1, key_some h.1]; rfl, by rw [List.length_cons, List.length_cons, h2]⟩
  | [], _ :: _, h => by cases h
  | _ :: _, [], h => by cases h
theorem prs_run {K : PySem.W.Frag} {σ : L2.St} {β : Type} {P : β → List Addr → Hp → Prop} {env : Env} {as0 : List Addr} {H0 : Hp} : ∀ {ks : List Key} {es : Es} {as : List Addr} {st : Sto} {H : Hp} {f : List D → Sto → Res β} {Q : List (V × V) → Hp → Prop}, ks.length = es.len →
    Ext K as0 H0 as H → Rel K as st H → REnv K as H env σ → Good K P as0 H0 ((evs F G es env st).bind f) →
    (∀ (as' : List Addr) (st' : Sto) (H' : Hp) (ds : List D) (vs : List V), Ext K as H as' H' → Rel K as' st' H' → RVs K as' H' ds vs → ds.length = ks.length → Good K P as0 H0 (f ds st') → Q ((ks.zip vs).map fun kv => (kV kv.1, kv.2)) H') →
    tPairs (prs K F G ks es) σ H Q
  | [], .nil, as, st, H, f, Q, _, e, rel, re, g, hq => by
    rw [evs_nilE] at g
    exact hq as st H [] [] Ext.refl rel rfl rfl g
  | k :: ks, .cons x es, as, st, H, f, Q, hl, e, rel, re, g, hq => by
    simp only [evs_consE, Res.bind_assoc, Res.bind_ok] at g
    show tE K (ev F G x) σ H _
    refine tE_mono (one_ofE e rel re g) fun v H1 ⟨as1, st1, d, e1, r1, re1, rv, g1⟩ => ?_
    refine prs_run (Nat.succ.inj hl) (e.trans e1) r1 re1 g1 fun as' st' H' ds vs e2 r2 rvs hl2 g2 => ?_
    exact hq as' st' H' (d :: ds) (v :: vs) (e1.trans e2) r2 ⟨v, vs, rfl, RV.mono e2 _ _ rv, rvs⟩ (by rw [List.length_cons, List.length_cons, hl2]) g2
  | [], .cons _ _, _, _, _, _, _, hl, _, _, _, _, _ => by cases hl
  | _ :: _, .nil, _, _, _, _, _, hl, _, _, _, _, _ => by cases hl
theorem merge_of {K : PySem.W.Frag} {as : List Addr} {H : Hp} : ∀ {ks : List Key} {ds : List D} {vs : List V} {acc : List (Key × D)} {acv : List (Key × V)}, RVs K as H ds vs → RKV K as H acc acv →
    RKV K as H ((ks.zip ds).foldl (fun acc kv => putKV acc kv.1 kv.2) acc) (mergeK acv (ks.zip vs))
  | [], _, _, _, _, _, r => r
  | k :: ks, [], _, _, _, h, r => by have h : _ = [] := h; subst h; exact r
  | k :: ks, d :: ds, _, _, _, h, r => by
    obtain ⟨v, vs, rfl, h1, h2⟩ := h
    exact merge_of (ks := ks) (ds := ds) (vs := vs) h2 (putKV_of r h1)
theorem s_dic {ks : List Key} {es : Es} {kl : List (Option Expr)} {vl : List Expr} {pos : Pos} (hk : keysB ks kl = true) (hl : kl.length = vl.length) (h15 : kl.length ≤ 15) (h : PAll F G X es vl) (h0 : kl ≠ []) :
    L2.PE X (.Dict kl vl pos) (tE X.K fun env st => (evs F G es env st).bind fun ds st1 => if ks.length = ds.length ∧ ks.length ≤ 15 then
      .ok (.ref st1.length) (st1 ++ [.dct ((ks.zip ds).foldl (fun acc kv => putKV acc kv.1 kv.2) [])]) else .bad) := by
  obtain ⟨ha, hl2⟩ := keysB_all hk
  refine pe_imp (pe_disp (pps_of hk hl h) ha hl h0 h15) fun σ H Q ⟨as, st, env, rel, re, g⟩ => ?_
  intro p hp
  have e0 : Ext X.K as H as (upd H p (.dK [])) := Ext.laid hp
  have hpa : p ∉ as := rel.out hp
  refine prs_run (as0 := as) (H0 := H) (by rw [hl2, hl, h.len]) e0 (rel.laid hp) (re.mono e0) g fun as' st' H' ds vs e1 r1 rvs hl3 g1 => ?_
  have hp1 : H' p = some (.dK []) := e1.frm p _ hpa upd_same
  refine ⟨hp1, ks.zip vs, rfl, ?_, ?_⟩
  · have := List.length_zip (l₁ := ks) (l₂ := vs); omega
  · split at g1
    · have hm : (∀ vs : List V, (HO.dK []) ≠ .tup vs) ∧ ∀ o w, (HO.dK []) ≠ .frz o w := ⟨fun _ z => (by cases z), fun _ _ z => (by cases z)⟩
      have hpa' : p ∉ as' := e1.out upd_same hpa
      have ew : Ext X.K as H as' (upd H' p (.dK (mergeK [] (ks.zip vs)))) := (e0.trans e1).side hp hp1 hm
      have ea := ew.adopt hp
      have rs : Rel X.K as' st' (upd H' p (.dK (mergeK [] (ks.zip vs)))) := r1.side hpa' hp1 hm
      have hro : RO X.K (as' ++ [p]) (upd H' p (.dK (mergeK [] (ks.zip vs)))) (.dct ((ks.zip ds).foldl (fun acc kv => putKV acc kv.1 kv.2) [])) p :=
        ⟨_, upd_same, RKV.monoW Wk.snoc _ _ (RKV.monoW (Wk.side hp1 hm) _ _ (merge_of rvs rfl))⟩
      have ra := rs.adopt hpa' hro
      exact g1 _ _ ea ra _ ⟨p, rfl, by rw [List.getElem?_append_right (by rw [r1.len]; exact Nat.le_refl _), r1.len]; simp⟩
    · exact g1.elim
end
end PL

set_option Elab.async false
set_option linter.all false
set_option maxRecDepth 100000
set_option maxHeartbeats 2000000
/-! PLJ: targets, what is walked, list comprehensions. -/
namespace PL
open PySem PySem.Spec PyProof.Rows L2

section
variable {F : Nat → List D → Sto → Res D} {G : List D} {X : Cx}
/-! ### targets -/
theorem wipe_set {σ : L2.St} {i : Nat} {x : Option V} : ∀ {vs : List Nat}, vs.contains i = true → wipe (σ.set i x) vs = wipe σ vs
  | [], h => by cases h
  | v :: vs, h => by
    unfold L2.wipe
    by_cases hv : v = i
    · subst hv
      have aux : ∀ us : List Nat, (wipe (σ.set v x) us).set v none = (wipe σ us).set v none := by
        intro us
        induction us with
        | nil => unfold L2.wipe; rw [List.set_set]
        | cons u us ih =>
          unfold L2.wipe
          by_cases hu : u = v
          · subst hu; rw [List.set_set, List.set_set]; exact ih
          · rw [List.set_comm _ _ hu, List.set_comm _ _ hu, ih]
      exact aux vs
    · have h' : vs.contains i = true := by
        rw [List.contains_cons] at h
        simpa [show (i == v) = false from by simpa using fun z => hv z.symm] using h
      rw [wipe_set h']
theorem s_name {i : Nat} {x : Str} {p : Pos} (hN : X.N.Nodup) (hi : X.N[i]? = some x) (hx : Loc X.env.scope x) (hf : X.fn x = true ∨ X.env.scope.names.lookup x = some .local) :
    PG X (.Name x p) (tG X.K (tgOwn (.name i)) fun d env st => .ok (env.set i (some d)) st) :=
  pg_imp (pg_name hN hi hx hf) fun v σ H Q ⟨as, st, env, d, rel, re, rv, g⟩ => g.here rel _ (re.set rv i) fun vs h => wipe_set h
/-- each of the targets -/
def PGAll (F : Nat → List D → Sto → Res D) (G : List D) (X : Cx) : Tgs → List Expr → Prop
  | .nil, [] => True
  | .cons t ts, x :: l => noStar x = true ∧ PG X x (tG X.K (tgOwn t) (asg F G t)) ∧ PGAll F G X ts l
  | _, _ => False
theorem PGAll.len : ∀ {ts : Tgs} {l : List Expr}, PGAll F G X ts l → l.length = ts.len
  | .nil, [], _ => rfl
  | .cons e es, x :: l, h => by rw [List.length_cons, PGAll.len h.2.2]; rfl
  | .nil, _ :: _, h => h.elim
  | .cons _ _, [], h => h.elim
theorem assign_cons {e : Expr} (h : noStar e = true) (es : List Expr) (env : PySem.Env) : assignEach (e :: es) env = (false, assign e env) :: assignEach es env := by
  cases e <;> first | rfl | cases h
theorem PGAll.each : ∀ {ts : Tgs} {l : List Expr}, PGAll F G X ts l → (assignEach l X.env).length = l.length ∧ (assignEach l X.env).findIdx? (·.1) = none
  | .nil, [], _ => ⟨rfl, rfl⟩
  | .cons e es, x :: l, h => by
    obtain ⟨h1, h2⟩ := PGAll.each h.2.2
    rw [assign_cons h.1, List.length_cons, List.length_cons, h1]
    exact ⟨rfl, by rw [List.findIdx?_cons]; simp [h2]⟩
  | .nil, _ :: _, h => h.elim
  | .cons _ _, [], h => h.elim
theorem asgs_nilE (env : Env) (st : Sto) : asgs F G .nil [] env st = .ok env st := by rw [asgs]
theorem asgs_consE (t : Tg) (ts : Tgs) (d : D) (ds : List D) (env : Env) (st : Sto) : asgs F G (.cons t ts) (d :: ds) env st = (asg F G t d env st).bind fun env1 st1 => asgs F G ts ds env1 st1 := by rw [asgs]
theorem asgs_bad1 (t : Tg) (ts : Tgs) (env : Env) (st : Sto) : asgs F G (.cons t ts) [] env st = .bad := by rw [asgs] <;> simp
theorem asgs_bad2 (d : D) (ds : List D) (env : Env) (st : Sto) : asgs F G .nil (d :: ds) env st = .bad := by rw [asgs] <;> simp
theorem asgs_len {K : PySem.W.Frag} : ∀ {ts : Tgs} {ds : List D} {env : Env} {st : Sto} {P : Env → List Addr → Hp → Prop} {as : List Addr} {H : Hp}, Good K P as H (asgs F G ts ds env st) → ds.length = ts.len
  | .nil, [], _, _, _, _, _, _ => rfl
  | .nil, _ :: _, _, _, _, _, _, g => by rw [asgs_bad2] at g; exact g.elim
  | .cons _ _, [], _, _, _, _, _, g => by rw [asgs_bad1] at g; exact g.elim
  | .cons t ts, d :: ds, env, st, P, as, H, g => by
    rw [asgs_consE] at g
    cases e : asg F G t d env st with
    | ok env1 st1 => rw [e] at g; rw [List.length_cons, asgs_len (K := K) (P := P) (as := as) (H := H) g]; rfl
    | exc _ _ _ => rw [e] at g; exact g.elim
    | bad => rw [e] at g; exact g.elim
theorem PGAll.pgs : ∀ {ts : Tgs} {l : List Expr}, PGAll F G X ts l → PGs X l (tGs X.K (tgOwn.tgsOwn ts) (asgs F G ts))
  | .nil, [], _ => pgs_imp pgs_nil fun vs σ H Q ⟨as, st, env, ds, rel, re, rv, g⟩ => by
    have hl := asgs_len g
    cases ds with
    | cons _ _ => cases hl
    | nil =>
      have rv : vs = [] := rv
      rw [asgs_nilE] at g
      exact ⟨rv, g.here rel _ re fun _ _ => rfl⟩
  | .cons t ts, x :: l, h => pgs_imp (pgs_cons h.2.1 (PGAll.pgs h.2.2) (by rw [assign_cons h.1]; rfl)) fun vs σ H Q ⟨as, st, env, ds, rel, re, rv, g⟩ => by
    have hl := asgs_len g
    cases ds with
    | nil => cases hl
    | cons d ds =>
      obtain ⟨v, r, rfl, r1, r2⟩ := rv
      rw [asgs_consE] at g
      refine ⟨v, r, rfl, as, st, env, d, rel, re, r1, g.bind.imp fun env1 as1 H1 e1 ⟨st1, _, rel1, g1⟩ σ1 re1 hw => ?_⟩
      refine ⟨as1, st1, env1, ds, rel1, re1, RVs.mono e1 _ _ r2, g1.imp fun env2 as2 H2 e2 q σ2 re2 hw2 => q σ2 re2 fun own ho => ?_⟩
      have ho : (tgOwn t own && tgOwn.tgsOwn ts own) = true := ho
      rw [Bool.and_eq_true] at ho
      rw [hw2 own ho.2, hw own ho.1]
  | .nil, _ :: _, h => h.elim
  | .cons _ _, [], h => h.elim
theorem s_tgtup (fx : Fit X) {ts : Tgs} {l : List Expr} {k : Nat} {p : Pos} (h : PGAll F G X ts l) : PG X (.Tuple l k p) (tG X.K (tgOwn (.tup ts)) fun d env st => match partsOf d st with
    | some ds => asgs F G ts ds env st
    | none => .bad) := by
  obtain ⟨h1, h2⟩ := h.each
  refine pg_imp (pg_or (pg_tup fx.hc h.pgs h1 h2) (pg_unl fx.hc h.pgs h1 h2)) fun v σ H Q ⟨as, st, env, d, rel, re, rv, g⟩ => ?_
  simp only [] at g
  split at g
  · rename_i ds e
    unfold partsOf at e
    split at e
    · cases e
      obtain ⟨a, vs, rfl, q1, q2⟩ := rv
      exact .inl ⟨a, vs, rfl, q1, by rw [← q2.length, asgs_len g, h.len], as, st, env, _, rel, re, q2, g⟩
    · cases e
      obtain ⟨a, vs, rfl, q1, q2⟩ := rv
      exact .inr ⟨a, vs, rfl, q1.l, by rw [← q2.length, asgs_len g, h.len], as, st, env, _, rel, re, q2, g⟩
    · split at e
      · rename_i e'
        cases e
        obtain ⟨a, rfl, _, hro⟩ := rel.of_ref e' rv
        obtain ⟨vs, q1, q2⟩ := ro_seq hro rfl
        exact .inr ⟨a, vs, rfl, q1, by rw [← q2.length, asgs_len g, h.len], as, st, env, _, rel, re, q2, g⟩
      · cases e
    · cases e
  · exact g.elim
theorem s_tgsub (fx : Fit X) {ea eb : E} {a b : Expr} {p : Pos} (ha : L2.PE X a (tE X.K (ev F G ea))) (hb : L2.PE X b (tE X.K (ev F G eb))) (hs : noSlice b = true) : PG X (.Subscript a b p) (tG X.K (tgOwn (.sub ea eb)) fun d env st => (ev F G ea env st).bind fun x st1 => (ev F G eb env st1).bind fun y st2 =>
    match setD x y d st2 with
    | some st3 => .ok env st3
    | none => .bad) :=
  pg_imp (pg_sub ha hb (set_all (by have := fx.hu; omega)) (by intro v; cases b <;> first | rfl | cases hs)) fun v σ H Q ⟨as, st, env, d, rel, re, rv, g⟩ =>
    tE_mono (one_of rel re g) fun o H1 ⟨as1, st1, x, e1, r1, re1, ro, g1⟩ => tE_mono (one_of r1 re1 g1) fun i H2 ⟨as2, st2, y, e2, r2, re2, ri, g2⟩ => by
      split at g2
      · rename_i st3 e
        exact ⟨as2, st2, x, y, d, st3, r2, RV.mono e2 _ _ ro, ri, RV.mono e2 _ _ (RV.mono e1 _ _ rv), e, fun H' e' r' => g2 _ _ e' r' _ (re2.mono e') fun _ _ => rfl⟩
      · exact g2.elim

/-! ### what is walked -/
structure SrcR (K : PySem.W.Frag) (as : List Addr) (H : Hp) (s : Src) (J : It) : Prop where
  stop : ∀ as' H' st' i, Ext K as H as' H' → Rel K as' st' H' → s.at st' i = some none → J.stop i H'
  go : ∀ as' H' st' i d, Ext K as H as' H' → Rel K as' st' H' → s.at st' i = some (some d) → J.go i H' ∧ ∀ x H'', J.yld i H' x H'' → Ext K as' H' as' H'' ∧ Rel K as' st' H'' ∧ RV K as' H'' d x
def tI (K : PySem.W.Frag) (k : ItK) (m : Env → Sto → Res (List D)) : TI := fun σ H R => ∃ as st env, Rel K as st H ∧ REnv K as H env σ ∧ Good K (fun s as1 H1 => ∀ J, SrcR K as1 H1 s J → R J H1) as H ((m env st).bind fun ds st1 => liftO (srcD k ds st1) st1)
section
variable {K : PySem.W.Frag} {as : List Addr} {H : Hp} {st : Sto}
theorem fix_get {ds : List D} {st' : Sto} {i : Nat} {o : Option D} (h : (Src.fix ds).at st' i = some o) : i ≤ ds.length ∧ ds[i]? = o := by
  unfold Src.at at h
  split at h
  · rename_i hi; exact ⟨hi, by simpa using h⟩
  · cases h
/-- the items of a source that is a list or a tuple of the heap -/
structure SeqR (K : PySem.W.Frag) (as : List Addr) (H : Hp) (s : Src) (k : Sk) (a : Addr) : Prop where
  get : ∀ as' H' st' i o, Ext K as H as' H' → Rel K as' st' H' → s.at st' i = some o → ∃ ds vs, SqK k K H' a vs ∧ RVs K as' H' ds vs ∧ i ≤ ds.length ∧ ds[i]? = o
theorem seqK_of {d : D} {v : V} {s : Src} (rel : Rel K as st H) (rv : RV K as H d v) (h : seqD d st = some s) : ∃ k a xs, v = .ref a ∧ SqK k K H a xs ∧ SeqR K as H s k a := by
  unfold seqD at h
  split at h
  · cases h
    obtain ⟨a, vs, rfl, h1, h2⟩ := rv
    exact ⟨.T, a, vs, rfl, h1, ⟨fun as' H' st' i o e r q => ⟨_, vs, e.tup _ _ h1, RVs.mono e _ _ h2, fix_get q⟩⟩⟩
  · cases h
    obtain ⟨a, vs, rfl, h1, h2⟩ := rv
    exact ⟨.L, a, vs, rfl, h1.l, ⟨fun as' H' st' i o e r q => ⟨_, vs, (h1.mono e.wk).l, RVs.mono e _ _ h2, fix_get q⟩⟩⟩
  · split at h
    · rename_i xs e0
      cases h
      obtain ⟨a, rfl, ha, hro⟩ := rel.of_ref e0 rv
      obtain ⟨vs, h1, h2⟩ := ro_seq hro rfl
      refine ⟨.L, a, vs, rfl, h1, ⟨fun as' H' st' i o e r q => ?_⟩⟩
      unfold Src.at at q
      split at q
      · rename_i ys e1
        split at q
        · rename_i hi
          obtain ⟨ws, h3, h4⟩ := ro_seq (r.at_ _ _ a e1 (e.at_ ha)) rfl
          exact ⟨ys, ws, h3, h4, hi, by simpa using q⟩
        · cases q
      · cases q
    · cases h
  · cases h
theorem sqk_get {k : Sk} {H' : Hp} {a : Addr} {ds : List D} {vs : List V} {as' : List Addr} {i : Nat} {d : D} (hs : SqK k K H' a vs) (r : RVs K as' H' ds vs) (e : ds[i]? = some d) : ∃ x, vs[i]? = some x ∧ RV K as' H' d x := r.get e
def ItP (k : Sk) (K : PySem.W.Frag) (a : Addr) : It := match k with | .L => Itl K a | .T => Itt K a
theorem srcR_plain {k : Sk} {a : Addr} {s : Src} (q : SeqR K as H s k a) : SrcR K as H s (ItP k K a) := by
  refine ⟨fun as' H' st' i e r h => ?_, fun as' H' st' i d e r h => ?_⟩
  · obtain ⟨ds, vs, h1, h2, h3, h4⟩ := q.get as' H' st' i _ e r h
    have : vs.length ≤ i := by rw [← h2.length]; exact List.getElem?_eq_none_iff.mp h4
    cases k <;> exact ⟨vs, h1, this⟩
  · obtain ⟨ds, vs, h1, h2, h3, h4⟩ := q.get as' H' st' i _ e r h
    obtain ⟨x, h5, h6⟩ := h2.get h4
    cases k
    · refine ⟨⟨vs, x, h1, h5⟩, fun y H'' hy => ?_⟩
      obtain ⟨rfl, hy⟩ := hy
      have := hy vs h1
      rw [h5] at this; cases this
      exact ⟨Ext.refl, r, h6⟩
    · refine ⟨⟨vs, x, h1, h5⟩, fun y H'' hy => ?_⟩
      obtain ⟨rfl, hy⟩ := hy
      have := hy vs h1
      rw [h5] at this; cases this
      exact ⟨Ext.refl, r, h6⟩
theorem at_enum {s : Src} {st' : Sto} {i : Nat} {o : Option D} (h : (Src.enum s).at st' i = some o) : (o = none ∧ s.at st' i = some none) ∨ ∃ x, o = some (.tup [.int (i : Int), x]) ∧ s.at st' i = some (some x) := by
  unfold Src.at at h
  split at h
  · rename_i x e; cases h; exact .inr ⟨x, rfl, e⟩
  · rename_i e; cases h; exact .inl ⟨rfl, e⟩
  · cases h
theorem srcR_enum {k : Sk} {a : Addr} {s : Src} (q : SeqR K as H s k a) : SrcR K as H (.enum s) (IteK k K a) := by
  refine ⟨fun as' H' st' i e r h => ?_, fun as' H' st' i d e r h => ?_⟩
  · rcases at_enum h with ⟨_, hh⟩ | ⟨x, z, _⟩
    · obtain ⟨ds, vs, h1, h2, h3, h4⟩ := q.get as' H' st' i _ e r hh
      have : ds.length ≤ i := List.getElem?_eq_none_iff.mp h4
      exact ⟨vs, h1, by rw [← h2.length]; omega⟩
    · cases z
  · rcases at_enum h with ⟨z, _⟩ | ⟨x, z, hh⟩
    · cases z
    · cases z
      obtain ⟨ds, vs, h1, h2, h3, h4⟩ := q.get as' H' st' i _ e r hh
      obtain ⟨w, h5, h6⟩ := h2.get h4
      refine ⟨⟨vs, w, h1, h5⟩, fun y H'' hy => ?_⟩
      obtain ⟨T, z, rfl, hT, rfl, hy⟩ := hy
      have := hy vs h1
      rw [h5] at this; cases this
      have e2 : Ext K as' H' as' (upd H' T (.tup [.int (i : Nat), w])) := Ext.laid hT
      exact ⟨e2, r.laid hT, T, _, rfl, SqT.of upd_same, .int (i : Nat), _, rfl, rfl, RVs.one (RV.mono e2 _ _ h6)⟩
theorem at_zip {s t : Src} {st' : Sto} {i : Nat} {o : Option D} (h : (Src.zip s t).at st' i = some o) : (o = none ∧ ∃ a b, s.at st' i = some a ∧ t.at st' i = some b ∧ (a = none ∨ b = none)) ∨ ∃ x y, o = some (.tup [x, y]) ∧ s.at st' i = some (some x) ∧ t.at st' i = some (some y) := by
  unfold Src.at at h
  split at h
  · rename_i x y e1 e2; cases h; exact .inr ⟨x, y, rfl, e1, e2⟩
  · rename_i a b hno e1 e2
    cases h
    refine .inl ⟨rfl, a, b, e1, e2, ?_⟩
    cases a with
    | none => exact .inl rfl
    | some a => cases b with
      | none => exact .inr rfl
      | some b => exact (hno a b rfl rfl).elim
  · cases h
theorem srcR_zip {k k' : Sk} {a b : Addr} {s t : Src} (q : SeqR K as H s k a) (q' : SeqR K as H t k' b) : SrcR K as H (.zip s t) (ItzK k k' K a b) := by
  refine ⟨fun as' H' st' i e r h => ?_, fun as' H' st' i d e r h => ?_⟩
  · rcases at_zip h with ⟨_, u, w, hh, hh', hor⟩ | ⟨x, y, z, _⟩
    · obtain ⟨ds, vs, h1, h2, h3, h4⟩ := q.get as' H' st' i _ e r hh
      obtain ⟨ds', vs', h1', h2', h3', h4'⟩ := q'.get as' H' st' i _ e r hh'
      refine ⟨vs, vs', h1, h1', ?_⟩
      rw [← h2.length, ← h2'.length]
      rcases hor with rfl | rfl
      · have : ds.length ≤ i := List.getElem?_eq_none_iff.mp h4
        omega
      · have : ds'.length ≤ i := List.getElem?_eq_none_iff.mp h4'
        omega
    · cases z
  · rcases at_zip h with ⟨z, _⟩ | ⟨x, y, z, hh, hh'⟩
    · cases z
    · cases z
      obtain ⟨ds, vs, h1, h2, h3, h4⟩ := q.get as' H' st' i _ e r hh
      obtain ⟨ds', vs', h1', h2', h3', h4'⟩ := q'.get as' H' st' i _ e r hh'
      obtain ⟨w, h5, h6⟩ := h2.get h4
      obtain ⟨w', h5', h6'⟩ := h2'.get h4'
      refine ⟨⟨vs, vs', w, w', h1, h1', h5, h5'⟩, fun z H'' hy => ?_⟩
      obtain ⟨T, u, u', rfl, hT, rfl, hy, hy'⟩ := hy
      have := hy vs h1
      rw [h5] at this; cases this
      have := hy' vs' h1'
      rw [h5'] at this; cases this
      have e2 : Ext K as' H' as' (upd H' T (.tup [w, w'])) := Ext.laid hT
      exact ⟨e2, r.laid hT, T, _, rfl, SqT.of upd_same, RVs.two (RV.mono e2 _ _ h6) (RV.mono e2 _ _ h6')⟩
theorem range_get {lo c : Int} {n i : Nat} {o : Option D} (h : (rangeD lo c n)[i]? = o) : (n ≤ i ∧ o = none) ∨ (i < n ∧ o = some (.int (lo + (i : Int) * c))) := by
  unfold rangeD at h
  rw [List.getElem?_map] at h
  by_cases hi : i < n
  · rw [List.getElem?_range hi] at h; exact .inr ⟨hi, h.symm⟩
  · rw [List.getElem?_eq_none (by simpa using hi)] at h; exact .inl ⟨by omega, h.symm⟩
theorem srcR_range {lo : Int} {n : Nat} : SrcR K as H (.fix (rangeD lo 1 n)) (Itr lo n) := by
  refine ⟨fun as' H' st' i e r h => ?_, fun as' H' st' i d e r h => ?_⟩
  · rcases range_get (fix_get h).2 with ⟨h, _⟩ | ⟨_, z⟩
    · exact h
    · cases z
  · rcases range_get (fix_get h).2 with ⟨_, z⟩ | ⟨hh, z⟩
    · cases z
    · cases z
      refine ⟨hh, fun y H'' hy => ?_⟩
      obtain ⟨rfl, rfl⟩ := hy
      exact ⟨Ext.refl, r, by show V.int _ = V.int _; rw [Int.mul_one]⟩
theorem srcR_rangeC {lo c : Int} {n : Nat} : SrcR K as H (.fix (rangeD lo c n)) (Itc lo c n) := by
  refine ⟨fun as' H' st' i e r h => ?_, fun as' H' st' i d e r h => ?_⟩
  · rcases range_get (fix_get h).2 with ⟨h, _⟩ | ⟨_, z⟩
    · exact h
    · cases z
  · rcases range_get (fix_get h).2 with ⟨_, z⟩ | ⟨hh, z⟩
    · cases z
    · cases z
      refine ⟨hh, fun y H'' hy => ?_⟩
      obtain ⟨rfl, rfl⟩ := hy
      exact ⟨Ext.refl, r, rfl⟩
theorem srcR_str {x : Str} : SrcR K as H (.fix (signsD x)) (Its x) := by
  refine ⟨fun as' H' st' i e r h => ?_, fun as' H' st' i d e r h => ?_⟩
  · have := (fix_get h).2
    unfold signsD at this
    have h2 := List.getElem?_eq_none_iff.mp this
    rw [List.length_map, Array.length_toList] at h2
    exact h2
  · have := (fix_get h).2
    unfold signsD at this
    rw [List.getElem?_map] at this
    obtain ⟨c, h1, rfl⟩ := Option.map_eq_some_iff.mp this
    rw [Array.getElem?_toList] at h1
    refine ⟨(Array.getElem?_eq_some_iff.mp h1).1, fun y H'' hy => ?_⟩
    obtain ⟨rfl, c', h2, rfl⟩ := hy
    rw [h1] at h2; cases h2
    exact ⟨Ext.refl, r, rfl⟩
end
theorem big_of {i : Int} (h : big62 i = true) : -(2 ^ 62) ≤ i ∧ i < 2 ^ 62 := by
  unfold big62 at h
  simpa only [Bool.and_eq_true, decide_eq_true_eq] using h
/-- an iterable as it is -/
theorem i_plain {e : E} {tg it : Expr} (h : L2.PE X it (tE X.K (ev F G e))) : PI X tg it (tI X.K .plain (evs F G (.cons e .nil))) :=
  pi_imp (pi_plain h) fun σ H R ⟨as, st, env, rel, re, g⟩ => by
    simp only [evs_consE, evs_nilE, Res.bind_assoc, Res.bind_ok] at g
    refine tE_mono (one_of rel re g) fun v H1 ⟨as1, st1, d, _, r1, _, rv, g1⟩ => ?_
    obtain ⟨s, e1, g2⟩ := g1.lift
    have q := g2.here r1
    unfold srcD at e1
    split at e1
    · rename_i x hx
      cases hx
      cases e1
      have rv : v = _ := rv
      exact .inr ⟨_, rv, q _ srcR_str⟩
    · rename_i d' _ hx
      cases hx
      obtain ⟨k, a, xs, rfl, h1, h2⟩ := seqK_of r1 rv e1
      exact .inl ⟨k, a, xs, rfl, h1, q (ItP k X.K a) (srcR_plain h2)⟩
    all_goals first | cases e1 | (rename_i hk _ ; cases hk)
theorem i_range1 {es : Es} {tg a : Expr} {p pos : Pos} (hg : Gl X "range") (hm : X.mg "range" = none) (h : PAll F G X es [a]) : PI X tg (.Call (.Name "range" p) [a] [] pos) (tI X.K .range1 (evs F G es)) := by
  have hs := h.stars
  have hl := h.len
  simp only [List.all_cons, Bool.and_eq_true] at hs
  refine pi_imp (pi_range1 hg hm h.pa (star_cons hs.1 _ _)) fun σ H R ⟨as, st, env, rel, re, g⟩ => tA_mono (evs_of rel re g) fun vs H1 ⟨as1, st1, ds, _, r1, _, rvs, hl1, g1⟩ => ?_
  obtain ⟨s, e1, g2⟩ := g1.lift
  have q := g2.here r1
  match ds, hl1.trans hl.symm with
  | [d], _ =>
    obtain ⟨v, rfl, rv⟩ := rvs_one rvs
    cases d <;> simp only [srcD] at e1 <;> try (cases e1; done)
    split at e1
    · rename_i n hb
      cases e1
      have rv : v = _ := rv
      subst rv
      obtain ⟨q1, q2⟩ := big_of hb
      exact ⟨_, rfl, q1, q2, q _ srcR_range⟩
    · cases e1
theorem i_range2 {es : Es} {tg a b : Expr} {p pos : Pos} (hg : Gl X "range") (hm : X.mg "range" = none) (h : PAll F G X es [a, b]) : PI X tg (.Call (.Name "range" p) [a, b] [] pos) (tI X.K .range2 (evs F G es)) := by
  have hs := h.stars
  have hl := h.len
  simp only [List.all_cons, Bool.and_eq_true] at hs
  refine pi_imp (pi_range2 hg hm h.pa (by rw [star_cons hs.1, star_cons hs.2.1]; rfl) (star_cons hs.2.1 _ _)) fun σ H R ⟨as, st, env, rel, re, g⟩ => tA_mono (evs_of rel re g) fun vs H1 ⟨as1, st1, ds, _, r1, _, rvs, hl1, g1⟩ => ?_
  obtain ⟨s, e1, g2⟩ := g1.lift
  have q := g2.here r1
  match ds, hl1.trans hl.symm with
  | [d, d'], _ =>
    obtain ⟨v, u, rfl, rv, ru⟩ := rvs_two rvs
    cases d <;> cases d' <;> simp only [srcD] at e1 <;> try (cases e1; done)
    split at e1
    · rename_i n m hb
      cases e1
      have rv : v = _ := rv
      have ru : u = _ := ru
      subst rv; subst ru
      rw [Bool.and_eq_true] at hb
      obtain ⟨q1, q2⟩ := big_of hb.1
      obtain ⟨q3, q4⟩ := big_of hb.2
      exact ⟨_, _, rfl, ⟨q1, q2, q3, q4⟩, q _ srcR_range⟩
    · cases e1
theorem i_range3 {es : Es} {tg a b c : Expr} {p pos : Pos} (hg : Gl X "range") (hm : X.mg "range" = none) (h : PAll F G X es [a, b, c]) : PI X tg (.Call (.Name "range" p) [a, b, c] [] pos) (tI X.K .range3 (evs F G es)) := by
  have hs := h.stars
  have hl := h.len
  simp only [List.all_cons, Bool.and_eq_true] at hs
  refine pi_imp (pi_range3 hg hm h.pa (star_cons hs.1 _ _) (stars_plain (by simp only [List.all_cons, Bool.and_eq_true]; exact hs.2))) fun σ H R ⟨as, st, env, rel, re, g⟩ => tA_mono (evs_of rel re g) fun vs H1 ⟨as1, st1, ds, _, r1, _, rvs, hl1, g1⟩ => ?_
  obtain ⟨s, e1, g2⟩ := g1.lift
  have q := g2.here r1
  match ds, hl1.trans hl.symm with
  | [d, d', d''], _ =>
    obtain ⟨v, ws, rfl, rv, rw'⟩ := rvs
    obtain ⟨u, w, rfl, ru, rw''⟩ := rvs_two rw'
    cases d <;> cases d' <;> cases d'' <;> simp only [srcD] at e1 <;> try (cases e1; done)
    split at e1
    · rename_i n m c hb
      cases e1
      have rv : v = _ := rv
      have ru : u = _ := ru
      have rw'' : w = _ := rw''
      subst rv; subst ru; subst rw''
      simp only [Bool.and_eq_true, decide_eq_true_eq] at hb
      obtain ⟨q1, q2⟩ := big_of hb.1.1
      obtain ⟨q3, q4⟩ := big_of hb.1.2
      have hc := hb.2
      subst hc
      exact ⟨_, _, _, _, rfl, RgC.neg q1 q2 q3 q4, q _ srcR_rangeC⟩
    · cases e1
theorem i_enum {es : Es} {a : Expr} {p pos tpos : Pos} {l : List Expr} {k : Nat} (hg : Gl X "enumerate") (hm : X.mg "enumerate" = none) (h : PAll F G X es [a]) : PI X (.Tuple l k tpos) (.Call (.Name "enumerate" p) [a] [] pos) (tI X.K .enum (evs F G es)) := by
  have hs := h.stars
  have hl := h.len
  simp only [List.all_cons, Bool.and_eq_true] at hs
  refine pi_imp (pi_enumK hg hm h.pa (star_cons hs.1 _ _)) fun σ H R ⟨as, st, env, rel, re, g⟩ => tA_mono (evs_of rel re g) fun vs H1 ⟨as1, st1, ds, _, r1, _, rvs, hl1, g1⟩ => ?_
  obtain ⟨s, e1, g2⟩ := g1.lift
  have q := g2.here r1
  match ds, hl1.trans hl.symm with
  | [d], _ =>
    obtain ⟨v, rfl, rv⟩ := rvs_one rvs
    simp only [srcD] at e1
    obtain ⟨s', e2, rfl⟩ := Option.map_eq_some_iff.mp e1
    obtain ⟨k, a, xs, rfl, h1, h2⟩ := seqK_of r1 rv e2
    exact ⟨k, a, xs, rfl, h1, q _ (srcR_enum h2)⟩
theorem i_zip {es : Es} {a b : Expr} {p pos tpos : Pos} {l : List Expr} {k : Nat} (hg : Gl X "zip") (hm : X.mg "zip" = none) (h : PAll F G X es [a, b]) : PI X (.Tuple l k tpos) (.Call (.Name "zip" p) [a, b] [] pos) (tI X.K .zip (evs F G es)) := by
  have hs := h.stars
  have hl := h.len
  simp only [List.all_cons, Bool.and_eq_true] at hs
  refine pi_imp (pi_zipK hg hm h.pa (star_cons hs.1 _ _) (stars_plain (by simp only [List.all_cons, Bool.and_eq_true]; exact hs.2))) fun σ H R ⟨as, st, env, rel, re, g⟩ => tA_mono (evs_of rel re g) fun vs H1 ⟨as1, st1, ds, _, r1, _, rvs, hl1, g1⟩ => ?_
  obtain ⟨s, e1, g2⟩ := g1.lift
  have q := g2.here r1
  match ds, hl1.trans hl.symm with
  | [d, d'], _ =>
    obtain ⟨v, u, rfl, rv, ru⟩ := rvs_two rvs
    simp only [srcD] at e1
    split at e1
    · rename_i s1 s2 e2 e3
      cases e1
      obtain ⟨k, a, xs, rfl, h1, h2⟩ := seqK_of r1 rv e2
      obtain ⟨k', b, ys, rfl, h1', h2'⟩ := seqK_of r1 ru e3
      exact ⟨k, k', a, b, xs, ys, rfl, h1, h1', q _ (srcR_zip h2 h2')⟩
    · cases e1
end
end PL

set_option Elab.async false
set_option linter.all false
set_option maxRecDepth 100000
set_option maxHeartbeats 2000000
/-! PLK: list comprehensions; all expressions. -/
namespace PL
open PySem PySem.Spec PyProof.Rows L2

section
variable {F : Nat → List D → Sto → Res D} {G : List D} {X : Cx}
theorem wipe_idem (σ : L2.St) : ∀ vs : List Nat, wipe (wipe σ vs) vs = wipe σ vs
  | [] => rfl
  | v :: vs => by
    have aux : ∀ (τ : L2.St) (us : List Nat), (wipe (τ.set v none) us).set v none = (wipe τ us).set v none := by
      intro τ us
      induction us with
      | nil => unfold L2.wipe; rw [List.set_set]
      | cons u us ih =>
        unfold L2.wipe
        by_cases hu : u = v
        · subst hu; rw [List.set_set, List.set_set]; exact ih
        · rw [List.set_comm _ _ hu, List.set_comm _ _ hu, ih]
    show (wipe ((wipe σ vs).set v none) vs).set v none = (wipe σ vs).set v none
    rw [aux, wipe_idem σ vs]
def mLc (own : List Nat) (k : ItK) (ms : Env → Sto → Res (List D)) (mt : D → Env → Sto → Res Env) (mc : Env → Sto → Res Bool) (me : Env → Sto → Res D) : Env → Sto → Res D := fun env st => (ms env st).bind fun ds st1 => match srcD k ds st1 with
    | none => .bad
    | some s => lcLoop s (fun d st2 => (mt d (wipeE env own) st2).bind fun env1 st3 => (mc env1 st3).bind fun b st4 =>
        if b then (me env1 st4).bind fun y st5 => .ok (some y) st5 else .ok none st4) (s.len st1 + 1) 0 [] st1
theorem src_bind {β : Type} {r : Res (List D)} {k : ItK} {L : Src → Sto → Res β} : (r.bind fun ds st1 => match srcD k ds st1 with | none => .bad | some s => L s st1) = (r.bind fun ds st1 => liftO (srcD k ds st1) st1).bind L := by
  cases r with
  | ok ds st1 =>
    simp only [Res.bind_ok]
    cases srcD k ds st1 <;> rfl
  | exc _ _ _ => rfl
  | bad => rfl
theorem lc_of {K : PySem.W.Frag} {own : List Nat} {k : ItK} {ow : List Nat → Bool} {ms : Env → Sto → Res (List D)} {mt : D → Env → Sto → Res Env} {mc : Env → Sto → Res Bool} {me : Env → Sto → Res D} {σ : L2.St} {H : Hp} {Q : VK} (ho : ow own = true)
    (h : tE K (mLc own k ms mt mc me) σ H Q) : tLc (tI K k ms) (tG K ow mt) (tT K mc) (tE K me) own σ H Q := by
  obtain ⟨as, st, env, rel, re, g⟩ := h
  unfold mLc at g
  rw [src_bind] at g
  refine ⟨as, st, env, rel, re, g.bindE.imp fun s as0 H0 e1 ⟨st0, _, _, r1, g1⟩ J hJ => ?_⟩
  intro D hD
  have re0 := re.mono e1
  have g1 := g1.mono e1
  generalize hstep : (fun (d : PL.D) st2 => (mt d (wipeE env own) st2).bind fun env1 st3 => (mc env1 st3).bind fun b st4 =>
        if b then (me env1 st4).bind fun y st5 => Res.ok (some y) st5 else Res.ok none st4) = step at g1
  refine ⟨fun i m H' => ∃ as' st' acc vs', Ext K as0 H0 as' H' ∧ Rel K as' st' H' ∧ D ∉ as' ∧ H' D = some (.lst vs') ∧ RVs K as' H' acc vs' ∧ Good K (PE' K Q) as0 H0 (lcLoop s step m i acc st'),
    ⟨s.len st0 + 1, as0, st0, [], [], Ext.laid hD, r1.laid hD, r1.out hD, upd_same, rfl, g1⟩, ?_⟩
  rintro i m H' ⟨as', st', acc, vs', e2, r2, hd2, hD2, rv2, g2⟩
  cases m with
  | zero => exact g2.elim
  | succ m =>
    rw [lcLoop] at g2
    split at g2
    · exact g2.elim
    · rename_i hat
      refine .inl ⟨hJ.stop as' H' st' i e2 r2 hat, ?_⟩
      have hro : RO K (as' ++ [D]) H' (.lst acc) D := ⟨vs', hD2, RVs.monoW Wk.snoc _ _ rv2⟩
      exact g2 _ _ (e2.adopt hD) (r2.adopt hd2 hro) _ ⟨D, rfl, by rw [List.getElem?_append_right (by rw [r2.len]; exact Nat.le_refl _), r2.len]; simp⟩
    · rename_i d hat
      obtain ⟨hgo, hy⟩ := hJ.go as' H' st' i d e2 r2 hat
      refine .inr ⟨hgo, _, fun H' hN => ⟨m, Nat.lt_succ_self m, hN⟩, fun x H3 yl => ?_⟩
      obtain ⟨e3, r3, rx⟩ := hy x H3 yl
      have hD3 : H3 D = some (.lst vs') := e3.frm D _ hd2 hD2
      subst hstep
      simp only [Res.bind_assoc] at g2
      have re3 : REnv K as' H3 (wipeE env own) (wipe σ own) := ((re0.mono (e2.trans e3))).wipe own
      obtain ⟨a1, b1, c1, d1, q1, q2, q3, q4⟩ := tg_ofE (own := ow) (e2.trans e3) r3 re3 rx g2
      refine ⟨a1, b1, c1, d1, q1, q2, q3, q4.imp fun env1 as4 H4 e4 q σ4 re4 hw => ?_⟩
      obtain ⟨as5, st5, env5, e5, r5, re5, hw5, g5⟩ := q σ4 re4 hw
      refine ⟨by rw [hw5 own ho, wipe_idem], ?_⟩
      refine tT_mono (test_ofE ((e2.trans e3).trans e5) r5 re5 g5) fun b H6 ⟨as6, st6, e6, r6, re6, g6⟩ => ?_
      have e56 := e5.trans e6
      have hd5 : D ∉ as5 := e5.out hD3 hd2
      have hD5 := e5.frm D _ hd2 hD3
      have hd6 : D ∉ as6 := e6.out hD5 hd5
      have hD6 := e6.frm D _ hd5 hD5
      cases b with
      | false =>
        rw [if_neg (by simp)] at g6 ⊢
        exact ⟨as6, st6, acc, vs', ((e2.trans e3).trans e5).trans e6, r6, hd6, hD6, RVs.mono e6 _ _ (RVs.mono e5 _ _ (RVs.mono e3 _ _ rv2)), g6⟩
      | true =>
        rw [if_pos rfl] at g6 ⊢
        simp only [Res.bind_assoc, Res.bind_ok] at g6
        refine tE_mono (one_ofE (((e2.trans e3).trans e5).trans e6) r6 re6 g6) fun y H7 ⟨as7, st7, dy, e7, r7, re7, ry, g7⟩ => ?_
        have hd7 : D ∉ as7 := e7.out hD6 hd6
        have hD7 := e7.frm D _ hd6 hD6
        have rv7 := RVs.mono e7 _ _ (RVs.mono e6 _ _ (RVs.mono e5 _ _ (RVs.mono e3 _ _ rv2)))
        split at g7
        · rename_i hlt
          have hm : (∀ vs : List V, (HO.lst vs') ≠ .tup vs) ∧ ∀ o w, (HO.lst vs') ≠ .frz o w := ⟨fun _ z => (by cases z), fun _ _ z => (by cases z)⟩
          refine ⟨vs', hD7, by rw [← rv7.length]; exact hlt, as7, st7, acc ++ [dy], vs' ++ [y], ?_, r7.side hd7 hD7 hm, hd7, upd_same, ?_, g7⟩
          · exact (((((e2.trans e3).trans e5).trans e6).trans e7)).side hD hD7 hm
          · exact RVs.monoW (Wk.side hD7 hm) _ _ (rv7.append (RVs.one ry))
        · exact g7.elim
theorem pts_imp {X : Cx} {ifs : List Expr} {t t' : TT} (h : PTs X ifs t) (f : ∀ σ H Q, t' σ H Q → t σ H Q) : PTs X ifs t' := ⟨fun pins s σ H Q I q => h.run pins s σ H Q I (f σ H Q q)⟩
theorem pts_yes : PTs X [] (tT X.K fun _ st => .ok true st) := pts_imp pts_nil fun σ H Q ⟨as, st, env, rel, re, g⟩ => g.here rel
theorem s_lc (fx : Fit X) (hN : X.N.Nodup) {own : List (Str × Nat)} {k : ItK} {t : Tg} {ms : Env → Sto → Res (List D)} {mt : D → Env → Sto → Res Env} {mc : Env → Sto → Res Bool} {me : Env → Sto → Res D} {elt tg iter : Expr} {ifs : List Expr} {scope : Scope} {pos : Pos} (ho : tgOwn t (own.map (·.2)) = true)
    (hi : PI X tg iter (tI X.K k ms)) (ok : BlkOk X.N X.env.scope scope own)
    (hg : ∀ (s : Shared) (H : Hp) (C : Addr) (cl : List (Str × Addr)) (fp : List Addr), PG (X.blk s H scope (compEnvC scope cl C X.env) fp) tg (tG X.K (tgOwn t) mt)) (ht : ∀ (s : Shared) (H : Hp) (C : Addr) (cl : List (Str × Addr)) (fp : List Addr), PTs (X.blk s H scope (compEnvC scope cl C X.env) fp) ifs (tT X.K mc))
    (he : ∀ (s : Shared) (H : Hp) (C : Addr) (cl : List (Str × Addr)) (fp : List Addr), L2.PE (X.blk s H scope (compEnvC scope cl C X.env) fp) elt (tE X.K me)) (hs : noSet iter = true) :
    L2.PE X (.ListComp elt [⟨tg, iter, ifs, 0⟩] scope pos) (tE X.K (mLc (own.map (·.2)) k ms mt mc me)) :=
  pe_imp (pe_lc fx.hc hN hi ok hg ht he (noSet_fold hs X.env)) fun σ H Q h => lc_of ho h

/-! ### the block's context -/
theorem relS_sub {sc : Scope} : ∀ {names : List (Str × NameKind)} {x : Str} {q : NameKind}, names.lookup x = some q →
    ∃ q', (names.map fun (n, k) => if (k == NameKind.free && sc.kind == .function && sc.names.lookup n == some .cell) then (n, NameKind.cell) else (n, k)).lookup x = some q' ∧ (q' = q ∨ (q = .free ∧ q' = .cell))
  | [], _, _, h => by simp at h
  | (n, k₀) :: r, x, q, h => by
    have ih := @relS_sub sc r x q
    show ∃ q', List.lookup x ((if (k₀ == NameKind.free && sc.kind == .function && sc.names.lookup n == some .cell) = true then (n, NameKind.cell) else (n, k₀)) :: (r.map _)) = some q' ∧ _
    cases hx : x == n with
    | true =>
      simp only [List.lookup_cons, hx] at h
      have h : k₀ = q := by simpa using h
      subst h
      by_cases hc : (k₀ == NameKind.free && sc.kind == .function && sc.names.lookup n == some .cell) = true
      · refine ⟨.cell, by rw [if_pos hc]; simp only [List.lookup_cons, hx], ?_⟩
        have hk : k₀ = .free := by
          simp only [Bool.and_eq_true, beq_iff_eq] at hc
          exact hc.1.1
        exact .inr ⟨hk, rfl⟩
      · exact ⟨k₀, by rw [if_neg hc]; simp only [List.lookup_cons, hx], .inl rfl⟩
    | false =>
      simp only [List.lookup_cons, hx] at h
      obtain ⟨q', h1, h2⟩ := ih h
      refine ⟨q', ?_, h2⟩
      by_cases hc : (k₀ == NameKind.free && sc.kind == .function && sc.names.lookup n == some .cell) = true
      · rw [if_pos hc]; simp only [List.lookup_cons, hx]; exact h1
      · rw [if_neg hc]; simp only [List.lookup_cons, hx]; exact h1
theorem Ctx.blk {B : Tab} {N : List Str} {sc : Scope} {k : Nat} (c : Ctx B F G N sc k X) (scope : Scope) (s : Shared) (H : Hp) (C : Addr) (cl : List (Str × Addr)) (fp : List Addr) : Ctx B F G N scope k (X.blk s H scope (compEnvC scope cl C X.env) fp) where
  fit := ⟨c.fit.hu, c.fit.hg, c.fit.hc⟩
  hN := c.hN
  nd := c.nd
  sub := fun x q h => relS_sub (sc := X.env.scope) h
  fnc := fun x h => by show (scope.names.lookup x == some .cell) = true; rw [h]; rfl
  room := c.room
  fns := fun i x ps h => let ⟨f, fd, q⟩ := c.fns i x ps h; ⟨f, fd, ⟨q.mg, q.keep, q.bind, q.bindK, q.ok⟩⟩
  free := c.free
  con := c.con
theorem Ctx.blkOk {B : Tab} {N : List Str} {sc : Scope} {k : Nat} (c : Ctx B F G N sc k X) {scope : Scope} {own : List (Str × Nat)} (ok : BlkOk N sc scope own) : BlkOk X.N X.env.scope scope own where
  kind := ok.kind
  uniq := ok.uniq
  ix := by rw [c.hN]; exact ok.ix
  free := fun y hy e => by
    rcases ok.free y hy e with h | h
    · obtain ⟨q', h1, h2⟩ := c.sub _ _ h
      rcases h2 with rfl | ⟨h2, _⟩
      · exact .inl h1
      · cases h2
    · obtain ⟨q', h1, h2⟩ := c.sub _ _ h
      rcases h2 with rfl | ⟨_, rfl⟩
      · exact .inr h1
      · exact .inl h1
  own := by rw [c.hN]; exact ok.own
theorem Ctx.vis {B : Tab} {N : List Str} {sc : Scope} {k : Nat} (c : Ctx B F G N sc k X) {x : Str} (h : visB sc x = true) : Vis X.env.scope x ∧ (x == ("__debug__" : Str)) = false ∧ (x == ("__classdict__" : Str)) = false := by
  unfold visB dbgB at h
  simp only [Bool.and_eq_true, Bool.not_eq_true'] at h
  refine ⟨?_, h.2⟩
  have h1 := h.1
  split at h1
  · rename_i e
    obtain ⟨q', h2, h3⟩ := c.sub _ _ e
    rcases h3 with rfl | ⟨h3, _⟩
    · exact .inl h2
    · cases h3
  · rename_i e
    obtain ⟨q', h2, h3⟩ := c.sub _ _ e
    rcases h3 with rfl | ⟨h3, _⟩
    · exact .inr (.inl h2)
    · cases h3
  · rename_i e
    obtain ⟨q', h2, h3⟩ := c.sub _ _ e
    rcases h3 with rfl | ⟨_, rfl⟩
    · exact .inr (.inr h2)
    · exact .inr (.inl h2)
  · cases h1
theorem Ctx.loc {B : Tab} {N : List Str} {sc : Scope} {k : Nat} (c : Ctx B F G N sc k X) {x : Str} (h : locB sc x = true) : Loc X.env.scope x ∧ (X.fn x = true ∨ X.env.scope.names.lookup x = some .local) := by
  unfold locB at h
  split at h
  · rename_i e
    obtain ⟨q', h2, h3⟩ := c.sub _ _ e
    rcases h3 with rfl | ⟨h3, _⟩
    · exact ⟨.inl h2, .inr h2⟩
    · cases h3
  · rename_i e
    obtain ⟨q', h2, h3⟩ := c.sub _ _ e
    rcases h3 with rfl | ⟨h3, _⟩
    · exact ⟨.inr h2, .inl (c.fnc _ e)⟩
    · cases h3
  · cases h
theorem Ctx.gl {B : Tab} {N : List Str} {sc : Scope} {k : Nat} (c : Ctx B F G N sc k X) {x : Str} (h : glB sc x = true) : Gl X x ∧ (x == ("__debug__" : Str)) = false := by
  unfold glB dbgB at h
  simp only [Bool.and_eq_true, Bool.not_eq_true'] at h
  refine ⟨?_, h.2⟩
  have h1 := h.1
  split at h1
  · rename_i e
    obtain ⟨q', h2, h3⟩ := c.sub _ _ e
    rcases h3 with rfl | ⟨h3, _⟩
    · exact h2
    · cases h3
  · cases h1
theorem Ctx.fr {B : Tab} {N : List Str} {sc : Scope} {k : Nat} (c : Ctx B F G N sc k X) {x y : Str} (h : freeB B sc x y = true) : x = y ∧ Gl X y ∧ X.mg y = none := by
  unfold freeB at h
  simp only [Bool.and_eq_true, decide_eq_true_eq] at h
  obtain ⟨rfl, h2, h3⟩ := h
  exact ⟨rfl, (c.gl h3).1, c.free _ h2⟩
end
end PL

set_option Elab.async false
set_option linter.all false
set_option maxRecDepth 100000
set_option maxHeartbeats 4000000
/-! PLL: every expression that passes the look comes to what the small language says. -/
namespace PL
open PySem PySem.Spec PyProof.Rows L2

section
variable {X : Cx}
theorem tE_eq {x : Expr} {m m' : Env → Sto → Res D} (h : ∀ env st, m' env st = m env st) (p : L2.PE X x (tE X.K m)) : L2.PE X x (tE X.K m') := by
  have : m' = m := by funext env st; exact h env st
  rw [this]; exact p
theorem tT_eq {x : Expr} {m m' : Env → Sto → Res Bool} (h : ∀ env st, m' env st = m env st) (p : L2.PT X x (tT X.K m)) : L2.PT X x (tT X.K m') := by
  have : m' = m := by funext env st; exact h env st
  rw [this]; exact p
theorem tW_eq {x : Expr} {m m' : Env → Sto → Res Bool} (h : ∀ env st, m' env st = m env st) (p : PW X x (tT X.K m)) : PW X x (tT X.K m') := by
  have : m' = m := by funext env st; exact h env st
  rw [this]; exact p
theorem tG_eq {x : Expr} {o : List Nat → Bool} {m m' : D → Env → Sto → Res Env} (h : ∀ d env st, m' d env st = m d env st) (p : PG X x (tG X.K o m)) : PG X x (tG X.K o m') := by
  have : m' = m := by funext d env st; exact h d env st
  rw [this]; exact p
end
/-- a test: also where it stands in an and, or an or -/
def PTW (X : Cx) (x : Expr) (m : Env → Sto → Res Bool) : Prop := L2.PT X x (tT X.K m) ∧ ∀ o l p, x = .BoolOp o l p → PW X x (tT X.K m)
theorem ptw_pw {X : Cx} {x : Expr} {m : Env → Sto → Res Bool} (h : PW X x (tT X.K m)) : PTW X x m := ⟨h.pt, fun _ _ _ _ => h⟩
theorem ptw_pt {X : Cx} {x : Expr} {m : Env → Sto → Res Bool} (h : L2.PT X x (tT X.K m)) (hn : ∀ o l p, x ≠ .BoolOp o l p) : PTW X x m := ⟨h, fun o l p e => absurd e (hn o l p)⟩
theorem plainT_bool {x : Expr} (h : plainT x = true) : ∀ o l p, x ≠ .BoolOp o l p := by
  intro o l p e; subst e; cases h

section
variable {B : Tab} {F : Nat → List D → Sto → Res D} {G : List D} {N : List Str} {k : Nat}
theorem fnB_of {f : Nat} {x : Str} {n : Nat} (h : fnB B f x n = true) : ∃ ps, B.fns[f]? = some (x, ps) ∧ n = ps.length := by
  unfold fnB at h
  split at h
  · rename_i y ps e
    simp only [Bool.and_eq_true, decide_eq_true_eq] at h
    obtain ⟨rfl, h2⟩ := h
    exact ⟨ps, e, h2⟩
  · cases h
theorem kwsOf_mem {f n : Nat} {ks : List Str} {g : List Nat} (h : (f, n, ks, g) ∈ B.kws) : (n, ks, g) ∈ B.kwsOf f :=
  List.mem_filterMap.mpr ⟨(f, n, ks, g), h, by simp⟩
theorem kwB_of {f : Nat} {x : Str} {n : Nat} {kl : List Keyword} {g : List Nat} (h : kwB B f x n kl g = true) : ∃ ps, B.fns[f]? = some (x, ps) ∧ g.length = ps.length ∧ kl.all (·.arg.isSome) = true ∧ (n, kl.filterMap (·.arg), g) ∈ B.kwsOf f := by
  unfold kwB at h
  rw [Bool.and_eq_true] at h
  obtain ⟨h, h'⟩ := h
  split at h
  · rename_i y ps e
    simp only [Bool.and_eq_true, decide_eq_true_eq] at h h'
    obtain ⟨rfl, h2⟩ := h
    exact ⟨ps, e, h2, h'.1, kwsOf_mem h'.2⟩
  · cases h
theorem conB_of {i : Nat} {x : Str} (h : conB B i x = true) : ∃ d, B.cons[i]? = some (x, d) := by
  unfold conB at h
  split at h
  · rename_i y d e
    cases of_decide_eq_true h
    exact ⟨d, e⟩
  · cases h
theorem blt_of {X : Cx} {sc : Scope} {b : Blt} {es : Es} {x : Expr} {l : List Expr} (c : Ctx B F G N sc k X) (hl : bltA B sc b x = some l) (hes : PAll F G X es l) : L2.PE X x (tE X.K fun env st => (evs F G es env st).bind fun ds st1 => bltD b ds st1) := by
  unfold bltA at hl
  split at hl
  · rename_i y args e
    obtain ⟨p, pos, rfl⟩ := asCall_eq e
    split at hl
    · rename_i t a z
      obtain ⟨h, rfl⟩ := onlyIf_of hl
      rw [Bool.and_eq_true] at h
      obtain ⟨h1, h2⟩ := h
      obtain ⟨rfl, h4, h5⟩ := c.fr h1
      split at h2
      · rename_i w e2
        obtain ⟨p2, rfl⟩ := asName_eq e2
        obtain ⟨rfl, h6, h7⟩ := c.fr h2
        cases es with
        | nil => exact hes.elim
        | cons e es =>
          cases es with
          | cons _ _ => exact hes.2.2.elim
          | nil => exact s_isi h4 h5 h6 h7 hes.2.1 hes.1
      · cases h2
    · cases hl
    · cases hl
    · rename_i b' a0 al hn1 hn2 hn3
      obtain ⟨h, rfl⟩ := onlyIf_of hl
      obtain ⟨rfl, h4, h5⟩ := c.fr h
      have hb : b.plain = true := by
        cases b <;> first | rfl | (exfalso; first | exact hn2 _ rfl | exact hn3 rfl)
      exact s_blt hb c.fit h4 h5 hes (by simp)
    · cases hl
  · cases hl
theorem it_of {X : Cx} {sc : Scope} {kk : ItK} {es : Es} {it tg : Expr} {l : List Expr} (c : Ctx B F G N sc k X) (hl : itA B sc kk it tg = some l) (hes : PAll F G X es l) : PI X tg it (tI X.K kk (evs F G es)) := by
  unfold itA at hl
  split at hl
  · cases hl
    cases es with
    | nil => exact hes.elim
    | cons e es =>
      cases es with
      | cons _ _ => exact hes.2.2.elim
      | nil => exact i_plain hes.2.1
  · split at hl
    · rename_i y args e
      obtain ⟨p, pos, rfl⟩ := asCall_eq e
      obtain ⟨h, rfl⟩ := onlyIf_of hl
      rw [Bool.and_eq_true] at h
      obtain ⟨h1, h2⟩ := h
      obtain ⟨rfl, h4, h5⟩ := c.fr h1
      split at h2
      · exact i_range1 h4 h5 hes
      · exact i_range2 h4 h5 hes
      · exact i_range3 h4 h5 hes
      · unfold isTup at h2
        split at h2
        · exact i_enum h4 h5 hes
        · cases h2
      · unfold isTup at h2
        split at h2
        · exact i_zip h4 h5 hes
        · cases h2
      · cases h2
    · cases hl
set_option maxHeartbeats 40000000 in
mutual
theorem soundE : ∀ (e : E) {X : Cx} {sc : Scope} {x : Expr}, Ctx B F G N sc k X → chkE B N e sc x = true → L2.PE X x (tE X.K (ev F G e))
  | .var i, X, sc, x, c, h => by
    rw [chkE] at h
    split at h
    · rename_i y e
      obtain ⟨p, rfl⟩ := asName_eq e
      simp only [Bool.and_eq_true, decide_eq_true_eq] at h
      obtain ⟨h1, h2, h3⟩ := c.vis h.2
      refine tE_eq ?_ (s_var (i := i) (by rw [c.hN]; exact h.1) h1 h2 h3)
      intro env st; rw [ev]; try rfl
    · cases h
  | .cI i, X, sc, x, c, h => by
    rw [chkE] at h
    split at h
    · rename_i j e
      obtain ⟨_, _, rfl⟩ := asConst_eq e
      cases of_decide_eq_true h
      refine tE_eq ?_ (s_c (d := .int i) pe_int fun _ _ => rfl)
      intro env st; rw [ev]; try rfl
    · cases h
  | .cB b, X, sc, x, c, h => by
    rw [chkE] at h
    split at h
    · rename_i j e
      obtain ⟨_, _, rfl⟩ := asConst_eq e
      have hb : b = j := by simpa using h
      subst hb
      refine tE_eq ?_ (s_c (d := .bl b) pe_bl fun _ _ => rfl)
      intro env st; rw [ev]; try rfl
    · cases h
  | .cS y, X, sc, x, c, h => by
    rw [chkE] at h
    split at h
    · rename_i j e
      obtain ⟨_, _, rfl⟩ := asConst_eq e
      cases of_decide_eq_true h
      refine tE_eq ?_ (s_c (d := .str y) pe_str fun _ _ => rfl)
      intro env st; rw [ev]; try rfl
    · cases h
  | .cN, X, sc, x, c, h => by
    rw [chkE] at h
    split at h
    · rename_i e
      obtain ⟨_, _, rfl⟩ := asConst_eq e
      refine tE_eq ?_ (s_c (d := .non) pe_non fun _ _ => rfl)
      intro env st; rw [ev]; try rfl
    · cases h
  | .gcon i, X, sc, x, c, h => by
    rw [chkE] at h
    split at h
    · rename_i y e
      obtain ⟨p, rfl⟩ := asName_eq e
      rw [Bool.and_eq_true] at h
      obtain ⟨d, hd⟩ := conB_of h.1
      obtain ⟨h1, u, v, h2, h3, h4⟩ := c.con i y d hd
      obtain ⟨h5, h6⟩ := c.gl h.2
      refine tE_eq ?_ (s_gcon h5 h2 h3 h6 h4 h1)
      intro env st; rw [ev]; try rfl
    · cases h
  | .bin op a b, X, sc, x, c, h => by
    rw [chkE] at h
    split at h
    · rename_i y o z e
      obtain ⟨p, rfl⟩ := asBin_eq e
      simp only [Bool.and_eq_true, decide_eq_true_eq] at h
      obtain ⟨rfl, h1, h2⟩ := h
      refine tE_eq ?_ (s_bin (soundE a c h1) (soundE b c h2))
      intro env st; rw [ev]; try rfl
    · cases h
  | .neg a, X, sc, x, c, h => by
    rw [chkE] at h
    split at h
    · rename_i y e
      obtain ⟨p, rfl⟩ := asUn_eq e
      refine tE_eq ?_ (s_neg (soundE a c h))
      intro env st; rw [ev]; try rfl
    · cases h
  | .notE a, X, sc, x, c, h => by
    rw [chkE] at h
    split at h
    · rename_i y e
      obtain ⟨p, rfl⟩ := asUn_eq e
      refine tE_eq ?_ (s_not (soundE a c h))
      intro env st; rw [ev]; try rfl
    · cases h
  | .and1 a, X, sc, x, c, h => by
    rw [chkE] at h
    split at h
    · rename_i y p e
      cases asBool_eq e
      refine tE_eq ?_ (pe_one (soundE a c h))
      intro env st; rw [ev]; try rfl
    · cases h
  | .and2 a r, X, sc, x, c, h => by
    rw [chkE] at h
    split at h
    · rename_i y z l p e
      cases asBool_eq e
      rw [Bool.and_eq_true] at h
      refine tE_eq ?_ (s_and (soundE a c h.1) (soundE r c h.2))
      intro env st; rw [ev]; try rfl
    · cases h
  | .or1 a, X, sc, x, c, h => by
    rw [chkE] at h
    split at h
    · rename_i y p e
      cases asBool_eq e
      refine tE_eq ?_ (pe_one (soundE a c h))
      intro env st; rw [ev]; try rfl
    · cases h
  | .or2 a r, X, sc, x, c, h => by
    rw [chkE] at h
    split at h
    · rename_i y z l p e
      cases asBool_eq e
      rw [Bool.and_eq_true] at h
      refine tE_eq ?_ (s_or (soundE a c h.1) (soundE r c h.2))
      intro env st; rw [ev]; try rfl
    · cases h
  | .cmp op a b, X, sc, x, c, h => by
    rw [chkE] at h
    split at h
    · rename_i y o z e
      obtain ⟨p, rfl⟩ := asCmp_eq e
      simp only [Bool.and_eq_true, decide_eq_true_eq] at h
      obtain ⟨rfl, h0, h1, h2⟩ := h
      refine tE_eq ?_ (s_cmp c.fit (soundE a c h1) (soundE b c h2) h0)
      intro env st; rw [ev]; try rfl
    · cases h
  | .cmp2 op op' a b d, X, sc, x, c, h => by
    rw [chkE] at h
    split at h
    · rename_i y o o' z w e
      obtain ⟨p, rfl⟩ := asCmp_eq e
      simp only [Bool.and_eq_true, decide_eq_true_eq] at h
      obtain ⟨⟨rfl, rfl⟩, h0, h1, h2, h3⟩ := h
      refine tE_eq ?_ (s_cmp2 c.fit (soundE a c h1) (soundE b c h2) (soundE d c h3) h0)
      intro env st; rw [ev]; try rfl
    · cases h
  | .ife t a b, X, sc, x, c, h => by
    rw [chkE] at h
    split at h
    · rename_i y z w e
      obtain ⟨p, rfl⟩ := asIf_eq e
      simp only [Bool.and_eq_true] at h
      refine tE_eq ?_ (s_ife (soundT t c h.1).1 (soundE a c h.2.1) (soundE b c h.2.2))
      intro env st; rw [ev]; try rfl
    · cases h
  | .tup es, X, sc, x, c, h => by
    rw [chkE] at h
    split at h
    · rename_i l e
      obtain ⟨_, p, rfl⟩ := asTup_eq e
      refine tE_eq ?_ (s_tup (soundEs es c h).pa)
      intro env st; rw [ev]; try rfl
    · cases h
  | .lst es, X, sc, x, c, h => by
    rw [chkE] at h
    split at h
    · rename_i l e
      obtain ⟨p, rfl⟩ := asLst_eq e
      refine tE_eq ?_ (s_lst (soundEs es c h).pa)
      intro env st; rw [ev]; try rfl
    · cases h
  | .dic ks es, X, sc, x, c, h => by
    rw [chkE] at h
    split at h
    · rename_i kl vl e
      obtain ⟨p, rfl⟩ := asDic_eq e
      simp only [Bool.and_eq_true, decide_eq_true_eq] at h
      obtain ⟨⟨h1, h2, h3, h5⟩, h4⟩ := h
      refine tE_eq ?_ (s_dic h1 h2 h3 (soundEs es c h4) (by intro z; subst z; cases h5))
      intro env st; rw [ev]; try rfl
    · cases h
  | .call f es, X, sc, x, c, h => by
    rw [chkE] at h
    split at h
    · rename_i y l e
      obtain ⟨p, pos, rfl⟩ := asCall_eq e
      simp only [Bool.and_eq_true] at h
      obtain ⟨⟨h1, h2⟩, h3⟩ := h
      obtain ⟨ps, h4, h5⟩ := fnB_of h1
      obtain ⟨fa, fd, h6⟩ := c.fns f y ps h4
      obtain ⟨h7, h8⟩ := c.gl h2
      refine tE_eq ?_ (s_call h6 c.fit c.room h7 h8 (soundEs es c h3) h5)
      intro env st; rw [ev]; try rfl
    · cases h
  | .callK f es ks g, X, sc, x, c, h => by
    rw [chkE] at h
    split at h
    · rename_i y l k0 kl e
      obtain ⟨p, pos, rfl⟩ := asCall_eq e
      simp only [Bool.and_eq_true] at h
      obtain ⟨⟨h1, h2⟩, h3, h9⟩ := h
      obtain ⟨ps, h4, h5, h10, h11⟩ := kwB_of h1
      obtain ⟨fa, fd, h6⟩ := c.fns f y ps h4
      obtain ⟨h7, h8⟩ := c.gl h2
      refine tE_eq ?_ (s_callK h6 c.fit c.room h7 h8 (soundEs es c h3) (soundEs ks c h9) h10 h11 h5)
      intro env st; rw [ev]; try rfl
    · cases h
  | .blt b es, X, sc, x, c, h => by
    rw [chkE] at h
    split at h
    · rename_i l hl
      refine tE_eq ?_ (blt_of c hl (soundEs es c h))
      intro env st; rw [ev]; try rfl
    · cases h
  | .meth m o es, X, sc, x, c, h => by
    rw [chkE] at h
    split at h
    · rename_i y nm ln args e
      obtain ⟨ap, cp, rfl, hl⟩ := asMeth_eq e
      simp only [Bool.and_eq_true, decide_eq_true_eq] at h
      obtain ⟨⟨rfl, h1, h2, h3⟩, h4, h5⟩ := h
      refine tE_eq ?_ (s_meth (soundE o c h4) (soundEs es c h5) h2 (hl.trans h1) h3)
      intro env st; rw [ev]; try rfl
    · cases h
  | .idx a b, X, sc, x, c, h => by
    rw [chkE] at h
    split at h
    · rename_i y z e
      obtain ⟨p, rfl⟩ := asSub_eq e
      simp only [Bool.and_eq_true] at h
      refine tE_eq ?_ (s_idx c.fit (soundE a c h.2.1) (soundE b c h.2.2) h.1)
      intro env st; rw [ev]; try rfl
    · cases h
  | .sl a lo hi, X, sc, x, c, h => by
    have hlo := fun y hy => soundE (X := X) (sc := sc) (x := y) lo c hy
    have hhi := fun y hy => soundE (X := X) (sc := sc) (x := y) hi c hy
    rw [chkE] at h
    split at h
    · rename_i y z e
      obtain ⟨p, rfl⟩ := asSub_eq e
      split at h
      · rename_i l u e2
        obtain ⟨p2, rfl⟩ := asSlice_eq e2
        simp only [Bool.and_eq_true] at h
        obtain ⟨h1, h2, h3⟩ := h
        have part : ∀ (o : Option Expr) (w : E), (∀ y, chkE B N w sc y = true → L2.PE X y (tE X.K (ev F G w))) → (match o with | some l => chkE B N w sc l | none => isN w) = true → PO X o (tPartA (tE X.K (ev F G w))) := by
          intro o w hw hh
          cases o with
          | some l => exact po_any (hw l hh)
          | none =>
            cases w <;> first | cases hh | skip
            have e : ev F G .cN = fun _ st => Res.ok D.non st := by funext env st; rw [ev]
            rw [e]; exact s_noPart
        refine tE_eq ?_ (s_sl (soundE a c h1) (part l lo hlo h2) (part u hi hhi h3))
        intro env st; rw [ev]; try rfl
      · cases h
    · cases h
  | .rev a, X, sc, x, c, h => by
    rw [chkE] at h
    split at h
    · rename_i y e
      obtain ⟨_, _, _, _, _, rfl⟩ := asRev_eq e
      refine tE_eq ?_ (s_rev (soundE a c h))
      intro env st; rw [ev]; try rfl
    · cases h
  | .lc own elt t kk es t', X, sc, x, c, h => by
    have ht := fun (X : Cx) sc x (c : Ctx B F G N sc k X) hh => soundT (X := X) (sc := sc) (x := x) t' c hh
    rw [chkE] at h
    split at h
    · rename_i y tg it ifs sc' e
      obtain ⟨p, rfl⟩ := asLc_eq e
      simp only [Bool.and_eq_true] at h
      obtain ⟨⟨h1, h2, h3⟩, h4, h5, h6, h7⟩ := h
      have hown : (own.map fun j => (N.getD j "", j)).map (·.2) = own := by
        rw [List.map_map]
        exact List.map_id' _
      have hts : ∀ (s : Shared) (H : Hp) (C : Addr) (cl : List (Str × Addr)) (fp : List Addr), PTs (X.blk s H sc' (compEnvC sc' cl C X.env) fp) ifs (tT X.K (evT F G t')) := by
        intro s H C cl fp
        split at h6
        · cases t' <;> first | cases h6 | skip
          have e : evT F G .yes = fun _ st => Res.ok true st := by funext env st; rw [evT]
          rw [e]; exact pts_yes
        · exact pts_one (ht _ _ _ (c.blk sc' s H C cl fp) h6).1
        · cases h6
      have hit : PI X tg it (tI X.K kk (evs F G es)) := by
        split at h4
        · rename_i l hl; exact it_of c hl (soundEs es c h4)
        · cases h4
      refine tE_eq ?_ (s_lc (own := own.map fun j => (N.getD j "", j)) (k := kk) (t := t) c.fit (by rw [c.hN]; exact c.nd) (by rw [hown]; exact h2) hit (c.blkOk (blkOk_by h1))
        (fun s H C cl fp => soundTg t (c.blk sc' s H C cl fp) h5) hts (fun s H C cl fp => soundE elt (c.blk sc' s H C cl fp) h7) h3)
      intro env st; rw [ev, hown]; try rfl
    · cases h
theorem soundEs : ∀ (es : Es) {X : Cx} {sc : Scope} {l : List Expr}, Ctx B F G N sc k X → chkEs B N es sc l = true → PAll F G X es l
  | .nil, X, sc, [], c, h => True.intro
  | .nil, X, sc, _ :: _, c, h => by rw [chkEs] at h <;> first | cases h | simp
  | .cons e es, X, sc, [], c, h => by rw [chkEs] at h <;> first | cases h | simp
  | .cons e es, X, sc, x :: l, c, h => by
    rw [chkEs] at h
    simp only [Bool.and_eq_true] at h
    exact ⟨h.1, soundE e c h.2.1, soundEs es c h.2.2⟩
theorem soundT : ∀ (t : T) {X : Cx} {sc : Scope} {x : Expr}, Ctx B F G N sc k X → chkT B N t sc x = true → PTW X x (evT F G t)
  | .val a, X, sc, x, c, h => by
    rw [chkT, Bool.and_eq_true] at h
    refine ptw_pt (tT_eq ?_ (s_tval (soundE a c h.2) h.1)) (plainT_bool h.1)
    intro env st; rw [evT]; try rfl
  | .vc op a b, X, sc, x, c, h => by
    rw [chkT] at h
    split at h
    · rename_i y o z e
      obtain ⟨p, rfl⟩ := asCmp_eq e
      simp only [Bool.and_eq_true, decide_eq_true_eq] at h
      obtain ⟨rfl, h0, h1, h2⟩ := h
      refine ptw_pt (tT_eq ?_ (s_tcmp c.fit (soundE a c h1) (soundE b c h2) h0)) (by intro _ _ _ z; cases z)
      intro env st; rw [evT]; try rfl
    · cases h
  | .vc2 op op' a b d, X, sc, x, c, h => by
    rw [chkT] at h
    split at h
    · rename_i y o o' z w e
      obtain ⟨p, rfl⟩ := asCmp_eq e
      simp only [Bool.and_eq_true, decide_eq_true_eq] at h
      obtain ⟨⟨rfl, rfl⟩, h0, h1, h2, h3⟩ := h
      refine ptw_pt (tT_eq ?_ (s_tcmp2 c.fit (soundE a c h1) (soundE b c h2) (soundE d c h3) h0)) (by intro _ _ _ z; cases z)
      intro env st; rw [evT]; try rfl
    · cases h
  | .not t, X, sc, x, c, h => by
    rw [chkT] at h
    split at h
    · rename_i y e
      obtain ⟨p, rfl⟩ := asUn_eq e
      refine ptw_pt (tT_eq ?_ (s_tnot (soundT t c h).1)) (by intro _ _ _ z; cases z)
      intro env st; rw [evT]; try rfl
    · cases h
  | .and1 a, X, sc, x, c, h => by
    rw [chkT] at h
    split at h
    · rename_i y p e
      cases asBool_eq e
      refine ptw_pw (tW_eq ?_ (pw_and1 (soundT a c h).1))
      intro env st; rw [evT]; try rfl
    · cases h
  | .and2 a r, X, sc, x, c, h => by
    rw [chkT] at h
    split at h
    · rename_i y z l p e
      cases asBool_eq e
      rw [Bool.and_eq_true] at h
      refine ptw_pw (tW_eq ?_ (s_tand (soundT a c h.1).1 ((soundT r c h.2).2 _ _ _ rfl)))
      intro env st; rw [evT]; try rfl
    · cases h
  | .or1 a, X, sc, x, c, h => by
    rw [chkT] at h
    split at h
    · rename_i y p e
      cases asBool_eq e
      refine ptw_pw (tW_eq ?_ (pw_or1 (soundT a c h).1))
      intro env st; rw [evT]; try rfl
    · cases h
  | .or2 a r, X, sc, x, c, h => by
    rw [chkT] at h
    split at h
    · rename_i y z l p e
      cases asBool_eq e
      rw [Bool.and_eq_true] at h
      refine ptw_pw (tW_eq ?_ (s_tor (soundT a c h.1).1 ((soundT r c h.2).2 _ _ _ rfl)))
      intro env st; rw [evT]; try rfl
    · cases h
  | .yes, X, sc, x, c, h => by rw [chkT] at h; cases h
theorem soundTg : ∀ (t : Tg) {X : Cx} {sc : Scope} {x : Expr}, Ctx B F G N sc k X → chkTg B N t sc x = true → PG X x (tG X.K (tgOwn t) (asg F G t))
  | .name i, X, sc, x, c, h => by
    rw [chkTg] at h
    split at h
    · rename_i y e
      obtain ⟨p, rfl⟩ := asName_eq e
      simp only [Bool.and_eq_true, decide_eq_true_eq] at h
      obtain ⟨h1, h2⟩ := c.loc h.2
      refine tG_eq ?_ (s_name (i := i) (by rw [c.hN]; exact c.nd) (by rw [c.hN]; exact h.1) h1 h2)
      intro d env st; rw [asg]; try rfl
    · cases h
  | .tup ts, X, sc, x, c, h => by
    rw [chkTg] at h
    split at h
    · rename_i l e
      obtain ⟨_, p, rfl⟩ := asTup_eq e
      refine tG_eq ?_ (s_tgtup c.fit (soundTgs ts c h))
      intro d env st; rw [asg]; try rfl
    · cases h
  | .sub o i, X, sc, x, c, h => by
    rw [chkTg] at h
    split at h
    · rename_i y z e
      obtain ⟨p, rfl⟩ := asSub_eq e
      simp only [Bool.and_eq_true] at h
      refine tG_eq ?_ (s_tgsub c.fit (soundE o c h.2.1) (soundE i c h.2.2) h.1)
      intro d env st; rw [asg]; try rfl
    · cases h
theorem soundTgs : ∀ (ts : Tgs) {X : Cx} {sc : Scope} {l : List Expr}, Ctx B F G N sc k X → chkTgs B N ts sc l = true → PGAll F G X ts l
  | .nil, X, sc, [], c, h => True.intro
  | .nil, X, sc, _ :: _, c, h => by rw [chkTgs] at h <;> first | cases h | simp
  | .cons e es, X, sc, [], c, h => by rw [chkTgs] at h <;> first | cases h | simp
  | .cons e es, X, sc, x :: l, c, h => by
    rw [chkTgs] at h
    simp only [Bool.and_eq_true] at h
    exact ⟨h.1, soundTg e c h.2.1, soundTgs es c h.2.2⟩
end
end
end PL

set_option Elab.async false
set_option linter.all false
set_option maxRecDepth 100000
set_option maxHeartbeats 4000000
/-! PLM: statements. -/
namespace PL
open PySem PySem.Spec PyProof.Rows L2

/-- what follows a statement -/
def OutP (K : PySem.W.Frag) (D : Ends) : Out → List Addr → Hp → Prop
  | .next env, as, H => ∀ σ, REnv K as H env σ → D.nx σ H
  | .brk env, as, H => ∀ σ, REnv K as H env σ → D.bk σ H
  | .cnt env, as, H => ∀ σ, REnv K as H env σ → D.ct σ H
  | .ret d, as, H => ∀ v, RV K as H d v → D.rt v H
def tS (K : PySem.W.Frag) (m : Env → Sto → Res Out) : TS := fun D σ H => ∃ as st env, Rel K as st H ∧ REnv K as H env σ ∧ Good K (OutP K D) as H (m env st)
theorem ps_imp {X : Cx} {st : Stmt} {t t' : TS} (h : PS X st t) (f : ∀ D σ H, t' D σ H → t D σ H) : PS X st t' := ⟨fun pins s σ H D I q => h.run pins s σ H D I (f D σ H q)⟩
theorem pss_imp {X : Cx} {st : List Stmt} {t t' : TS} (h : PSs X st t) (f : ∀ D σ H, t' D σ H → t D σ H) : PSs X st t' := ⟨fun pins s σ H D I q => h.run pins s σ H D I (f D σ H q)⟩

/-! ### shapes -/
def asAssign : Stmt → Option (Expr × Expr × Nat) | .Assign [t] e p => some (t, e, p.line) | _ => none
def asExpr : Stmt → Option Expr | .Expr e _ => some e | _ => none
def asRet : Stmt → Option Expr | .Return (some e) _ => some e | _ => none
def asRetN : Stmt → Bool | .Return none _ => true | _ => false
def asIfS : Stmt → Option (Expr × List Stmt × List Stmt) | .If c a b _ => some (c, a, b) | _ => none
def asFor : Stmt → Option (Expr × Expr × List Stmt) | .For t i b [] _ => some (t, i, b) | _ => none
def asWhl : Stmt → Option (Expr × List Stmt) | .While c b [] _ => some (c, b) | _ => none
def isBrk : Stmt → Bool | .Break _ => true | _ => false
def isCnt : Stmt → Bool | .Continue _ => true | _ => false
def isPass : Stmt → Bool | .Pass _ => true | _ => false
theorem asAssign_eq {st : Stmt} {t e : Expr} {l : Nat} (h : asAssign st = some (t, e, l)) : ∃ p, st = .Assign [t] e p ∧ p.line = l := by
  unfold asAssign at h; split at h
  · cases h; exact ⟨_, rfl, rfl⟩
  · cases h
theorem asExpr_eq {st : Stmt} {e : Expr} (h : asExpr st = some e) : ∃ p, st = .Expr e p := by cases st <;> simp [asExpr] at h; exact ⟨_, by rw [h]⟩
theorem asRet_eq {st : Stmt} {e : Expr} (h : asRet st = some e) : ∃ p, st = .Return (some e) p := by
  unfold asRet at h; split at h
  · cases h; exact ⟨_, rfl⟩
  · cases h
theorem asRetN_eq {st : Stmt} (h : asRetN st = true) : ∃ p, st = .Return none p := by
  unfold asRetN at h; split at h
  · exact ⟨_, rfl⟩
  · cases h
theorem asIfS_eq {st : Stmt} {c : Expr} {a b : List Stmt} (h : asIfS st = some (c, a, b)) : ∃ p, st = .If c a b p := by cases st <;> simp [asIfS] at h; obtain ⟨rfl, rfl, rfl⟩ := h; exact ⟨_, rfl⟩
theorem asFor_eq {st : Stmt} {t i : Expr} {b : List Stmt} (h : asFor st = some (t, i, b)) : ∃ p, st = .For t i b [] p := by
  unfold asFor at h; split at h
  · cases h; exact ⟨_, rfl⟩
  · cases h
theorem asWhl_eq {st : Stmt} {c : Expr} {b : List Stmt} (h : asWhl st = some (c, b)) : ∃ p, st = .While c b [] p := by
  unfold asWhl at h; split at h
  · cases h; exact ⟨_, rfl⟩
  · cases h
theorem isBrk_eq {st : Stmt} (h : isBrk st = true) : ∃ p, st = .Break p := by cases st <;> first | exact ⟨_, rfl⟩ | cases h
theorem isCnt_eq {st : Stmt} (h : isCnt st = true) : ∃ p, st = .Continue p := by cases st <;> first | exact ⟨_, rfl⟩ | cases h
theorem isPass_eq {st : Stmt} (h : isPass st = true) : ∃ p, st = .Pass p := by cases st <;> first | exact ⟨_, rfl⟩ | cases h

/-! ### stores that are swapped -/
/-- the names when stores are swapped; none: the model does not tell -/
def swp (sc : Scope) (tg value : Expr) : Option (Option (List Str)) := match tg, value with
  | .Tuple ts _ _, .Tuple vs _ _ =>
    if (!(ts.length == 2 || ts.length == 3) || vs.length != ts.length) = true then some none
    else if (vs.any fun | .Starred .. => true | _ => false) = true then some none
    else
      let line := (ts.head?.map (·.pos.line)).getD 0
      let names := ts.filterMap fun
        | .Name id pos => if (sc.names.lookup id == some .local && pos.line == line) = true then some id else none
        | _ => none
      if (names.length != ts.length || names.eraseDups.length != names.length) = true then some none
      else if vs.all (foldedForSure 8) = true then some none
      else if vs.all (constantsAlone 8) = true then none
      else some (some names)
  | .List _ _, _ => none
  | _, _ => some none
theorem blockK {env : PySem.Env} (hk : env.scope.kind = .function) : env.blockKind = .function := by unfold PySem.Env.blockKind; rw [hk]; rfl
theorem swp_eq {sc : Scope} {tg value : Expr} {r : Option (List Str)} {env : PySem.Env} (hs : env.scope = sc) (hk : sc.kind = .function) (h : swp sc tg value = some r) : swappedStores [tg] value env = pure r := by
  subst hs
  have hb := blockK hk
  unfold swp at h
  split at h
  · rename_i ts k p vs k' p'
    unfold swappedStores
    simp only [hb, pure_bind]
    have hkk : ∀ id, env.kindOf id = env.scope.names.lookup id := fun _ => rfl
    have hff : (ScopeKind.function != ScopeKind.function) = false := rfl
    simp only [hkk, hff, Bool.or_false]
    simp only [] at h
    split at h
    · rename_i c1; cases h; exact if_pos c1
    · rename_i c1
      refine (if_neg c1).trans ?_
      split at h
      · rename_i c2; cases h; exact if_pos c2
      · rename_i c2
        refine (if_neg c2).trans ?_
        split at h
        · rename_i c3; cases h; exact if_pos c3
        · rename_i c3
          refine (if_neg c3).trans ?_
          split at h
          · rename_i c4; cases h; exact if_pos c4
          · rename_i c4
            refine (if_neg c4).trans ?_
            split at h
            · cases h
            · rename_i c5
              cases h; exact (if_neg c5).trans rfl
  · cases h
  · rename_i h1 h2
    cases h
    unfold swappedStores
    split
    · rename_i e
      split at e
      · rename_i e1; injection e1 with e3; exact (h2 _ _ _ _ _ _ e3 rfl).elim
      · rename_i e1; injection e1 with e3; exact (h1 _ _ e3).elim
      · cases e
    · rfl
/-- whether the comprehension's store is swapped -/
def swB (sc : Scope) (tg value : Expr) : Option Bool := match value with
  | .ListComp _ _ s pos => (match tg with
    | .Name t p => some ((match sc.names.lookup t with | some .local => true | _ => false) && (p.line == pos.line && !(s.names.any fun (n, k) => n == t && (k == .local || k == .cell))))
    | _ => some false)
  | .SetComp _ _ _ _ => none
  | .DictComp _ _ _ _ _ => none
  | _ => some false
theorem swB_false {sc : Scope} {tg value : Expr} {env : PySem.Env} {l : Nat} (hs : env.scope = sc) (hk : sc.kind = .function) (h : swB sc tg value = some false) : swapsWithSole [tg] value l env = pure false := by
  subst hs
  have hb := blockK hk
  have hkk : ∀ id, env.kindOf id = env.scope.names.lookup id := fun _ => rfl
  show swapsWith value (some tg) l env = pure false
  unfold swB at h
  split at h
  · rename_i s pos
    split at h
    · rename_i t p
      have h : ((match env.scope.names.lookup t with | some .local => true | _ => false) && (p.line == pos.line && !(s.names.any fun (n, k) => n == t && (k == .local || k == .cell)))) = false := by simpa using h
      unfold swapsWith
      simp only [hb, hkk, Expr.pos]
      show pure _ = pure false
      congr 1
      cases q : List.lookup t env.scope.names with
      | none => rfl
      | some k =>
        rw [q] at h
        cases k <;> first | rfl | skip
        simpa [Bool.and_assoc] using h
    · unfold swapsWith
      rename_i hn
      cases tg <;> first | rfl | exact (hn _ _ rfl).elim
  · cases h
  · cases h
  · unfold swapsWith
    cases value <;> first | rfl | (rename_i h1 h2 h3; first | exact (h1 _ _ _ _ rfl).elim | exact (h2 _ _ _ _ rfl).elim | exact (h3 _ _ _ _ _ rfl).elim)
theorem swB_true {sc : Scope} {tg value : Expr} {env : PySem.Env} {l : Nat} (hs : env.scope = sc) (hk : sc.kind = .function) (h : swB sc tg value = some true) : ∃ y p, tg = .Name y p ∧ sc.names.lookup y = some .local ∧ swapsWith value (some tg) l env = pure true := by
  subst hs
  have hb := blockK hk
  have hkk : ∀ id, env.kindOf id = env.scope.names.lookup id := fun _ => rfl
  unfold swB at h
  split at h
  · rename_i s pos
    split at h
    · rename_i t p
      have h : ((match env.scope.names.lookup t with | some .local => true | _ => false) && (p.line == pos.line && !(s.names.any fun (n, k) => n == t && (k == .local || k == .cell)))) = true := by simpa using h
      rw [Bool.and_eq_true] at h
      have hl : env.scope.names.lookup t = some .local := by
        have h1 := h.1
        split at h1
        · assumption
        · cases h1
      refine ⟨t, p, rfl, hl, ?_⟩
      unfold swapsWith
      simp only [hb, hkk, Expr.pos, hl]
      show pure _ = pure true
      congr 1
      simpa using h.2
    · cases h
  · cases h
  · cases h
  · cases h
end PL

set_option Elab.async false
set_option linter.all false
set_option maxRecDepth 100000
set_option maxHeartbeats 4000000
/-! PLN: every statement that passes the look does what the small language says. -/
namespace PL
open PySem PySem.Spec PyProof.Rows L2

section
variable {F : Nat → List D → Sto → Res D} {G : List D} {X : Cx}
variable {me : Env → Sto → Res D}
theorem s_asg {e tg : Expr} {p : Pos} {ow : List Nat → Bool} {mt : D → Env → Sto → Res Env} (he : L2.PE X e (tE X.K me)) (hg : PG X tg (tG X.K ow mt)) (hs : swapsWithSole [tg] e p.line X.env = pure false) (hw : swappedStores [tg] e X.env = pure none) (hn : noStar tg = true) :
    PS X (.Assign [tg] e p) (tS X.K fun env st => (me env st).bind fun d st1 => (mt d env st1).bind fun env1 st2 => .ok (.next env1) st2) :=
  ps_imp (ps_asg he hg hs hw (by rw [assign_cons hn]; rfl)) fun D σ H ⟨as, st, env, rel, re, g⟩ => tE_mono (one_of rel re g) fun v H1 ⟨as1, st1, d, e1, r1, re1, rv, g1⟩ =>
    ⟨as1, st1, env, d, r1, re1, rv, g1.bind.imp fun env1 as2 H2 e2 ⟨st2, _, r2, g2⟩ σ' re' _ => g2.here r2 σ' re'⟩
theorem s_par2 {es : Es} {i j : Nat} {x y : Str} {a b : Expr} {px py pt pos : Pos} {kt k2 : Nat} {pt2 : Pos} (fx : Fit X) (hN : X.N.Nodup) (hi : X.N[i]? = some x) (hj : X.N[j]? = some y) (hij : i ≠ j)
    (hx : X.env.scope.names.lookup x = some .local) (hy : X.env.scope.names.lookup y = some .local) (ha : PAll F G X es [a, b])
    (hw : swappedStores [.Tuple [.Name x px, .Name y py] kt pt] (.Tuple [a, b] k2 pt2) X.env = pure (some [x, y])) :
    PS X (.Assign [.Tuple [.Name x px, .Name y py] kt pt] (.Tuple [a, b] k2 pt2) pos) (tS X.K fun env st => (evs F G es env st).bind fun ds st1 => if ds.length = [i, j].length then .ok (.next (setAll env [i, j] ds)) st1 else .bad) :=
  ps_imp (ps_par fx.hc hN hi hj hij hx hy ha.pa hw rfl) fun D σ H ⟨as, st, env, rel, re, g⟩ => tA_mono (evs_of rel re g) fun vs H1 ⟨as1, st1, ds, e1, r1, re1, rvs, hl, g1⟩ => by
    match ds, hl.trans ha.len.symm with
    | [d, d'], _ =>
      obtain ⟨v, w, rfl, r2, r3⟩ := rvs_two rvs
      exact ⟨v, w, rfl, g1.here r1 _ ((re1.set r2 i).set r3 j)⟩
theorem s_par3 {es : Es} {i j l : Nat} {x y z : Str} {a b c : Expr} {px py pz pt pos : Pos} {kt k2 : Nat} {pt2 : Pos} (fx : Fit X) (hN : X.N.Nodup) (hi : X.N[i]? = some x) (hj : X.N[j]? = some y) (hl : X.N[l]? = some z) (hij : i ≠ j) (hil : i ≠ l) (hjl : j ≠ l)
    (hx : X.env.scope.names.lookup x = some .local) (hy : X.env.scope.names.lookup y = some .local) (hz : X.env.scope.names.lookup z = some .local) (ha : PAll F G X es [a, b, c])
    (hw : swappedStores [.Tuple [.Name x px, .Name y py, .Name z pz] kt pt] (.Tuple [a, b, c] k2 pt2) X.env = pure (some [x, y, z])) :
    PS X (.Assign [.Tuple [.Name x px, .Name y py, .Name z pz] kt pt] (.Tuple [a, b, c] k2 pt2) pos) (tS X.K fun env st => (evs F G es env st).bind fun ds st1 => if ds.length = [i, j, l].length then .ok (.next (setAll env [i, j, l] ds)) st1 else .bad) :=
  ps_imp (ps_par3 fx.hc hN hi hj hl hij hil hjl hx hy hz ha.pa hw rfl) fun D σ H ⟨as, st, env, rel, re, g⟩ => tA_mono (evs_of rel re g) fun vs H1 ⟨as1, st1, ds, e1, r1, re1, rvs, hl, g1⟩ => by
    match ds, hl.trans ha.len.symm with
    | [d, d', d''], _ =>
      obtain ⟨v, ws, rfl, r2, r3⟩ := rvs
      obtain ⟨w, u, rfl, r4, r5⟩ := rvs_two r3
      exact ⟨v, w, u, rfl, g1.here r1 _ (((re1.set r2 i).set r4 j).set r5 l)⟩
theorem s_exp {e : Expr} {p : Pos} (he : L2.PE X e (tE X.K me)) (hn : noComp e = true) : PS X (.Expr e p) (tS X.K fun env st => (me env st).bind fun _ st1 => .ok (.next env) st1) :=
  ps_imp (ps_expr he (noComp_sw hn _ _ _)) fun D σ H ⟨as, st, env, rel, re, g⟩ => tE_mono (one_of rel re g) fun v H1 ⟨as1, st1, d, e1, r1, re1, rv, g1⟩ => g1.here r1 σ re1
theorem s_ret {e : Expr} {p : Pos} (he : L2.PE X e (tE X.K me)) : PS X (.Return (some e) p) (tS X.K fun env st => (me env st).bind fun d st1 => .ok (.ret d) st1) :=
  ps_imp (ps_ret he) fun D σ H ⟨as, st, env, rel, re, g⟩ => tE_mono (one_of rel re g) fun v H1 ⟨as1, st1, d, e1, r1, re1, rv, g1⟩ => g1.here r1 v rv
theorem s_retN {p : Pos} : PS X (.Return none p) (tS X.K fun env st => .ok (.ret .non) st) :=
  ps_imp ps_retN fun D σ H ⟨as, st, env, rel, re, g⟩ => g.here rel _ rfl
theorem s_ite {c : Expr} {a b : List Stmt} {p : Pos} {mc : Env → Sto → Res Bool} {ma mb : Env → Sto → Res Out} (hc : L2.PT X c (tT X.K mc)) (ha : PSs X a (tS X.K ma)) (hb : PSs X b (tS X.K mb)) :
    PS X (.If c a b p) (tS X.K fun env st => (mc env st).bind fun k st1 => if k then ma env st1 else mb env st1) :=
  ps_imp (ps_if hc ha hb) fun D σ H ⟨as, st, env, rel, re, g⟩ => tT_mono (test_of rel re g) fun b H1 ⟨as1, st1, e1, r1, re1, g1⟩ => by
    cases b with
    | true => rw [if_pos rfl]; exact ⟨as1, st1, env, r1, re1, g1⟩
    | false => rw [if_neg (by simp)]; exact ⟨as1, st1, env, r1, re1, g1⟩
theorem s_brk {p : Pos} : PS X (.Break p) (tS X.K fun env st => .ok (.brk env) st) := ps_imp ps_break fun D σ H ⟨as, st, env, rel, re, g⟩ => g.here rel _ re
theorem s_cnt {p : Pos} : PS X (.Continue p) (tS X.K fun env st => .ok (.cnt env) st) := ps_imp ps_continue fun D σ H ⟨as, st, env, rel, re, g⟩ => g.here rel _ re
theorem s_pass {p : Pos} : PS X (.Pass p) (tS X.K fun env st => .ok (.next env) st) := ps_imp ps_pass fun D σ H ⟨as, st, env, rel, re, g⟩ => g.here rel _ re
theorem s_never {st : Stmt} : PS X st (tS X.K fun env st => .bad) := ps_imp ps_never fun D σ H ⟨as, st, env, rel, re, g⟩ => g
theorem ss_nil : PSs X [] (tS X.K fun env st => .ok (.next env) st) := pss_imp pss_nil fun D σ H ⟨as, st, env, rel, re, g⟩ => g.here rel _ re
theorem ss_cons {s : Stmt} {l : List Stmt} {m m' : Env → Sto → Res Out} (h : PS X s (tS X.K m)) (h' : PSs X l (tS X.K m')) : PSs X (s :: l) (tS X.K fun env st => (m env st).bind fun o st1 => match o with
    | .next env1 => m' env1 st1
    | .brk env1 => .ok (.brk env1) st1
    | .cnt env1 => .ok (.cnt env1) st1
    | .ret d => .ok (.ret d) st1) :=
  pss_imp (pss_cons h h') fun D σ H ⟨as, st, env, rel, re, g⟩ => ⟨as, st, env, rel, re, g.bind.imp fun o as1 H1 e1 ⟨st1, _, r1, g1⟩ => by
    cases o with
    | next env1 => exact fun σ1 re1 => ⟨as1, st1, env1, r1, re1, g1⟩
    | brk env1 => exact g1.here r1
    | cnt env1 => exact g1.here r1
    | ret d => exact g1.here r1⟩
theorem s_for {k : ItK} {tg it : Expr} {body : List Stmt} {p : Pos} {ow : List Nat → Bool} {ms : Env → Sto → Res (List D)} {mt : D → Env → Sto → Res Env} {mb : Env → Sto → Res Out} (fx : Fit X) (hp : PassesOwn (model X.prog X.w) X.A X.env X.xe)
    (hi : PI X tg it (tI X.K k ms)) (hg : PG X tg (tG X.K ow mt)) (hb : PSs X body (tS X.K mb)) (hs : noSet it = true) :
    PS X (.For tg it body [] p) (tS X.K fun env st => (ms env st).bind fun ds st1 => match srcD k ds st1 with
      | none => .bad
      | some s => forLoop s (fun d env st => (mt d env st).bind fun env1 st1 => mb env1 st1) (s.len st1 + 1) 0 env st1) := by
  refine ps_imp (ps_for hp fx.hc hi hg hb (noSet_fold hs X.env)) fun D σ H ⟨as, st, env, rel, re, g⟩ => ?_
  have eq := src_bind (r := ms env st) (k := k) (L := fun s st1 => forLoop s (fun d env st => (mt d env st).bind fun env1 st1 => mb env1 st1) (s.len st1 + 1) 0 env st1)
  have g : Good X.K (OutP X.K D) as H (((ms env st).bind fun ds st1 => liftO (srcD k ds st1) st1).bind fun s st1 => forLoop s (fun d env st => (mt d env st).bind fun env1 st1 => mb env1 st1) (s.len st1 + 1) 0 env st1) := by rw [← eq]; exact g
  refine ⟨as, st, env, rel, re, g.bind.imp fun s as0 H0 e1 ⟨st0, _, r1, g1⟩ J hJ => ?_⟩
  refine ⟨fun i m σ' H' => ∃ as' st' env', Ext X.K as0 H0 as' H' ∧ Rel X.K as' st' H' ∧ REnv X.K as' H' env' σ' ∧ Good X.K (OutP X.K D) as' H' (forLoop s (fun d env st => (mt d env st).bind fun env1 st1 => mb env1 st1) m i env' st'),
    ⟨s.len st0 + 1, as0, st0, env, Ext.refl, r1, re.mono e1, g1⟩, ?_⟩
  rintro i m σ' H' ⟨as', st', env', e2, r2, re2, g2⟩
  cases m with
  | zero => exact g2.elim
  | succ m =>
    rw [forLoop] at g2
    split at g2
    · exact g2.elim
    · rename_i hat
      exact .inl ⟨hJ.stop as' H' st' i e2 r2 hat, g2.here r2 _ re2⟩
    · rename_i d hat
      obtain ⟨hgo, hy⟩ := hJ.go as' H' st' i d e2 r2 hat
      refine .inr ⟨hgo, _, fun σ1 H1 hN => ⟨m, Nat.lt_succ_self m, hN⟩, fun x H3 yl => ?_⟩
      obtain ⟨e3, r3, rx⟩ := hy x H3 yl
      simp only [Res.bind_assoc] at g2
      have g3 := g2.mono e3
      refine ⟨as', st', env', d, r3, re2.mono e3, rx, g3.bind.imp fun env1 as4 H4 e4 ⟨st4, _, r4, g4⟩ σ4 re4 _ => ?_⟩
      refine ⟨as4, st4, env1, r4, re4, g4.bind.imp fun o as5 H5 e5 ⟨st5, _, r5, g5⟩ => ?_⟩
      have ee := ((e2.trans e3).trans e4).trans e5
      cases o with
      | next env2 => exact fun σ5 re5 => ⟨as5, st5, env2, ee, r5, re5, g5⟩
      | cnt env2 => exact fun σ5 re5 => ⟨as5, st5, env2, ee, r5, re5, g5⟩
      | brk env2 => exact fun σ5 re5 => g5.here r5 σ5 re5
      | ret d => exact fun v rv => g5.here r5 v rv
theorem s_whl {c : Expr} {body : List Stmt} {p : Pos} {mc : Env → Sto → Res Bool} {mb : Env → Sto → Res Out} {n : Nat} (hp : PassesOwn (model X.prog X.w) X.A X.env X.xe)
    (hc : L2.PT X c (tT X.K mc)) (hb : PSs X body (tS X.K mb)) : PS X (.While c body [] p) (tS X.K fun env st => whlLoop mc mb n env st) := by
  refine ps_imp (ps_while hp hc hb) fun D σ H ⟨as, st, env, rel, re, g⟩ => ?_
  refine ⟨fun m σ' H' => ∃ as' st' env', Rel X.K as' st' H' ∧ REnv X.K as' H' env' σ' ∧ Good X.K (OutP X.K D) as' H' (whlLoop mc mb m env' st'), ⟨n, as, st, env, rel, re, g⟩, ?_⟩
  rintro m σ' H' ⟨as', st', env', r2, re2, g2⟩
  cases m with
  | zero => exact g2.elim
  | succ m =>
    rw [whlLoop] at g2
    refine tT_mono (test_of r2 re2 g2) fun b H3 ⟨as3, st3, e3, r3, re3, g3⟩ => ?_
    cases b with
    | false =>
      rw [if_neg (by simp)] at g3 ⊢
      exact g3.here r3 _ re3
    | true =>
      rw [if_pos rfl] at g3 ⊢
      refine ⟨_, fun σ1 H1 hN => ⟨m, Nat.lt_succ_self m, hN⟩, as3, st3, env', r3, re3, g3.bind.imp fun o as5 H5 e5 ⟨st5, _, r5, g5⟩ => ?_⟩
      cases o with
      | next env2 => exact fun σ5 re5 => ⟨as5, st5, env2, r5, re5, g5⟩
      | cnt env2 => exact fun σ5 re5 => ⟨as5, st5, env2, r5, re5, g5⟩
      | brk env2 => exact fun σ5 re5 => g5.here r5 σ5 re5
      | ret d => exact fun v rv => g5.here r5 v rv
end

/-! ### the look -/
section
variable (B : Tab) (N : List Str) (sc : Scope)
def locB1 (i : Nat) (x : Str) : Bool := decide (N[i]? = some x) && (match sc.names.lookup x with | some .local => true | _ => false)
def parB (is : List Nat) (tg v : Expr) : Option (List Expr) := match is, tg, v with
  | [i, j], .Tuple [.Name x _, .Name y _] _ _, .Tuple [a, b] _ _ => onlyIf ((locB1 N sc i x && locB1 N sc j y) && (decide (i ≠ j) && decide (swp sc tg v = some (some [x, y])))) [a, b]
  | [i, j, l], .Tuple [.Name x _, .Name y _, .Name z _] _ _, .Tuple [a, b, c] _ _ => onlyIf ((locB1 N sc i x && (locB1 N sc j y && locB1 N sc l z)) && ((decide (i ≠ j) && (decide (i ≠ l) && decide (j ≠ l))) && decide (swp sc tg v = some (some [x, y, z])))) [a, b, c]
  | _, _, _ => none
def nameB (i : Nat) (tg : Expr) : Bool := match asName tg with | some x => locB1 N sc i x | none => false
mutual
def chkS : S → Stmt → Bool
  | .asg t e, st => match asAssign st with
    | some (tg, v, _) => (decide (swp sc tg v = some none) && (decide (swB sc tg v = some false) && noStar tg)) && (chkTg B N t sc tg && chkE B N e sc v)
    | none => false
  | .asgC i own elt t k es c, st => match asAssign st with
    | some (tg, v, _) => (nameB N sc i tg && decide (swB sc tg v = some true)) && chkE B N (.lc own elt t k es c) sc v
    | none => false
  | .par is es, st => match asAssign st with
    | some (tg, v, _) => (match parB N sc is tg v with | some l => chkEs B N es sc l | none => false)
    | none => false
  | .exp e, st => match asExpr st with | some x => noComp x && chkE B N e sc x | none => false
  | .ret e, st => match asRet st with | some x => chkE B N e sc x | none => false
  | .retN, st => asRetN st
  | .ite c a b, st => match asIfS st with | some (x, p, q) => chkT B N c sc x && (chkSs a p && chkSs b q) | none => false
  | .for_ t k es body, st => match asFor st with
    | some (tg, it, b) => noSet it && ((match itA B sc k it tg with | some l => chkEs B N es sc l | none => false) && (chkTg B N t sc tg && chkSs body b))
    | none => false
  | .whl c body, st => match asWhl st with | some (x, b) => chkT B N c sc x && chkSs body b | none => false
  | .brk, st => isBrk st
  | .cnt, st => isCnt st
  | .pass, st => isPass st
  | .never, _ => true
def chkSs : Ss → List Stmt → Bool
  | .nil, [] => true
  | .cons s ss, x :: l => chkS s x && chkSs ss l
  | _, _ => false
end
end

section
variable {B : Tab} {F : Nat → List D → Sto → Res D} {G : List D} {N : List Str} {k : Nat} {sc : Scope} {X : Cx}
structure StC (B : Tab) (F : Nat → List D → Sto → Res D) (G : List D) (N : List Str) (sc : Scope) (k : Nat) (X : Cx) : Prop where
  cx : Ctx B F G N sc k X
  hsc : X.env.scope = sc
  hk : sc.kind = .function
  hp : PassesOwn (model X.prog X.w) X.A X.env X.xe
theorem locB1_of (c : StC B F G N sc k X) {i : Nat} {x : Str} (h : locB1 N sc i x = true) : X.N[i]? = some x ∧ X.env.scope.names.lookup x = some .local := by
  unfold locB1 at h
  rw [Bool.and_eq_true] at h
  rw [c.cx.hN, c.hsc]
  refine ⟨of_decide_eq_true h.1, ?_⟩
  have h2 := h.2
  split at h2
  · assumption
  · cases h2
theorem tS_eq {x : Stmt} {m m' : Env → Sto → Res Out} (h : ∀ env st, m' env st = m env st) (p : PS X x (tS X.K m)) : PS X x (tS X.K m') := by
  have : m' = m := by funext env st; exact h env st
  rw [this]; exact p
theorem tSs_eq {x : List Stmt} {m m' : Env → Sto → Res Out} (h : ∀ env st, m' env st = m env st) (p : PSs X x (tS X.K m)) : PSs X x (tS X.K m') := by
  have : m' = m := by funext env st; exact h env st
  rw [this]; exact p
theorem par_of (c : StC B F G N sc k X) {is : List Nat} {tg v : Expr} {l : List Expr} {es : Es} {p : Pos} (h : parB N sc is tg v = some l) (ha : PAll F G X es l) :
    PS X (.Assign [tg] v p) (tS X.K fun env st => (evs F G es env st).bind fun ds st1 => if ds.length = is.length then .ok (.next (setAll env is ds)) st1 else .bad) := by
  have hN : X.N.Nodup := by rw [c.cx.hN]; exact c.cx.nd
  unfold parB at h
  split at h
  · obtain ⟨hh, rfl⟩ := onlyIf_of h
    simp only [Bool.and_eq_true, decide_eq_true_eq] at hh
    obtain ⟨⟨h1, h2⟩, h3, h4⟩ := hh
    obtain ⟨a1, a2⟩ := locB1_of c h1
    obtain ⟨b1, b2⟩ := locB1_of c h2
    exact s_par2 c.cx.fit hN a1 b1 h3 a2 b2 ha (swp_eq c.hsc c.hk h4)
  · obtain ⟨hh, rfl⟩ := onlyIf_of h
    simp only [Bool.and_eq_true, decide_eq_true_eq] at hh
    obtain ⟨⟨h1, h2, h2'⟩, ⟨h3, h3', h3''⟩, h4⟩ := hh
    obtain ⟨a1, a2⟩ := locB1_of c h1
    obtain ⟨b1, b2⟩ := locB1_of c h2
    obtain ⟨c1, c2⟩ := locB1_of c h2'
    exact s_par3 c.cx.fit hN a1 b1 c1 h3 h3' h3'' a2 b2 c2 ha (swp_eq c.hsc c.hk h4)
  · cases h
/-- name = [..], the store within the comprehension -/
theorem s_asgC (c : StC B F G N sc k X) {i : Nat} {own : List Nat} {elt : E} {t : Tg} {kk : ItK} {es : Es} {t' : T} {tg v : Expr} {p : Pos} (h1 : nameB N sc i tg = true) (h2 : swB sc tg v = some true) (h : chkE B N (.lc own elt t kk es t') sc v = true) :
    PS X (.Assign [tg] v p) (tS X.K fun env st => (ev F G (.lc own elt t kk es t') env st).bind fun d st1 => .ok (.next (env.set i (some d))) st1) := by
  obtain ⟨y, py, rfl, _, hsw⟩ := swB_true (l := p.line) c.hsc c.hk h2
  have h1 : locB1 N sc i y = true := h1
  obtain ⟨hi, hl⟩ := locB1_of c h1
  have hN : X.N.Nodup := by rw [c.cx.hN]; exact c.cx.nd
  rw [chkE] at h
  split at h
  · rename_i x tg' it ifs sc' e
    obtain ⟨pc, rfl⟩ := asLc_eq e
    simp only [Bool.and_eq_true] at h
    obtain ⟨⟨h1, h2, h3⟩, h4, h5, h6, h7⟩ := h
    have hown : (own.map fun j => (N.getD j "", j)).map (·.2) = own := by
      rw [List.map_map]
      exact List.map_id' _
    have hts : ∀ (s : Shared) (H : Hp) (C : Addr) (cl : List (Str × Addr)) (fp : List Addr), PTs (X.blk s H sc' (compEnvC sc' cl C X.env) fp) ifs (tT X.K (evT F G t')) := by
      intro s H C cl fp
      split at h6
      · cases t' <;> first | cases h6 | skip
        have e : evT F G .yes = fun _ st => Res.ok true st := by funext env st; rw [evT]
        rw [e]; exact pts_yes
      · exact pts_one (soundT t' (c.cx.blk sc' s H C cl fp) h6).1
      · cases h6
    have hit : PI X tg' it (tI X.K kk (evs F G es)) := by
      split at h4
      · rename_i l hl; exact it_of c.cx hl (soundEs es c.cx h4)
      · cases h4
    have hlc := ps_setLc (own := own.map fun j => (N.getD j "", j)) (spos := p) (te := tE X.K (ev F G elt)) (tt := tT X.K (evT F G t')) (g := tG X.K (tgOwn t) (asg F G t)) c.cx.fit.hc hN hi hl hsw hit (c.cx.blkOk (blkOk_by h1)) (fun s H C cl fp => soundTg t (c.cx.blk sc' s H C cl fp) h5) hts (fun s H C cl fp => soundE elt (c.cx.blk sc' s H C cl fp) h7) (noSet_fold h3 X.env)
    rw [hown] at hlc
    refine ps_imp hlc fun D σ H ⟨as, st, env, rel, re, g⟩ => ?_
    refine lc_of (Q := fun v H1 => D.nx (σ.set i (some v)) H1) h2 ⟨as, st, env, rel, re, ?_⟩
    have e2 : ev F G (.lc own elt t kk es t') env st = mLc own kk (evs F G es) (asg F G t) (evT F G t') (ev F G elt) env st := by rw [ev]; rfl
    simp only [] at g
    rw [e2] at g
    exact g.bind.imp fun d as1 H1 e1 ⟨st1, _, r1, g1⟩ v rv => g1.here r1 _ ((re.mono e1).set rv i)
  · cases h
set_option maxHeartbeats 40000000 in
mutual
theorem soundS (c : StC B F G N sc k X) : ∀ (s : S) {x : Stmt}, chkS B N sc s x = true → PS X x (tS X.K (ex F G s))
  | .asg t e, x, h => by
    rw [chkS] at h
    split at h
    · rename_i tg v l e'
      obtain ⟨p, rfl, rfl⟩ := asAssign_eq e'
      simp only [Bool.and_eq_true, decide_eq_true_eq] at h
      obtain ⟨⟨h1, h2, h3⟩, h4, h5⟩ := h
      refine tS_eq ?_ (s_asg (soundE e c.cx h5) (soundTg t c.cx h4) (swB_false c.hsc c.hk h2) (swp_eq c.hsc c.hk h1) h3)
      intro env st; rw [ex]; try rfl
    · cases h
  | .asgC i own elt t kk es t', x, h => by
    rw [chkS] at h
    split at h
    · rename_i tg v l e'
      obtain ⟨p, rfl, rfl⟩ := asAssign_eq e'
      simp only [Bool.and_eq_true, decide_eq_true_eq] at h
      obtain ⟨⟨h1, h2⟩, h3⟩ := h
      refine tS_eq ?_ (s_asgC c h1 h2 h3)
      intro env st; rw [ex]; try rfl
    · cases h
  | .par is es, x, h => by
    rw [chkS] at h
    split at h
    · rename_i tg v l e'
      obtain ⟨p, rfl, rfl⟩ := asAssign_eq e'
      split at h
      · rename_i l hl
        refine tS_eq ?_ (par_of c hl (soundEs es c.cx h))
        intro env st; rw [ex]; try rfl
      · cases h
    · cases h
  | .exp e, x, h => by
    rw [chkS] at h
    split at h
    · rename_i y e'
      obtain ⟨p, rfl⟩ := asExpr_eq e'
      rw [Bool.and_eq_true] at h
      refine tS_eq ?_ (s_exp (soundE e c.cx h.2) h.1)
      intro env st; rw [ex]; try rfl
    · cases h
  | .ret e, x, h => by
    rw [chkS] at h
    split at h
    · rename_i y e'
      obtain ⟨p, rfl⟩ := asRet_eq e'
      refine tS_eq ?_ (s_ret (soundE e c.cx h))
      intro env st; rw [ex]; try rfl
    · cases h
  | .retN, x, h => by
    rw [chkS] at h
    obtain ⟨p, rfl⟩ := asRetN_eq h
    refine tS_eq ?_ s_retN
    intro env st; rw [ex]; try rfl
  | .ite t a b, x, h => by
    rw [chkS] at h
    split at h
    · rename_i y p q e'
      obtain ⟨p, rfl⟩ := asIfS_eq e'
      simp only [Bool.and_eq_true] at h
      refine tS_eq ?_ (s_ite (soundT t c.cx h.1).1 (soundSs c a h.2.1) (soundSs c b h.2.2))
      intro env st; rw [ex]; try rfl
    · cases h
  | .for_ t kk es body, x, h => by
    rw [chkS] at h
    split at h
    · rename_i tg it b e'
      obtain ⟨p, rfl⟩ := asFor_eq e'
      simp only [Bool.and_eq_true] at h
      obtain ⟨h1, h2, h3, h4⟩ := h
      have hit : PI X tg it (tI X.K kk (evs F G es)) := by
        split at h2
        · rename_i l hl; exact it_of c.cx hl (soundEs es c.cx h2)
        · cases h2
      refine tS_eq ?_ (s_for c.cx.fit c.hp hit (soundTg t c.cx h3) (soundSs c body h4) h1)
      intro env st; rw [ex]; try rfl
    · cases h
  | .whl t body, x, h => by
    rw [chkS] at h
    split at h
    · rename_i y b e'
      obtain ⟨p, rfl⟩ := asWhl_eq e'
      rw [Bool.and_eq_true] at h
      refine tS_eq ?_ (s_whl (n := whileMost) c.hp (soundT t c.cx h.1).1 (soundSs c body h.2))
      intro env st; rw [ex]; try rfl
    · cases h
  | .brk, x, h => by
    rw [chkS] at h
    obtain ⟨p, rfl⟩ := isBrk_eq h
    refine tS_eq ?_ s_brk
    intro env st; rw [ex]; try rfl
  | .cnt, x, h => by
    rw [chkS] at h
    obtain ⟨p, rfl⟩ := isCnt_eq h
    refine tS_eq ?_ s_cnt
    intro env st; rw [ex]; try rfl
  | .pass, x, h => by
    rw [chkS] at h
    obtain ⟨p, rfl⟩ := isPass_eq h
    refine tS_eq ?_ s_pass
    intro env st; rw [ex]; try rfl
  | .never, x, h => by
    refine tS_eq ?_ s_never
    intro env st; rw [ex]; try rfl
theorem soundSs (c : StC B F G N sc k X) : ∀ (s : Ss) {x : List Stmt}, chkSs B N sc s x = true → PSs X x (tS X.K (exs F G s))
  | .nil, [], h => by
    refine tSs_eq ?_ ss_nil
    intro env st; rw [exs]; try rfl
  | .nil, _ :: _, h => by rw [chkSs] at h <;> first | cases h | simp
  | .cons s ss, [], h => by rw [chkSs] at h <;> first | cases h | simp
  | .cons s ss, x :: l, h => by
    rw [chkSs, Bool.and_eq_true] at h
    refine tSs_eq ?_ (ss_cons (soundS c s h.1) (soundSs c ss h.2))
    intro env st; rw [exs]; try rfl
end
end
end PL

set_option Elab.async false
set_option linter.all false
set_option maxRecDepth 100000
set_option maxHeartbeats 4000000
/-! PLO: defs, the law, the head. -/
namespace PL
open PySem PySem.Spec PyProof.Rows L2

/-! ### one def -/
theorem fn_ofG {CX : CXT} {P : Program} {w : World} {K : PySem.W.Frag} {mg : Str → Option Value} {base : Heap} {k : Nat} {f : Addr} {name qual : Str} {params : Arguments} {body : List Stmt} {scope : Scope} {dV kV doc pm cdv ct oc : Value} {an od : Option Addr}
    {osl : Array (Option Value)} {N ps : List Str} {sp : Sp} (lk : K.lookup f = some ⟨oc, od, .func (PySem.W.fnOf name qual params body scope dV kV doc pm an cdv ct), osl⟩) (hcd : PySem.W.codeIn K cdv qual = true) (S : FnScope N ps scope)
    (len : ∀ vs H Q E, sp vs H Q E → vs.length = ps.length)
    (hbody : ∀ (A : Around) (outer : List PySem.Env) (s : Shared) (H : Hp) (vs : List V) (Q : VK) (E : XK), A.guards = some [] → Room k (A.deeper (envOfC qual scope s.heap.objs.size f cdv)) → sp vs H Q E →
      ∃ t, PSs (cxOf CX P w K mg base N qual scope f cdv A outer s H E) body t ∧ t { nx := fun _ H' => Q .non H', rt := Q } (start N vs) H) :
    FnOkG P w K mg base CX (k + 1) f (PySem.W.fnOf name qual params body scope dV kV doc pm an cdv ct) ps sp := by
  refine ⟨len, fun A outer s H args us vs Q E hg hr e0 hb r hsp => ?_⟩
  have hl := len _ _ _ _ hsp
  have KX : K.In s.heap := e0.mod.kin.keeps fun b o e => (e0.bs b o e).1
  have lim : s.heap.NoLimit := e0.mod.nolimit.keeps fun b o e => (e0.bs b o e).1
  have hkind : ∀ y ∈ ps.zip us, scope.names.lookup y.1 = some .local ∨ (scope.names.lookup y.1 = some .cell ∧ ((cellsFrom (s.heap.objs.size + 1) scope.names []).lookup y.1).isSome = true) := fun ⟨n, v⟩ hy => by
    rcases S.par n (List.of_mem_zip hy).1 with q | q
    · exact .inl q
    · exact .inr ⟨q, PySem.W.cellsFrom_some _ _ _ (.inl q)⟩
  refine codeAny_call_function hr.depth (KX _ _ lk) rfl S.co S.gen rfl (PySem.W.codeRec_of KX hcd) (hb _ _ _ _ ?_)
  refine wpAny_newFunctionEnv_cells S.kind hkind fun env he s1 x => ?_
  subst he
  refine ⟨lim.keeps x.toInCall.keep, codeAny_func ?_⟩
  obtain ⟨t, ht, hq⟩ := hbody A outer s H vs Q E hg (hr.deeper _) hsp
  have I : Inv (cxOf CX P w K mg base N qual scope f cdv A outer s H E) [] (start N vs) H s1 := inv_start S hr.hd e0 hl r x
  refine wpAny_mono (ht.run [] s1 (start N vs) H _ I hq) (fun fl s' hs => ?_) fun e s' hs => hs
  have fin : ∀ {σ' : L2.St} {H' : Hp} {v : V} {u : Value}, Inv (cxOf CX P w K mg base N qual scope f cdv A outer s H E) [] σ' H' s' → RelV v u → Q v H' → CE outer P w H s Q u s' :=
    fun {σ' H' v u} J rv q => ⟨v, H', J.os, J.bare, J.base, J.hok, rv, q⟩
  cases fl with
  | ret u =>
    obtain ⟨v, σ', H', J, rv, q⟩ := hs
    exact fin J rv q
  | next =>
    obtain ⟨σ', H', J, q⟩ := hs
    exact fin (v := V.non) (u := Value.none) J rfl q
  | brk =>
    obtain ⟨_, _, _, q⟩ := hs
    exact False.elim q
  | cont =>
    obtain ⟨_, _, _, q⟩ := hs
    exact False.elim q
theorem FunD_okG {CX : CXT} {P : Program} {w : World} {K : PySem.W.Frag} {mg : Str → Option Value} {base : Heap} {x qual : Str} {params : Arguments} {body : List Stmt} {scope : Scope} {dvs : List V} {kws : List (Str × V)} {f : Addr} {fd : FuncData}
    {N ps : List Str} {k : Nat} {sp : Sp} (F : FunD K x qual params body scope dvs kws f fd) (S : FnScope N ps scope) (len : ∀ vs H Q E, sp vs H Q E → vs.length = ps.length)
    (hbody : ∀ (cdv : Value) (A : Around) (outer : List PySem.Env) (s : Shared) (H : Hp) (vs : List V) (Q : VK) (E : XK), A.guards = some [] → Room k (A.deeper (envOfC qual scope s.heap.objs.size f cdv)) → sp vs H Q E →
      ∃ t, PSs (cxOf CX P w K mg base N qual scope f cdv A outer s H E) body t ∧ t { nx := fun _ H' => Q .non H', rt := Q } (start N vs) H) : FnOkG P w K mg base CX (k + 1) f fd ps sp := by
  obtain ⟨oc, od, dV, kV, doc, pm, an, cdv, ct, osl, rfl, lk, hcd, _, _⟩ := F.ex
  exact fn_ofG lk hcd S len fun A outer s H vs Q E hg hr hsp => hbody cdv A outer s H vs Q E hg hr hsp
theorem FunD_bindK {K : PySem.W.Frag} {x qual : Str} {params : Arguments} {body : List Stmt} {scope : Scope} {kws : List (Str × V)} {f : Addr} {fd : FuncData} (F : FunD K x qual params body scope [] kws f fd) {args : Args} {bs : List (Str × Value)}
    (h : ∀ (kV doc pm : Value) (an : Option Addr) (cdv ct : Value), bindArgs (PySem.W.fnOf x qual params body scope .none kV doc pm an cdv ct) args = pure bs) (s : Shared) : BindsTo s fd args bs := by
  obtain ⟨oc, od, dV, kV, doc, pm, an, cdv, ct, osl, rfl, lk, hcd, hD, hK⟩ := F.ex
  rcases hD with ⟨_, rfl⟩ | ⟨e, _⟩
  · exact .of_eq (h kV doc pm an cdv ct)
  · exact absurd rfl e

/-! ### all defs -/
/-- what is known of a def of the program -/
structure DefOk (B : Tab) (Pf : List Fn) (K : PySem.W.Frag) (mg : Str → Option Value) (i : Nat) (x : Str) (ps : List Str) (f : Addr) (fd : FuncData) : Prop where
  mg : mg x = some (.ref f)
  bind : ∀ (s : Shared) (us : List Value), us.length = ps.length → BindsTo s fd ⟨us, []⟩ (ps.zip us)
  bindK : ∀ q ∈ B.kwsOf i, ∀ (s : Shared) (us ws : List Value), us.length = q.1 → ws.length = q.2.1.length → BindsTo s fd ⟨us, q.2.1.zip ws⟩ (ps.zip (q.2.2.map fun j => (us ++ ws).getD j .none))
  fn : ∃ (params : Arguments) (body : List Stmt) (scope : Scope) (N : List Str) (fn : Fn), FunD K x x params body scope [] [] f fd ∧ Pf[i]? = some fn ∧ fn.np = ps.length ∧ fn.ns = N.length ∧ FnScope N ps scope ∧ chkSs B N scope fn.body body = true
structure Mods (B : Tab) (Pf : List Fn) (G : List D) (K : PySem.W.Frag) (mg : Str → Option Value) : Prop where
  defs : ∀ (i : Nat) (x : Str) (ps : List Str), B.fns[i]? = some (x, ps) → ∃ f fd, DefOk B Pf K mg i x ps f fd
  free : ∀ x ∈ B.free, mg x = none
  con : ∀ (i : Nat) (x : Str) (d : D), B.cons[i]? = some (x, d) → G[i]? = some d ∧ ∃ u v, mg x = some u ∧ RelV v u ∧ ∀ as H, RV K as H d v
theorem renv_start {K : PySem.W.Frag} {as : List Addr} {H : Hp} {N : List Str} {ds : List D} {vs : List V} {np : Nat} (r : RVs K as H ds vs) (hn : ds.length = np) : REnv K as H (ds.map some ++ List.replicate (N.length - np) none) (L2.start N vs) := by
  have hl := r.length
  refine ⟨by unfold L2.start; simp only [List.length_append, List.length_map, List.length_replicate]; omega, fun i d h => ?_⟩
  by_cases hi : i < ds.length
  · rw [List.getElem?_append_left (by simpa using hi)] at h
    rw [List.getElem?_map] at h
    obtain ⟨d', h1, h2⟩ := Option.map_eq_some_iff.mp h
    cases h2
    obtain ⟨v, h3, h4⟩ := r.get h1
    refine ⟨v, ?_, h4⟩
    unfold L2.start
    rw [List.getElem?_append_left (by rw [List.length_map]; omega), List.getElem?_map, h3]; rfl
  · rw [List.getElem?_append_right (by simpa using hi)] at h
    rw [List.length_map] at h
    by_cases h2 : i - ds.length < N.length - np
    · rw [List.getElem?_replicate_of_lt h2] at h; cases h
    · rw [List.getElem?_eq_none (by simpa using h2)] at h; cases h
theorem sp_len {K : PySem.W.Frag} {m : List D → Sto → Res D} {n : Nat} {vs : List V} {H : Hp} {Q : VK} {E : XK} (h : spU K m n vs H Q E) : vs.length = n := by
  obtain ⟨as, st, ds, _, r, hl, _⟩ := h
  rw [← r.length, hl]
theorem all_ok {P : Program} {w : World} {K : PySem.W.Frag} {mg : Str → Option Value} {base : Heap} {B : Tab} {Pf : List Fn} {G : List D} (M : Mods B Pf G K mg) : ∀ (k : Nat) (i : Nat) (x : Str) (ps : List Str) (f : Addr) (fd : FuncData), DefOk B Pf K mg i x ps f fd →
    FnOkG P w K mg base CXP k f fd ps (spU K (run Pf G k i) ps.length)
  | 0, i, x, ps, f, fd, dk => ⟨fun vs H Q E h => sp_len h, fun A outer s H args us vs Q E _ _ _ _ _ h => by
    obtain ⟨as, st, ds, _, _, _, g⟩ := h
    exact g.elim⟩
  | k + 1, i, x, ps, f, fd, dk => by
    obtain ⟨params, body, scope, N, fn, hF, hPf, hnp, hns, S, hchk⟩ := dk.fn
    refine FunD_okG hF S (fun vs H Q E h => sp_len h) fun cdv A outer s H vs Q E hg hr hsp => ?_
    obtain ⟨as, st, ds, rel, rvs, hl, g⟩ := hsp
    have c : StC B (run Pf G k) G N scope k (cxOf CXP P w K mg base N x scope f cdv A outer s H E) := {
      cx := {
        fit := ⟨by have := hr.un; show (A.deeper _).units + 100 < cLine; omega, hg, rfl⟩
        hN := rfl
        nd := S.nd
        sub := fun y q h => ⟨q, h, .inl rfl⟩
        fnc := fun _ _ => rfl
        room := hr
        fns := fun j y qs h => by
          obtain ⟨f', fd', dk'⟩ := M.defs j y qs h
          obtain ⟨_, _, _, _, _, hF', _⟩ := dk'.fn
          exact ⟨f', fd', ⟨dk'.mg, hF'.kp, dk'.bind, dk'.bindK, all_ok M k j y qs f' fd' dk'⟩⟩
        free := M.free
        con := M.con }
      hsc := rfl
      hk := S.kind
      hp := passes_of (K := fun e s'' => CXP outer H s E e s'') (E₁ := fun e s'' => CXP outer H s E e s'') rfl }
    refine ⟨_, soundSs c fn.body hchk, as, st, _, rel, renv_start (N := N) rvs hl, ?_⟩
    rw [run, hPf] at g
    simp only [] at g
    rw [if_pos (by rw [hl, hnp]), hns, hnp] at g
    exact g.bind.imp fun o as1 H1 e1 ⟨st1, _, r1, g1⟩ => by
      cases o with
      | ret d => exact g1.here r1
      | next env => exact fun σ _ => g1.here r1 _ rfl
      | brk _ => exact g1.elim
      | cnt _ => exact g1.elim

/-! ### the look at a def -/
def scopeB (N ps : List Str) (sc : Scope) : Bool := (match sc.kind with | .function => true | _ => false) && (!sc.isCoroutine && (!sc.isGenerator && (decide N.Nodup && (decide (N.take ps.length = ps) &&
  ((ps.all fun x => match sc.names.lookup x with | some .local => true | some .cell => true | _ => false) && sc.names.all fun y => !(y.2 == .free))))))
theorem scopeB_of {N ps : List Str} {sc : Scope} (h : scopeB N ps sc = true) : FnScope N ps sc := by
  unfold scopeB at h
  simp only [Bool.and_eq_true, Bool.not_eq_true', decide_eq_true_eq, List.all_eq_true] at h
  obtain ⟨h1, h2, h3, h4, h5, h6, h7⟩ := h
  refine ⟨?_, h2, h3, h4, h5, fun x hx => ?_, fun y hy e => ?_⟩
  · split at h1
    · assumption
    · cases h1
  · have := h6 x hx
    split at this
    · exact .inl (by assumption)
    · exact .inr (by assumption)
    · cases this
  · have := h7 y hy
    rw [e] at this
    cases this
def defB (B : Tab) (fn : Fn) (st : Stmt) (N ps : List Str) : Bool := (decide (fn.np = ps.length) && decide (fn.ns = N.length)) && (scopeB N ps (defScope st) && chkSs B N (defScope st) fn.body (defBody st))
theorem defOk_by {B : Tab} {Pf : List Fn} {K : PySem.W.Frag} {mg : Str → Option Value} {i : Nat} {x : Str} {ps : List Str} {f : Addr} {fd : FuncData} {fn : Fn} {st : Stmt} {N : List Str} (hm : mg x = some (.ref f)) (hF : FunD K x x (defArgs st) (defBody st) (defScope st) [] [] f fd)
    (hPf : Pf[i]? = some fn) (h : defB B fn st N ps = true)
    (hb : ∀ (kV doc pm : Value) (an : Option Addr) (cdv ct : Value) (us : List Value), us.length = ps.length → bindArgs (PySem.W.fnOf x x (defArgs st) (defBody st) (defScope st) .none kV doc pm an cdv ct) ⟨us, []⟩ = pure (ps.zip us))
    (hk : ∀ q ∈ B.kwsOf i, ∀ (kV doc pm : Value) (an : Option Addr) (cdv ct : Value) (us ws : List Value), us.length = q.1 → ws.length = q.2.1.length →
      bindArgs (PySem.W.fnOf x x (defArgs st) (defBody st) (defScope st) .none kV doc pm an cdv ct) ⟨us, q.2.1.zip ws⟩ = pure (ps.zip (q.2.2.map fun j => (us ++ ws).getD j .none))) : DefOk B Pf K mg i x ps f fd := by
  unfold defB at h
  simp only [Bool.and_eq_true, decide_eq_true_eq] at h
  obtain ⟨⟨h1, h2⟩, h3, h4⟩ := h
  exact ⟨hm, hF.bindsA hb, fun q hq s us ws l1 l2 => FunD_bindK hF (fun kV doc pm an cdv ct => hk q hq kV doc pm an cdv ct us ws l1 l2) s, _, _, _, N, fn, hF, hPf, h1, h2, scopeB_of h3, h4⟩

/-! ### the law -/
theorem sqS_of {K : PySem.W.Frag} {H : Hp} {a : Addr} {vs : List V} (hO : Only H) (h : SqL K H a vs) : SqS K H a vs := by
  rcases h with (h | ⟨o, h⟩) | ⟨o, its, n, h⟩
  · rcases hO a with z | ⟨o, xs, z⟩
    · rw [z] at h; cases h
    · rw [z] at h; cases h
  · exact .inl ⟨o, h⟩
  · exact .inr ⟨o, h.1, .inr ⟨o, its, n, h⟩⟩
def scriptD (ns : List Int) : D := .scr (ns.map .int)
theorem rvs_ints {K : PySem.W.Frag} {as : List Addr} {H : Hp} : ∀ ns : List Int, RVs K as H (ns.map D.int) (ns.map V.int)
  | [] => rfl
  | n :: ns => ⟨_, _, rfl, rfl, rvs_ints ns⟩
theorem law_callG {P : Program} {w : World} {K : PySem.W.Frag} {mg mb : Str → Option Value} {CX : CXT} {k : Nat} {fa a : Addr} {fd : FuncData} {x : Str} {sp : Sp} {s₁ : Shared} {vs : List Value} {ns : List Int}
    (KX : K.In s₁.heap) (hns : s₁.heap.Ns mainGlobals mg) (hb : s₁.heap.Ns builtinsNs mb) (hbb : ∀ x : Str, x ≠ "__name__" → mb x = bootBuiltins x) (hlim : s₁.heap.NoLimit) (hg : s₁.gens = #[])
    (ha : s₁.heap.get? a = some { cls := .type "list", data := .seq vs.toArray }) (hi : IntsAre vs ns) (hl : ns.length ≤ sizeLine) (hr : Room k callerA)
    (F : ∀ base : Heap, K.In base → base.Ns mainGlobals mg → FnOkG P w K mg base CX k fa fd [x] sp) (hbind : ∀ (s : Shared) (u : Value), BindsTo s fd ⟨[u], []⟩ [(x, u)])
    (hsp : ∀ H : Hp, Only H → SqL K H a (ns.map V.int) → sp [.ref a] H (fun v _ => v = .bl true) fun _ _ _ => False)
    (hCX : ∀ H e s', CX [] H s₁ (fun _ _ _ => False) e s' → False) :
    codeAny (model P w) callerA (.call (.ref fa) ⟨[.ref a], []⟩) (fun r s' => r = .ok (.ret (.bool true)) ∧ OldK s₁.heap s'.heap ∧ s'.os = s₁.os ∧ AllBare s'.gens) s₁ := by
  have rv := vals_ints hi
  have lenV := hi.length
  have core : ∀ H : Hp, Only H → SqL K H a (ns.map V.int) → HOk P w H s₁.heap → (∀ b, H b ≠ none → b = a) → (H a ≠ none → K.lookup a = none) →
      codeAny (model P w) callerA (.call (.ref fa) ⟨[.ref a], []⟩) (fun r s' => r = .ok (.ret (.bool true)) ∧ OldK s₁.heap s'.heap ∧ s'.os = s₁.os ∧ AllBare s'.gens) s₁ := by
    intro H hO hS hok hA hK
    have base_of : ∀ {b : Addr} {o : Obj}, s₁.heap.get? b = some o → H b = none → (hidT s₁.heap H).get? b = some o := fun e n => hidT_get e n
    have noA : ∀ {b : Addr} {o : Obj} {es : Array DictEntry} {ep : Nat}, s₁.heap.get? b = some o → o.data = .dict es ep → H b = none := fun {b o es ep} e d => by
      cases q : H b with
      | none => rfl
      | some u =>
        have e' : b = a := hA b (by rw [q]; simp)
        subst e'
        rw [ha] at e; cases e
        have d' : Data.seq vs.toArray _ = Data.dict es ep := d
        cases d'
    have nsK : ∀ {b : Addr} {m : Str → Option Value}, s₁.heap.Ns b m → (hidT s₁.heap H).Ns b m := fun {b m} ⟨o, es, ep, e, d, r⟩ => ⟨o, es, ep, base_of e (noA e d), d, r⟩
    have hKb : K.In (hidT s₁.heap H) := fun b o e => base_of (KX b o e) (by
      cases q : H b with
      | none => rfl
      | some u =>
        have e' : b = a := hA b (by rw [q]; simp)
        subst e'
        rw [hK (by rw [q]; simp)] at e; cases e)
    have hM : Mod K mg (hidT s₁.heap H) := ⟨hKb, nsK hns, ⟨mb, nsK hb, hbb⟩, let ⟨mc, h1, h2⟩ := hlim; ⟨mc, nsK h1, h2⟩⟩
    have e0 : Env0 P w K mg (hidT s₁.heap H) callerA [] s₁ H := ⟨rfl, hM, fun b o e => of_hidT e, Nat.le_of_eq (hidT_size _ _), trivial, fun b hb => absurd (show b ∈ ([] : List Addr) from hb) (by simp), hok, .of_eq hg⟩
    refine codeAny_mono ((F _ hKb (nsK hns)).run callerA [] s₁ H ⟨[.ref a], []⟩ [.ref a] [.ref a] _ _ rfl hr e0 (hbind s₁ (.ref a)) (.cons rfl .nil) (hsp H hO hS)) fun r s' h => ?_
    cases r with
    | error e => exact (hCX H e s' h).elim
    | ok fl =>
      cases fl with
      | next => exact False.elim h
      | brk => exact False.elim h
      | cont => exact False.elim h
      | ret u =>
        obtain ⟨v, H', os, bare, un, hok', r', q⟩ := h
        have q' : v = .bl true := q
        subst q'
        obtain rfl : u = Value.bool true := r'
        refine ⟨rfl, OldK.of_keep fun b o e => ?_, os, bare⟩
        cases q : H b with
        | none => exact un.keep b o e q (by intro z; exact absurd (show b ∈ ([] : List Addr) from z) (by simp)) (by simp)
        | some u =>
          rcases hO b with z | ⟨ob, xs, z⟩
          · rw [q] at z; cases z
          · have z2 := un.frzs b ob _ z
            obtain ⟨e1, _⟩ := hok b _ z
            obtain ⟨e2, _⟩ := hok' b _ z2
            rw [e] at e1; cases e1
            exact e2
  cases hk : K.lookup a with
  | some o =>
    have e := KX a o hk
    rw [ha] at e
    cases e
    refine core (fun _ => none) (fun _ => .inl rfl) (.inr ⟨_, vs.toArray, _, hk, rfl, rfl, rfl, by rw [List.size_toArray, lenV]; exact hl, by simpa using rv⟩) (fun b u z => by have z' : (none : Option HO) = some u := z; cases z') (fun b z => absurd rfl z) fun z => absurd rfl z
  | none =>
    refine core (fun b => if b = a then some (.frz { cls := .type "list", data := .seq vs.toArray } (.lst (ns.map V.int))) else none) (fun b => ?_) (.inl (.inr ⟨{ cls := .type "list", data := .seq vs.toArray }, if_pos rfl⟩)) (fun b u z => ?_) (fun b z => ?_) fun _ => hk
    · by_cases hb : b = a
      · exact .inr ⟨_, _, if_pos hb⟩
      · exact .inl (if_neg hb)
    · by_cases hb : b = a
      · have z' := (if_pos hb).symm.trans z
        cases z'
        subst hb
        exact ⟨ha, by rw [List.length_map]; exact hl, vs, _, rv, ha⟩
      · have z' := (if_neg hb).symm.trans z
        cases z'
    · by_cases hb : b = a
      · exact hb
      · exact absurd (if_neg hb) z
/-- THE ROAD: a law whose program passes the look holds when the small language's run comes to True -/
theorem walk_PL {l : PySem.W.OpenLaw} {n k : Nat} {q : Program} {loose : List Str} {XP : (Str → Option Value) → Heap → Prop} {YP : World → Heap → Prop} {d : DefRec} {x : Str} {B : Tab} {Pf : List Fn} {G : List D} {i : Nat}
    (hn : l.most = some n) (hn2 : n ≤ sizeLine) (hdf : d.params.defaults = []) (hr : Room k callerA) (hfn : B.fns[i]? = some (d.name, [x]))
    (F : ∀ (w : World) (mg : Str → Option Value) (h : Heap), YP w h → h.Ns mainGlobals mg → ∃ (K : PySem.W.Frag), K.In h ∧ Mods B Pf G K mg)
    (hrun : ∀ ns : List Int, ns.length ≤ n → ∃ st, run Pf G k i [scriptD ns] [] = .ok (.bl true) st) :
    PySem.W.WalkO q loose XP YP l.row.toRowW d [] (fun f vs => PySem.call f vs) := by
  refine Att.attach_call hn hdf fun w s₀ s₁ mg mb fa o pm cd doc a vs ns G' Y ho hd hcd hmg hobj hints hlen hg => ?_
  obtain ⟨K, KX, M⟩ := F w mg _ Y G'.T.g
  obtain ⟨f, fd, dk⟩ := M.defs i d.name [x] hfn
  have e := hmg.symm.trans dk.mg
  cases e
  refine law_callG (CX := CXP) (sp := spU K (run Pf G k i) [x].length) KX G'.T.g G'.T.b G'.T.builtins G'.T.nolimit hg hobj hints (Nat.le_trans hlen hn2) hr (fun base hKb _ => all_ok M k i d.name [x] _ fd dk) (fun s u => dk.bind s [u] rfl) (fun H hO hS => ?_) fun H e s' z => z
  obtain ⟨st, e⟩ := hrun ns hlen
  refine ⟨[], [], [scriptD ns], ⟨rfl, fun i o a h _ => by simp at h, fun i j a o o' h _ _ _ _ _ => by simp at h⟩, ?_, rfl, ?_⟩
  · exact ⟨_, _, rfl, ⟨a, _, rfl, sqS_of hO hS, rvs_ints ns⟩, rfl⟩
  · rw [e]
    exact fun as' H' _ _ v rv => rv
end PL

set_option Elab.async false
set_option linter.all false
set_option maxRecDepth 100000
set_option maxHeartbeats 4000000
/-! PLQ: a program's run where some defs are taken by what they are known to tell. -/
namespace PL
open PySem PySem.Spec PyProof.Rows L2

/-! ### data without references -/
mutual
def ground : D → Bool
  | .ref _ => false
  | .tup ds => grounds ds
  | .scr ds => grounds ds
  | _ => true
def grounds : List D → Bool
  | [] => true
  | d :: ds => ground d && grounds ds
end
section
variable {K : PySem.W.Frag} {as as' : List Addr} {H : Hp}
mutual
theorem RV.grd : ∀ (d : D) (v : V), ground d = true → RV K as H d v → RV K as' H d v
  | .non, _, _, h => h
  | .bl _, _, _, h => h
  | .int _, _, _, h => h
  | .str _, _, _, h => h
  | .rep _, _, _, h => h
  | .tup ds, _, g, h => by
    obtain ⟨a, vs, rfl, ht, hs⟩ := h
    exact ⟨a, vs, rfl, ht, RVs.grd ds vs (by simpa [ground] using g) hs⟩
  | .scr ds, _, g, h => by
    obtain ⟨a, vs, rfl, ht, hs⟩ := h
    exact ⟨a, vs, rfl, ht, RVs.grd ds vs (by simpa [ground] using g) hs⟩
  | .ref _, _, g, _ => by simp [ground] at g
theorem RVs.grd : ∀ (ds : List D) (vs : List V), grounds ds = true → RVs K as H ds vs → RVs K as' H ds vs
  | [], _, _, h => h
  | d :: ds, _, g, h => by
    obtain ⟨v, vs', rfl, h1, h2⟩ := h
    simp only [grounds, Bool.and_eq_true] at g
    exact ⟨v, vs', rfl, RV.grd d v g.1 h1, RVs.grd ds vs' g.2 h2⟩
end
end

/-! ### a run with contracts -/
def runC (P : List Fn) (G : List D) (C : Nat → Option (List D → Sto → Res D)) : Nat → Nat → List D → Sto → Res D
  | 0, f, ds, st => match C f with
    | some c => c ds st
    | none => .bad
  | n + 1, f, ds, st => match C f with
    | some c => c ds st
    | none => match P[f]? with
      | none => .bad
      | some fn => if ds.length = fn.np then
          (exs (runC P G C n) G fn.body (ds.map some ++ List.replicate (fn.ns - fn.np) none) st).bind fun o st1 => match o with
            | .ret d => .ok d st1
            | .next _ => .ok .non st1
            | _ => .bad
        else .bad
theorem FnOkG.mono {P : Program} {w : World} {K : PySem.W.Frag} {mg : Str → Option Value} {base : Heap} {CX : CXT} {j k : Nat} {f : Addr} {fd : FuncData} {ps : List Str} {sp : Sp} (F : FnOkG P w K mg base CX j f fd ps sp) (h : j ≤ k) :
    FnOkG P w K mg base CX k f fd ps sp := ⟨F.len, fun A outer s H args us vs Q E hg hr => F.run A outer s H args us vs Q E hg (hr.mono h)⟩
theorem FnOkG.imp {P : Program} {w : World} {K : PySem.W.Frag} {mg : Str → Option Value} {base : Heap} {CX : CXT} {k : Nat} {f : Addr} {fd : FuncData} {ps : List Str} {sp sp' : Sp} (F : FnOkG P w K mg base CX k f fd ps sp)
    (h : ∀ vs H Q E, sp' vs H Q E → sp vs H Q E) : FnOkG P w K mg base CX k f fd ps sp' := ⟨fun vs H Q E q => F.len vs H Q E (h vs H Q E q), fun A outer s H args us vs Q E hg hr e0 hb r q => F.run A outer s H args us vs Q E hg hr e0 hb r (h vs H Q E q)⟩
/-- what a def tells of data without references, wherever it is called -/
structure Pure (m : List D → Sto → Res D) (c : List D → Sto → Res D) : Prop where
  of : ∀ ds st d st1, c ds st = .ok d st1 → st1 = st ∧ grounds ds = true ∧ ground d = true ∧ ∃ st', m ds [] = .ok d st'
  noex : ∀ ds st k xs st1, c ds st ≠ .exc k xs st1
/-- what a def tells, told of every store -/
def pureC (m : List D → Sto → Res D) (ds : List D) (st : Sto) : Res D := if grounds ds = true then match m ds [] with
  | .ok d _ => if ground d = true then .ok d st else .bad
  | _ => .bad
  else .bad
theorem pureC_pure (m : List D → Sto → Res D) : Pure m (pureC m) := by
  refine ⟨fun ds st d st1 h => ?_, fun ds st k xs st1 h => ?_⟩
  · unfold pureC at h
    split at h
    · rename_i hg
      split at h
      · rename_i d' st' e
        split at h
        · rename_i hd
          cases h
          exact ⟨rfl, hg, hd, st', e⟩
        · cases h
      · cases h
    · cases h
  · unfold pureC at h
    split at h
    · split at h
      · split at h <;> cases h
      · cases h
    · cases h
theorem pureC_ok {m : List D → Sto → Res D} {ds : List D} {st st' : Sto} {d : D} (hg : grounds ds = true) (h : m ds [] = .ok d st') (hd : ground d = true) : pureC m ds st = .ok d st := by
  unfold pureC
  rw [if_pos hg, h]
  simp only []
  rw [if_pos hd]
theorem pure_imp {K : PySem.W.Frag} {m c : List D → Sto → Res D} {n : Nat} (p : Pure m c) (vs : List V) (H : Hp) (Q : VK) (E : XK) (h : spU K c n vs H Q E) : spU K m n vs H Q E := by
  obtain ⟨as, st, ds, rel, rvs, hl, g⟩ := h
  cases e : c ds st with
  | bad => rw [e] at g; exact g.elim
  | exc _ _ _ => rw [e] at g; exact g.elim
  | ok d st1 =>
    obtain ⟨rfl, h1, h2, st', h3⟩ := p.of ds st d st1 e
    rw [e] at g
    refine ⟨[], [], ds, ⟨rfl, fun i o a h _ => by simp at h, fun i j a o o' h _ _ _ _ _ => by simp at h⟩, RVs.grd ds vs h1 rvs, hl, ?_⟩
    rw [h3]
    intro as' H' e' r' v rv
    have keep : ∀ a u, H a = some u → H' a = some u := fun a u q => e'.frm a u (by simp) q
    have e2 : Ext K as H as H' := ⟨⟨[], by simp, by simp⟩, fun a o _ q => keep a o q, e'.tup, e'.frz⟩
    refine g as H' e2 ⟨rel.len, fun i o a q1 q2 => (rel.at_ i o a q1 q2).mono e2.wk fun u q _ => keep a u q, rel.inj⟩ v (RV.grd d v h2 rv)
theorem all_okC {P : Program} {w : World} {K : PySem.W.Frag} {mg : Str → Option Value} {base : Heap} {B : Tab} {Pf : List Fn} {G : List D} {C : Nat → Option (List D → Sto → Res D)} {kc : Nat} (M : Mods B Pf G K mg)
    (hC : ∀ i c, C i = some c → Pure (run Pf G kc i) c) : ∀ (k : Nat) (i : Nat) (x : Str) (ps : List Str) (f : Addr) (fd : FuncData), DefOk B Pf K mg i x ps f fd →
    FnOkG P w K mg base CXP (kc + k) f fd ps (spU K (runC Pf G C k i) ps.length)
  | 0, i, x, ps, f, fd, dk => by
    cases e : C i with
    | none => exact ⟨fun vs H Q E h => sp_len h, fun A outer s H args us vs Q E _ _ _ _ _ h => by
        obtain ⟨as, st, ds, _, _, _, g⟩ := h
        rw [runC, e] at g
        exact g.elim⟩
    | some c =>
      have : runC Pf G C 0 i = c := by funext ds st; rw [runC, e]
      rw [this]
      exact ((all_ok M kc i x ps f fd dk).imp (pure_imp (hC i c e))).mono (Nat.le_refl _)
  | k + 1, i, x, ps, f, fd, dk => by
    cases e : C i with
    | some c =>
      have : runC Pf G C (k + 1) i = c := by funext ds st; rw [runC, e]
      rw [this]
      exact ((all_ok M kc i x ps f fd dk).imp (pure_imp (hC i c e))).mono (Nat.le_add_right _ _)
    | none =>
      obtain ⟨params, body, scope, N, fn, hF, hPf, hnp, hns, S, hchk⟩ := dk.fn
      show FnOkG P w K mg base CXP (kc + k + 1) f fd ps _
      refine FunD_okG hF S (fun vs H Q E h => sp_len h) fun cdv A outer s H vs Q E hg hr hsp => ?_
      obtain ⟨as, st, ds, rel, rvs, hl, g⟩ := hsp
      have c : StC B (runC Pf G C k) G N scope (kc + k) (cxOf CXP P w K mg base N x scope f cdv A outer s H E) := {
        cx := {
          fit := ⟨by have := hr.un; show (A.deeper _).units + 100 < cLine; omega, hg, rfl⟩
          hN := rfl
          nd := S.nd
          sub := fun y q h => ⟨q, h, .inl rfl⟩
          fnc := fun _ _ => rfl
          room := hr
          fns := fun j y qs h => by
            obtain ⟨f', fd', dk'⟩ := M.defs j y qs h
            obtain ⟨_, _, _, _, _, hF', _⟩ := dk'.fn
            exact ⟨f', fd', ⟨dk'.mg, hF'.kp, dk'.bind, dk'.bindK, all_okC M hC k j y qs f' fd' dk'⟩⟩
          free := M.free
          con := M.con }
        hsc := rfl
        hk := S.kind
        hp := passes_of (K := fun e s'' => CXP outer H s E e s'') (E₁ := fun e s'' => CXP outer H s E e s'') rfl }
      refine ⟨_, soundSs c fn.body hchk, as, st, _, rel, renv_start (N := N) rvs hl, ?_⟩
      rw [runC, e, hPf] at g
      simp only [] at g
      rw [if_pos (by rw [hl, hnp]), hns, hnp] at g
      exact g.bind.imp fun o as1 H1 e1 ⟨st1, _, r1, g1⟩ => by
        cases o with
        | ret d => exact g1.here r1
        | next env => exact fun σ _ => g1.here r1 _ rfl
        | brk _ => exact g1.elim
        | cnt _ => exact g1.elim
/-- THE ROAD with contracts -/
theorem walk_PLC {l : PySem.W.OpenLaw} {n k kc : Nat} {q : Program} {loose : List Str} {XP : (Str → Option Value) → Heap → Prop} {YP : World → Heap → Prop} {d : DefRec} {x : Str} {B : Tab} {Pf : List Fn} {G : List D} {C : Nat → Option (List D → Sto → Res D)} {i : Nat}
    (hn : l.most = some n) (hn2 : n ≤ sizeLine) (hdf : d.params.defaults = []) (hr : Room (kc + k) callerA) (hfn : B.fns[i]? = some (d.name, [x]))
    (F : ∀ (w : World) (mg : Str → Option Value) (h : Heap), YP w h → h.Ns mainGlobals mg → ∃ (K : PySem.W.Frag), K.In h ∧ Mods B Pf G K mg)
    (hC : ∀ i c, C i = some c → Pure (run Pf G kc i) c)
    (hrun : ∀ ns : List Int, ns.length ≤ n → ∃ st, runC Pf G C k i [scriptD ns] [] = .ok (.bl true) st) :
    PySem.W.WalkO q loose XP YP l.row.toRowW d [] (fun f vs => PySem.call f vs) := by
  refine Att.attach_call hn hdf fun w s₀ s₁ mg mb fa o pm cd doc a vs ns G' Y ho hd hcd hmg hobj hints hlen hg => ?_
  obtain ⟨K, KX, M⟩ := F w mg _ Y G'.T.g
  obtain ⟨f, fd, dk⟩ := M.defs i d.name [x] hfn
  have e := hmg.symm.trans dk.mg
  cases e
  refine law_callG (CX := CXP) (sp := spU K (runC Pf G C k i) [x].length) KX G'.T.g G'.T.b G'.T.builtins G'.T.nolimit hg hobj hints (Nat.le_trans hlen hn2) hr (fun base hKb _ => all_okC M hC k i d.name [x] _ fd dk) (fun s u => dk.bind s [u] rfl) (fun H hO hS => ?_) fun H e s' z => z
  obtain ⟨st, e⟩ := hrun ns hlen
  refine ⟨[], [], [scriptD ns], ⟨rfl, fun i o a h _ => by simp at h, fun i j a o o' h _ _ _ _ _ => by simp at h⟩, ?_, rfl, ?_⟩
  · exact ⟨_, _, rfl, ⟨a, _, rfl, sqS_of hO hS, rvs_ints ns⟩, rfl⟩
  · rw [e]
    exact fun as' H' _ _ v rv => rv

/-! ### a tree of words -/
inductive Tr where
  | leaf | node (i : Nat) (ts : List Tr)
def setW (w : Nat → Str) (i : Nat) (x : Str) : Nat → Str := fun j => if j = i then x else w j
theorem setW_self (w : Nat → Str) (i : Nat) : setW w i (w i) = w := by
  funext j; unfold setW; split
  · rename_i e; rw [e]
  · rfl
section
variable (dom : Nat → List Str) (lf : (Nat → Str) → Bool)
mutual
def Tr.chk : Tr → (Nat → Str) → Bool
  | .leaf, w => lf w
  | .node i ts, w => chkAll ts (dom i) i w
def chkAll : List Tr → List Str → Nat → (Nat → Str) → Bool
  | t :: ts, x :: xs, i, w => t.chk (setW w i x) && chkAll ts xs i w
  | [], [], _, _ => true
  | _, _, _, _ => false
end
end
section
variable {dom : Nat → List Str} {lf : (Nat → Str) → Bool} {w : Nat → Str}
mutual
theorem Tr.chk_of (hw : ∀ i, w i ∈ dom i) : ∀ t : Tr, t.chk dom lf w = true → lf w = true
  | .leaf, h => by rw [Tr.chk] at h; exact h
  | .node i ts, h => by
    rw [Tr.chk] at h
    exact chkAll_of hw ts (dom i) i (hw i) h
theorem chkAll_of (hw : ∀ i, w i ∈ dom i) : ∀ (ts : List Tr) (xs : List Str) (i : Nat), w i ∈ xs → chkAll dom lf ts xs i w = true → lf w = true
  | t :: ts, x :: xs, i, hm, h => by
    rw [chkAll, Bool.and_eq_true] at h
    rcases List.mem_cons.mp hm with e | hm
    · have h1 := h.1
      rw [← e, setW_self] at h1
      exact Tr.chk_of hw t h1
    · exact chkAll_of hw ts xs i hm h.2
  | [], [], i, hm, h => by cases hm
  | t :: ts, [], i, hm, h => by cases hm
  | [], x :: xs, i, hm, h => by rw [chkAll] at h <;> first | cases h | simp
end
end
end PL

set_option Elab.async false
set_option linter.all false
set_option maxRecDepth 100000
set_option maxHeartbeats 4000000
/-! PLW: what the small language does, step by step, as propositions. -/
namespace PL
open PySem

def Wd {α : Type} (r : Res α) (P : α → Sto → Prop) : Prop := match r with
  | .ok a st => P a st
  | _ => False
section
variable {α β : Type}
theorem Wd_ok {a : α} {st : Sto} {P : α → Sto → Prop} : Wd (.ok a st) P ↔ P a st := Iff.rfl
theorem Wd_bad {P : α → Sto → Prop} : Wd (.bad : Res α) P ↔ False := Iff.rfl
theorem Wd_bind {r : Res α} {k : α → Sto → Res β} {P : β → Sto → Prop} : Wd (r.bind k) P ↔ Wd r fun a st => Wd (k a st) P := by
  cases r <;> exact Iff.rfl
theorem Wd.mono {r : Res α} {P Q : α → Sto → Prop} (h : Wd r P) (f : ∀ a st, P a st → Q a st) : Wd r Q := by
  cases r with
  | ok a st => exact f a st h
  | exc _ _ _ => exact h
  | bad => exact h
theorem Wd_lift {o : Option α} {st : Sto} {P : α → Sto → Prop} : Wd (liftO o st) P ↔ ∃ a, o = some a ∧ P a st := by
  cases o with
  | some a => exact ⟨fun h => ⟨a, rfl, h⟩, fun ⟨b, e, h⟩ => by cases e; exact h⟩
  | none => exact ⟨fun h => h.elim, fun ⟨b, e, h⟩ => by cases e⟩
theorem Wd_ite {c : Prop} [Decidable c] {x y : Res α} {P : α → Sto → Prop} : Wd (if c then x else y) P ↔ if c then Wd x P else Wd y P := by
  split <;> exact Iff.rfl
theorem Wd_ok_of {r : Res α} {P : α → Sto → Prop} (h : Wd r P) : ∃ a st, r = .ok a st ∧ P a st := by
  cases r with
  | ok a st => exact ⟨a, st, rfl, h⟩
  | exc _ _ _ => exact h.elim
  | bad => exact h.elim
end
section
variable {F : Nat → List D → Sto → Res D} {G : List D} {env : Env} {st : Sto} {P : D → Sto → Prop} {PL' : List D → Sto → Prop} {PT' : Bool → Sto → Prop} {PE' : Env → Sto → Prop} {PO' : Out → Sto → Prop}
theorem W_var {i : Nat} : Wd (ev F G (.var i) env st) P ↔ ∃ d, env[i]? = some (some d) ∧ P d st := by
  rw [ev]
  split
  · rename_i d e; rw [e]; simp [Wd]
  · rename_i h
    refine ⟨fun z => z.elim, fun ⟨d, e, _⟩ => (h d e).elim⟩
theorem W_cI {i : Int} : Wd (ev F G (.cI i) env st) P ↔ P (.int i) st := by rw [ev]; exact Iff.rfl
theorem W_cB {i : Bool} : Wd (ev F G (.cB i) env st) P ↔ P (.bl i) st := by rw [ev]; exact Iff.rfl
theorem W_cS {i : Str} : Wd (ev F G (.cS i) env st) P ↔ P (.str i) st := by rw [ev]; exact Iff.rfl
theorem W_cN : Wd (ev F G .cN env st) P ↔ P .non st := by rw [ev]; exact Iff.rfl
theorem W_gcon {i : Nat} : Wd (ev F G (.gcon i) env st) P ↔ ∃ d, G[i]? = some d ∧ P d st := by rw [ev]; exact Wd_lift
theorem W_bin {op : Bop} {a b : E} : Wd (ev F G (.bin op a b) env st) P ↔ Wd (ev F G a env st) fun x st1 => Wd (ev F G b env st1) fun y st2 => Wd (binD op x y st2) P := by
  rw [ev]; simp only [Wd_bind]
theorem W_neg {a : E} : Wd (ev F G (.neg a) env st) P ↔ Wd (ev F G a env st) fun x st1 => ∃ i, x = .int i ∧ P (.int (-i)) st1 := by
  rw [ev]; simp only [Wd_bind]
  constructor
  · intro h; refine h.mono fun x st1 h => ?_
    split at h
    · exact ⟨_, rfl, h⟩
    · exact h.elim
  · intro h; refine h.mono fun x st1 ⟨i, e, h⟩ => ?_
    subst e; exact h
theorem W_notE {a : E} : Wd (ev F G (.notE a) env st) P ↔ Wd (ev F G a env st) fun x st1 => ∃ k, truth st1 x = some k ∧ P (.bl (!k)) st1 := by
  rw [ev]; simp only [Wd_bind, Wd_lift, Option.map_eq_some_iff]
  constructor
  · intro h; exact h.mono fun x st1 ⟨d, ⟨k, e, e2⟩, h⟩ => ⟨k, e, by rw [e2]; exact h⟩
  · intro h; exact h.mono fun x st1 ⟨k, e, h⟩ => ⟨_, ⟨k, e, rfl⟩, h⟩
theorem W_and1 {a : E} : Wd (ev F G (.and1 a) env st) P ↔ Wd (ev F G a env st) P := by rw [ev]
theorem W_or1 {a : E} : Wd (ev F G (.or1 a) env st) P ↔ Wd (ev F G a env st) P := by rw [ev]
theorem W_and2 {a r : E} : Wd (ev F G (.and2 a r) env st) P ↔ Wd (ev F G a env st) fun x st1 => ∃ k, truth st1 x = some k ∧ if k = true then Wd (ev F G r env st1) P else P x st1 := by
  rw [ev]; simp only [Wd_bind]
  constructor
  · intro h; refine h.mono fun x st1 h => ?_
    split at h
    · rename_i e; exact ⟨true, e, by rw [if_pos rfl]; exact h⟩
    · rename_i e; exact ⟨false, e, by rw [if_neg (by simp)]; exact h⟩
    · exact h.elim
  · intro h; refine h.mono fun x st1 ⟨k, e, h⟩ => ?_
    rw [e]
    cases k
    · rw [if_neg (by simp)] at h; exact h
    · rw [if_pos rfl] at h; exact h
theorem W_or2 {a r : E} : Wd (ev F G (.or2 a r) env st) P ↔ Wd (ev F G a env st) fun x st1 => ∃ k, truth st1 x = some k ∧ if k = true then P x st1 else Wd (ev F G r env st1) P := by
  rw [ev]; simp only [Wd_bind]
  constructor
  · intro h; refine h.mono fun x st1 h => ?_
    split at h
    · rename_i e; exact ⟨true, e, by rw [if_pos rfl]; exact h⟩
    · rename_i e; exact ⟨false, e, by rw [if_neg (by simp)]; exact h⟩
    · exact h.elim
  · intro h; refine h.mono fun x st1 ⟨k, e, h⟩ => ?_
    rw [e]
    cases k
    · rw [if_neg (by simp)] at h; exact h
    · rw [if_pos rfl] at h; exact h
theorem W_cmp {op : Cop} {a b : E} : Wd (ev F G (.cmp op a b) env st) P ↔ Wd (ev F G a env st) fun x st1 => Wd (ev F G b env st1) fun y st2 => ∃ k, cmpD op x y st2 = some k ∧ P (.bl k) st2 := by
  rw [ev]; simp only [Wd_bind, Wd_lift, Option.map_eq_some_iff]
  constructor
  · intro h; exact h.mono fun x st1 h => h.mono fun y st2 ⟨d, ⟨k, e, e2⟩, h⟩ => ⟨k, e, by rw [e2]; exact h⟩
  · intro h; exact h.mono fun x st1 h => h.mono fun y st2 ⟨k, e, h⟩ => ⟨_, ⟨k, e, rfl⟩, h⟩
theorem W_ife {c : T} {a b : E} : Wd (ev F G (.ife c a b) env st) P ↔ Wd (evT F G c env st) fun k st1 => if k = true then Wd (ev F G a env st1) P else Wd (ev F G b env st1) P := by
  rw [ev]; simp only [Wd_bind, Wd_ite]
theorem W_tup {es : Es} : Wd (ev F G (.tup es) env st) P ↔ Wd (evs F G es env st) fun ds st1 => ds.length ≤ sizeLine ∧ P (.tup ds) st1 := by
  rw [ev]; simp only [Wd_bind, Wd_ite]
  constructor
  · intro h; refine h.mono fun x st1 h => ?_
    split at h
    · rename_i e; exact ⟨e, h⟩
    · exact h.elim
  · intro h; exact h.mono fun x st1 ⟨e, h⟩ => by rw [if_pos e]; exact h
theorem W_lst {es : Es} : Wd (ev F G (.lst es) env st) P ↔ Wd (evs F G es env st) fun ds st1 => ds.length ≤ sizeLine ∧ P (.ref st1.length) (st1 ++ [.lst ds]) := by
  rw [ev]; simp only [Wd_bind, Wd_ite]
  constructor
  · intro h; refine h.mono fun x st1 h => ?_
    split at h
    · rename_i e; exact ⟨e, h⟩
    · exact h.elim
  · intro h; exact h.mono fun x st1 ⟨e, h⟩ => by rw [if_pos e]; exact h
theorem W_dic {ks : List L2.Key} {es : Es} : Wd (ev F G (.dic ks es) env st) P ↔ Wd (evs F G es env st) fun ds st1 => (ks.length = ds.length ∧ ks.length ≤ 15) ∧ P (.ref st1.length) (st1 ++ [.dct ((ks.zip ds).foldl (fun acc kv => putKV acc kv.1 kv.2) [])]) := by
  rw [ev]; simp only [Wd_bind, Wd_ite]
  constructor
  · intro h; refine h.mono fun x st1 h => ?_
    split at h
    · rename_i e; exact ⟨e, h⟩
    · exact h.elim
  · intro h; exact h.mono fun x st1 ⟨e, h⟩ => by rw [if_pos e]; exact h
theorem W_call {f : Nat} {es : Es} : Wd (ev F G (.call f es) env st) P ↔ Wd (evs F G es env st) fun ds st1 => Wd (F f ds st1) P := by rw [ev]; simp only [Wd_bind]
theorem W_callK {f : Nat} {es ks : Es} {g : List Nat} : Wd (ev F G (.callK f es ks g) env st) P ↔ Wd (evs F G es env st) fun ds st1 => Wd (evs F G ks env st1) fun zs st2 => Wd (F f (g.map fun j => (ds ++ zs).getD j .non) st2) P := by rw [ev]; simp only [Wd_bind]
theorem W_blt {b : Blt} {es : Es} : Wd (ev F G (.blt b es) env st) P ↔ Wd (evs F G es env st) fun ds st1 => Wd (bltD b ds st1) P := by rw [ev]; simp only [Wd_bind]
theorem W_meth {m : Mt} {o : E} {es : Es} : Wd (ev F G (.meth m o es) env st) P ↔ Wd (ev F G o env st) fun x st1 => isLst x st1 = true ∧ Wd (evs F G es env st1) fun ds st2 => Wd (methD m x ds st2) P := by
  rw [ev]; simp only [Wd_bind, Wd_ite]
  constructor
  · intro h; refine h.mono fun x st1 h => ?_
    split at h
    · rename_i e; exact ⟨e, h⟩
    · exact h.elim
  · intro h; exact h.mono fun x st1 ⟨e, h⟩ => by rw [if_pos e]; exact h
theorem W_idx {a b : E} : Wd (ev F G (.idx a b) env st) P ↔ Wd (ev F G a env st) fun x st1 => Wd (ev F G b env st1) fun y st2 => Wd (idxD x y st2) P := by rw [ev]; simp only [Wd_bind]
theorem W_sl {a b c : E} : Wd (ev F G (.sl a b c) env st) P ↔ Wd (ev F G a env st) fun x st1 => Wd (ev F G b env st1) fun y st2 => Wd (ev F G c env st2) fun z st3 => Wd (slD x y z st3) P := by rw [ev]; simp only [Wd_bind]
theorem W_rev {a : E} : Wd (ev F G (.rev a) env st) P ↔ Wd (ev F G a env st) fun x st1 => Wd (revD x st1) P := by rw [ev]; simp only [Wd_bind]
theorem W_lc {own : List Nat} {elt : E} {t : Tg} {k : ItK} {es : Es} {c : T} : Wd (ev F G (.lc own elt t k es c) env st) P ↔ Wd (evs F G es env st) fun ds st1 => ∃ s, srcD k ds st1 = some s ∧
    Wd (lcLoop s (fun d st2 => (asg F G t d (wipeE env own) st2).bind fun env1 st3 => (evT F G c env1 st3).bind fun b st4 => if b then (ev F G elt env1 st4).bind fun y st5 => .ok (some y) st5 else .ok none st4) (s.len st1 + 1) 0 [] st1) P := by
  rw [ev]; simp only [Wd_bind]
  constructor
  · intro h; refine h.mono fun x st1 h => ?_
    split at h
    · exact h.elim
    · rename_i s e; exact ⟨s, e, h⟩
  · intro h; refine h.mono fun x st1 ⟨s, e, h⟩ => ?_
    rw [e]; exact h
theorem W_nil : Wd (evs F G .nil env st) PL' ↔ PL' [] st := by rw [evs]; exact Iff.rfl
theorem W_cons {e : E} {es : Es} : Wd (evs F G (.cons e es) env st) PL' ↔ Wd (ev F G e env st) fun d st1 => Wd (evs F G es env st1) fun ds st2 => PL' (d :: ds) st2 := by rw [evs]; simp only [Wd_bind, Wd_ok]
theorem W_val {e : E} : Wd (evT F G (.val e) env st) PT' ↔ Wd (ev F G e env st) fun x st1 => ∃ k, truth st1 x = some k ∧ PT' k st1 := by rw [evT]; simp only [Wd_bind, Wd_lift]
theorem W_vc {op : Cop} {a b : E} : Wd (evT F G (.vc op a b) env st) PT' ↔ Wd (ev F G a env st) fun x st1 => Wd (ev F G b env st1) fun y st2 => ∃ k, cmpD op x y st2 = some k ∧ PT' k st2 := by rw [evT]; simp only [Wd_bind, Wd_lift]
theorem W_not {t : T} : Wd (evT F G (.not t) env st) PT' ↔ Wd (evT F G t env st) fun b st1 => PT' (!b) st1 := by rw [evT]; simp only [Wd_bind, Wd_ok]
theorem W_tand1 {t : T} : Wd (evT F G (.and1 t) env st) PT' ↔ Wd (evT F G t env st) PT' := by rw [evT]
theorem W_tor1 {t : T} : Wd (evT F G (.or1 t) env st) PT' ↔ Wd (evT F G t env st) PT' := by rw [evT]
theorem W_tand2 {t r : T} : Wd (evT F G (.and2 t r) env st) PT' ↔ Wd (evT F G t env st) fun b st1 => if b = true then Wd (evT F G r env st1) PT' else PT' false st1 := by rw [evT]; simp only [Wd_bind, Wd_ite, Wd_ok]
theorem W_tor2 {t r : T} : Wd (evT F G (.or2 t r) env st) PT' ↔ Wd (evT F G t env st) fun b st1 => if b = true then PT' true st1 else Wd (evT F G r env st1) PT' := by rw [evT]; simp only [Wd_bind, Wd_ite, Wd_ok]
theorem W_yes : Wd (evT F G .yes env st) PT' ↔ PT' true st := by rw [evT]; exact Iff.rfl
theorem W_name {i : Nat} {d : D} : Wd (asg F G (.name i) d env st) PE' ↔ PE' (env.set i (some d)) st := by rw [asg]; exact Iff.rfl
theorem W_tgt {ts : Tgs} {d : D} : Wd (asg F G (.tup ts) d env st) PE' ↔ ∃ ds, partsOf d st = some ds ∧ Wd (asgs F G ts ds env st) PE' := by
  rw [asg]
  constructor
  · intro h; split at h
    · rename_i ds e; exact ⟨ds, e, h⟩
    · exact h.elim
  · intro ⟨ds, e, h⟩; rw [e]; exact h
theorem W_tgsub {o i : E} {d : D} : Wd (asg F G (.sub o i) d env st) PE' ↔ Wd (ev F G o env st) fun x st1 => Wd (ev F G i env st1) fun y st2 => ∃ st3, setD x y d st2 = some st3 ∧ PE' env st3 := by
  rw [asg]; simp only [Wd_bind]
  constructor
  · intro h; refine h.mono fun x st1 h => h.mono fun y st2 h => ?_
    split at h
    · rename_i s e; exact ⟨s, e, h⟩
    · exact h.elim
  · intro h; refine h.mono fun x st1 h => h.mono fun y st2 ⟨s, e, h⟩ => ?_
    rw [e]; exact h
theorem W_tgnil : Wd (asgs F G .nil [] env st) PE' ↔ PE' env st := by rw [asgs]; exact Iff.rfl
theorem W_tgcons {t : Tg} {ts : Tgs} {d : D} {ds : List D} : Wd (asgs F G (.cons t ts) (d :: ds) env st) PE' ↔ Wd (asg F G t d env st) fun env1 st1 => Wd (asgs F G ts ds env1 st1) PE' := by rw [asgs]; simp only [Wd_bind]
theorem W_asg {t : Tg} {e : E} : Wd (ex F G (.asg t e) env st) PO' ↔ Wd (ev F G e env st) fun d st1 => Wd (asg F G t d env st1) fun env1 st2 => PO' (.next env1) st2 := by rw [ex]; simp only [Wd_bind, Wd_ok]
theorem W_asgC {i : Nat} {own : List Nat} {elt : E} {t : Tg} {k : ItK} {es : Es} {c : T} : Wd (ex F G (.asgC i own elt t k es c) env st) PO' ↔ Wd (ev F G (.lc own elt t k es c) env st) fun d st1 => PO' (.next (env.set i (some d))) st1 := by rw [ex]; simp only [Wd_bind, Wd_ok]
theorem W_par {is : List Nat} {es : Es} : Wd (ex F G (.par is es) env st) PO' ↔ Wd (evs F G es env st) fun ds st1 => ds.length = is.length ∧ PO' (.next (setAll env is ds)) st1 := by
  rw [ex]; simp only [Wd_bind, Wd_ite]
  constructor
  · intro h; refine h.mono fun x st1 h => ?_
    split at h
    · rename_i e; exact ⟨e, h⟩
    · exact h.elim
  · intro h; exact h.mono fun x st1 ⟨e, h⟩ => by rw [if_pos e]; exact h
theorem W_exp {e : E} : Wd (ex F G (.exp e) env st) PO' ↔ Wd (ev F G e env st) fun _ st1 => PO' (.next env) st1 := by rw [ex]; simp only [Wd_bind, Wd_ok]
theorem W_ret {e : E} : Wd (ex F G (.ret e) env st) PO' ↔ Wd (ev F G e env st) fun d st1 => PO' (.ret d) st1 := by rw [ex]; simp only [Wd_bind, Wd_ok]
theorem W_if {c : T} {a b : Ss} : Wd (ex F G (.ite c a b) env st) PO' ↔ Wd (evT F G c env st) fun k st1 => if k = true then Wd (exs F G a env st1) PO' else Wd (exs F G b env st1) PO' := by rw [ex]; simp only [Wd_bind, Wd_ite]
theorem W_for {t : Tg} {k : ItK} {es : Es} {body : Ss} : Wd (ex F G (.for_ t k es body) env st) PO' ↔ Wd (evs F G es env st) fun ds st1 => ∃ s, srcD k ds st1 = some s ∧
    Wd (forLoop s (fun d env st => (asg F G t d env st).bind fun env1 st1 => exs F G body env1 st1) (s.len st1 + 1) 0 env st1) PO' := by
  rw [ex]; simp only [Wd_bind]
  constructor
  · intro h; refine h.mono fun x st1 h => ?_
    split at h
    · exact h.elim
    · rename_i s e; exact ⟨s, e, h⟩
  · intro h; refine h.mono fun x st1 ⟨s, e, h⟩ => ?_
    rw [e]; exact h
theorem W_snil : Wd (exs F G .nil env st) PO' ↔ PO' (.next env) st := by rw [exs]; exact Iff.rfl
/-- what is done behind a statement -/
def Then (Q : Env → Sto → Prop) (PO' : Out → Sto → Prop) : Out → Sto → Prop
  | .next env1, st1 => Q env1 st1
  | .brk env1, st1 => PO' (.brk env1) st1
  | .cnt env1, st1 => PO' (.cnt env1) st1
  | .ret d, st1 => PO' (.ret d) st1
theorem Then_next {Q : Env → Sto → Prop} : Then Q PO' (.next env) st ↔ Q env st := Iff.rfl
theorem Then_ret {Q : Env → Sto → Prop} {d : D} : Then Q PO' (.ret d) st ↔ PO' (.ret d) st := Iff.rfl
theorem W_scons {s : S} {ss : Ss} : Wd (exs F G (.cons s ss) env st) PO' ↔ Wd (ex F G s env st) (Then (fun env1 st1 => Wd (exs F G ss env1 st1) PO') PO') := by
  rw [exs]; simp only [Wd_bind]
  constructor
  · intro h; refine h.mono fun o st1 h => ?_
    cases o <;> exact h
  · intro h; refine h.mono fun o st1 h => ?_
    cases o <;> exact h
/-- what a def's body comes to -/
def Back (P : D → Sto → Prop) : Out → Sto → Prop
  | .ret d, st => P d st
  | .next _, st => P .non st
  | _, _ => False
theorem Back_ret {d : D} : Back P (.ret d) st ↔ P d st := Iff.rfl
theorem Back_next : Back P (.next env) st ↔ P .non st := Iff.rfl
end
section
variable {Pf : List Fn} {G : List D} {C : Nat → Option (List D → Sto → Res D)} {n f : Nat} {ds : List D} {st : Sto} {P : D → Sto → Prop}
/-- a def by its body -/
theorem W_def {fn : Fn} (hC : C f = none) (hf : Pf[f]? = some fn) (hl : ds.length = fn.np) (h : Wd (exs (runC Pf G C n) G fn.body (ds.map some ++ List.replicate (fn.ns - fn.np) none) st) (Back P)) : Wd (runC Pf G C (n + 1) f ds st) P := by
  rw [runC, hC, hf]
  simp only []
  rw [if_pos hl, Wd_bind]
  refine h.mono fun o st1 h => ?_
  cases o <;> exact h
/-- a def by its contract -/
theorem W_con {c : List D → Sto → Res D} (hC : C f = some c) (h : Wd (c ds st) P) : Wd (runC Pf G C n f ds st) P := by
  cases n <;> (rw [runC, hC]; exact h)
end

/-! ### loops -/
section
variable {step : D → Env → Sto → Res Out} {P : Out → Sto → Prop} {s : Src}
/-- a turn of a for: what it leaves -/
def Turn (Inv : Env → Sto → Prop) (P : Out → Sto → Prop) : Out → Sto → Prop
  | .next env, st => Inv env st
  | .cnt env, st => Inv env st
  | .brk env, st => P (.next env) st
  | .ret d, st => P (.ret d) st
theorem W_loop (Inv : Nat → Env → Sto → Prop) (m : Nat) (hs : ∀ i env st, i < m → Inv i env st → ∃ d, s.at st i = some (some d) ∧ Wd (step d env st) (Turn (Inv (i + 1)) P)) (hd : ∀ env st, Inv m env st → s.at st m = some none ∧ P (.next env) st) :
    ∀ (n i : Nat) (env : Env) (st : Sto), i + n = m + 1 → i ≤ m → Inv i env st → Wd (forLoop s step n i env st) P
  | 0, i, env, st, e, hi, _ => by omega
  | n + 1, i, env, st, e, hi, h => by
    rw [forLoop]
    by_cases hm : i < m
    · obtain ⟨d, h1, h2⟩ := hs i env st hm h
      rw [h1]
      simp only [Wd_bind]
      refine h2.mono fun o st1 h => ?_
      cases o with
      | next env1 => exact W_loop Inv m hs hd n (i + 1) env1 st1 (by omega) (by omega) h
      | cnt env1 => exact W_loop Inv m hs hd n (i + 1) env1 st1 (by omega) (by omega) h
      | brk env1 => exact h
      | ret d => exact h
    · have : i = m := by omega
      subst this
      obtain ⟨h1, h2⟩ := hd env st h
      rw [h1]
      exact h2
theorem W_for_fix {ds : List D} {env : Env} {st : Sto} (Inv : Nat → Env → Sto → Prop) (h0 : Inv 0 env st) (hs : ∀ i d env st, ds[i]? = some d → Inv i env st → Wd (step d env st) (Turn (Inv (i + 1)) P)) (hd : ∀ env st, Inv ds.length env st → P (.next env) st) :
    Wd (forLoop (.fix ds) step ((Src.fix ds).len st + 1) 0 env st) P := by
  refine W_loop Inv ds.length (fun i env st hi h => ?_) (fun env st h => ?_) _ 0 env st (by simp [Src.len]) (Nat.zero_le _) h0
  · refine ⟨ds[i], ?_, hs i ds[i] env st (List.getElem?_eq_getElem hi) h⟩
    rw [Src.at, if_pos (by omega), List.getElem?_eq_getElem hi]
  · refine ⟨?_, hd env st h⟩
    rw [Src.at, if_pos (Nat.le_refl _), List.getElem?_eq_none (Nat.le_refl _)]
theorem W_for_live {r : Nat} {ds : List D} {env : Env} {st : Sto} (Inv : Nat → Env → Sto → Prop) (h0 : Inv 0 env st) (hl : ∀ i env st, Inv i env st → st[r]? = some (.lst ds)) (hs : ∀ i d env st, ds[i]? = some d → Inv i env st → Wd (step d env st) (Turn (Inv (i + 1)) P)) (hd : ∀ env st, Inv ds.length env st → P (.next env) st) :
    Wd (forLoop (.live r) step ((Src.live r).len st + 1) 0 env st) P := by
  refine W_loop Inv ds.length (fun i env st hi h => ?_) (fun env st h => ?_) _ 0 env st ?_ (Nat.zero_le _) h0
  · refine ⟨ds[i], ?_, hs i ds[i] env st (List.getElem?_eq_getElem hi) h⟩
    rw [Src.at, hl i env st h]
    simp only []
    rw [if_pos (by omega), List.getElem?_eq_getElem hi]
  · refine ⟨?_, hd env st h⟩
    rw [Src.at, hl _ env st h]
    simp only []
    rw [if_pos (Nat.le_refl _), List.getElem?_eq_none (Nat.le_refl _)]
  · rw [Src.len, hl 0 env st h0]; simp
theorem W_for_enum {s : Src} {ds : List D} {env : Env} {st : Sto} (Inv : Nat → Env → Sto → Prop) (h0 : Inv 0 env st) (hl : ∀ i env st, i ≤ ds.length → Inv i env st → s.at st i = some ds[i]?) (hlen : s.len st = ds.length) (hs : ∀ i d env st, ds[i]? = some d → Inv i env st → Wd (step (.tup [.int (i : Int), d]) env st) (Turn (Inv (i + 1)) P)) (hd : ∀ env st, Inv ds.length env st → P (.next env) st) :
    Wd (forLoop (.enum s) step ((Src.enum s).len st + 1) 0 env st) P := by
  refine W_loop Inv ds.length (fun i env st hi h => ?_) (fun env st h => ?_) _ 0 env st (by rw [Src.len, hlen]; omega) (Nat.zero_le _) h0
  · refine ⟨.tup [.int (i : Int), ds[i]], ?_, hs i ds[i] env st (List.getElem?_eq_getElem hi) h⟩
    rw [Src.at, hl i env st (by omega) h, List.getElem?_eq_getElem hi]
  · refine ⟨?_, hd env st h⟩
    rw [Src.at, hl _ env st (Nat.le_refl _) h, List.getElem?_eq_none (Nat.le_refl _)]
end
section
variable {step : D → Sto → Res (Option D)} {P : D → Sto → Prop} {s : Src}
/-- a turn of a comprehension -/
def LTurn (Inv : List D → Sto → Prop) (acc : List D) : Option D → Sto → Prop
  | none, st => Inv acc st
  | some y, st => acc.length < sizeLine ∧ Inv (acc ++ [y]) st
theorem W_lcl (Inv : Nat → List D → Sto → Prop) (m : Nat) (hs : ∀ i acc st, i < m → Inv i acc st → ∃ d, s.at st i = some (some d) ∧ Wd (step d st) (LTurn (Inv (i + 1)) acc)) (hd : ∀ acc st, Inv m acc st → s.at st m = some none ∧ P (.ref st.length) (st ++ [.lst acc])) :
    ∀ (n i : Nat) (acc : List D) (st : Sto), i + n = m + 1 → i ≤ m → Inv i acc st → Wd (lcLoop s step n i acc st) P
  | 0, i, acc, st, e, hi, _ => by omega
  | n + 1, i, acc, st, e, hi, h => by
    rw [lcLoop]
    by_cases hm : i < m
    · obtain ⟨d, h1, h2⟩ := hs i acc st hm h
      rw [h1]
      simp only [Wd_bind]
      refine h2.mono fun o st1 h => ?_
      cases o with
      | none => exact W_lcl Inv m hs hd n (i + 1) acc st1 (by omega) (by omega) h
      | some y =>
        simp only []
        rw [if_pos h.1]
        exact W_lcl Inv m hs hd n (i + 1) _ st1 (by omega) (by omega) h.2
    · have : i = m := by omega
      subst this
      obtain ⟨h1, h2⟩ := hd acc st h
      rw [h1]
      exact h2
theorem W_lc_fix {ds : List D} {st : Sto} (Inv : Nat → List D → Sto → Prop) (h0 : Inv 0 [] st) (hs : ∀ i d acc st, ds[i]? = some d → Inv i acc st → Wd (step d st) (LTurn (Inv (i + 1)) acc)) (hd : ∀ acc st, Inv ds.length acc st → P (.ref st.length) (st ++ [.lst acc])) :
    Wd (lcLoop (.fix ds) step ((Src.fix ds).len st + 1) 0 [] st) P := by
  refine W_lcl Inv ds.length (fun i env st hi h => ?_) (fun env st h => ?_) _ 0 [] st (by simp [Src.len]) (Nat.zero_le _) h0
  · refine ⟨ds[i], ?_, hs i ds[i] env st (List.getElem?_eq_getElem hi) h⟩
    rw [Src.at, if_pos (by omega), List.getElem?_eq_getElem hi]
  · refine ⟨?_, hd env st h⟩
    rw [Src.at, if_pos (Nat.le_refl _), List.getElem?_eq_none (Nat.le_refl _)]
theorem W_lc_live {r : Nat} {ds : List D} {st : Sto} (Inv : Nat → List D → Sto → Prop) (h0 : Inv 0 [] st) (hl : ∀ i acc st, Inv i acc st → st[r]? = some (.lst ds)) (hs : ∀ i d acc st, ds[i]? = some d → Inv i acc st → Wd (step d st) (LTurn (Inv (i + 1)) acc)) (hd : ∀ acc st, Inv ds.length acc st → P (.ref st.length) (st ++ [.lst acc])) :
    Wd (lcLoop (.live r) step ((Src.live r).len st + 1) 0 [] st) P := by
  refine W_lcl Inv ds.length (fun i env st hi h => ?_) (fun env st h => ?_) _ 0 [] st ?_ (Nat.zero_le _) h0
  · refine ⟨ds[i], ?_, hs i ds[i] env st (List.getElem?_eq_getElem hi) h⟩
    rw [Src.at, hl i env st h]
    simp only []
    rw [if_pos (by omega), List.getElem?_eq_getElem hi]
  · refine ⟨?_, hd env st h⟩
    rw [Src.at, hl _ env st h]
    simp only []
    rw [if_pos (Nat.le_refl _), List.getElem?_eq_none (Nat.le_refl _)]
  · rw [Src.len, hl 0 [] st h0]; simp
end

/-! ### operations -/
section
variable {st : Sto} {P : D → Sto → Prop} {Q : Sto → Prop} {i j : Int} {x y : Str} {r : Nat}
theorem X_add : Wd (binD .add (.int i) (.int j) st) P ↔ P (.int (i + j)) st := Iff.rfl
theorem X_sub : Wd (binD .sub (.int i) (.int j) st) P ↔ P (.int (i - j)) st := Iff.rfl
theorem X_mul : Wd (binD .mul (.int i) (.int j) st) P ↔ (small64 i || small64 j) = true ∧ P (.int (i * j)) st := by
  unfold binD; simp only []; rw [Wd_ite]
  constructor
  · intro h; split at h
    · rename_i e; exact ⟨e, h⟩
    · exact h.elim
  · intro ⟨e, h⟩; rw [if_pos e]; exact h
theorem X_fdiv : Wd (binD .fdiv (.int i) (.int j) st) P ↔ (0 < j ∧ j < 1073741824) ∧ P (.int (i / j)) st := by
  unfold binD; simp only [Bool.and_eq_true, decide_eq_true_eq]; rw [Wd_ite]
  constructor
  · intro h; split at h
    · rename_i e; exact ⟨e, h⟩
    · exact h.elim
  · intro ⟨e, h⟩; rw [if_pos e]; exact h
theorem X_md : Wd (binD .md (.int i) (.int j) st) P ↔ 0 < j ∧ P (.int (i % j)) st := by
  unfold binD; simp only [decide_eq_true_eq]; rw [Wd_ite]
  constructor
  · intro h; split at h
    · rename_i e; exact ⟨e, h⟩
    · exact h.elim
  · intro ⟨e, h⟩; rw [if_pos e]; exact h
theorem X_addT {xs ys : List D} : Wd (binD .add (.tup xs) (.tup ys) st) P ↔ xs.length + ys.length ≤ sizeLine ∧ P (.tup (xs ++ ys)) st := by
  unfold binD; simp only []; rw [Wd_ite]
  constructor
  · intro h; split at h
    · rename_i e; exact ⟨e, h⟩
    · exact h.elim
  · intro ⟨e, h⟩; rw [if_pos e]; exact h
theorem X_addL {r' : Nat} : Wd (binD .add (.ref r) (.ref r') st) P ↔ ∃ xs, st[r]? = some (.lst xs) ∧ ∃ ys, st[r']? = some (.lst ys) ∧ xs.length + ys.length ≤ sizeLine ∧ P (.ref st.length) (st ++ [.lst (xs ++ ys)]) := by
  unfold binD; simp only []
  constructor
  · intro h; split at h
    · rename_i e1 e2
      rw [Wd_ite] at h
      split at h
      · rename_i e; exact ⟨_, e1, _, e2, e, h⟩
      · exact h.elim
    · exact h.elim
  · intro ⟨xs, e1, ys, e2, e, h⟩
    rw [e1, e2]; simp only []; rw [if_pos e]; exact h
theorem X_int : Wd (bltD .int [.int i] st) P ↔ P (.int i) st := Iff.rfl
theorem X_intB {b : Bool} : Wd (bltD .int [.bl b] st) P ↔ P (.int (if b then 1 else 0)) st := Iff.rfl
theorem X_abs : Wd (bltD .abs [.int i] st) P ↔ P (.int (if i < 0 then -i else i)) st := Iff.rfl
theorem X_lenT {xs : List D} : Wd (bltD .len [.tup xs] st) P ↔ P (.int xs.length) st := Iff.rfl
theorem X_lenS {xs : List D} : Wd (bltD .len [.scr xs] st) P ↔ P (.int xs.length) st := Iff.rfl
theorem X_lenR : Wd (bltD .len [.ref r] st) P ↔ ∃ xs, st[r]? = some (.lst xs) ∧ P (.int xs.length) st := by
  unfold bltD; simp only []
  constructor
  · intro h; split at h
    · rename_i e; exact ⟨_, e, h⟩
    · exact h.elim
  · intro ⟨xs, e, h⟩; rw [e]; exact h
theorem X_tupR : Wd (bltD .tuple [.ref r] st) P ↔ ∃ xs, st[r]? = some (.lst xs) ∧ P (.tup xs) st := by
  unfold bltD; simp only []
  constructor
  · intro h; split at h
    · rename_i e; exact ⟨_, e, h⟩
    · exact h.elim
  · intro ⟨xs, e, h⟩; rw [e]; exact h
theorem X_idxT {xs : List D} : Wd (idxD (.tup xs) (.int i) st) P ↔ ∃ d, L2.atI xs i = some d ∧ P d st := Wd_lift
theorem X_idxS {xs : List D} : Wd (idxD (.scr xs) (.int i) st) P ↔ ∃ d, L2.atI xs i = some d ∧ P d st := Wd_lift
theorem X_idxR : Wd (idxD (.ref r) (.int i) st) P ↔ (∃ xs, st[r]? = some (.lst xs) ∧ ∃ d, L2.atI xs i = some d ∧ P d st) ∨ ∃ kvs, st[r]? = some (.dct kvs) ∧ ∃ d, getKV kvs (.inl i) = some d ∧ P d st := by
  unfold idxD; simp only []
  constructor
  · intro h; split at h
    · rename_i e1 e2; cases e2; exact .inl ⟨_, e1, Wd_lift.mp h⟩
    · rename_i e1; simp only [keyD] at h; exact .inr ⟨_, e1, Wd_lift.mp h⟩
    · exact h.elim
  · intro h
    rcases h with ⟨xs, e, h⟩ | ⟨kvs, e, h⟩
    · rw [e]; exact Wd_lift.mpr h
    · rw [e]; simp only [keyD]; exact Wd_lift.mpr h
theorem X_idxK : Wd (idxD (.ref r) (.str x) st) P ↔ ∃ kvs, st[r]? = some (.dct kvs) ∧ ∃ d, getKV kvs (.inr x) = some d ∧ P d st := by
  unfold idxD; simp only []
  constructor
  · intro h; split at h
    · rename_i e1 e2; cases e2
    · rename_i e1; simp only [keyD] at h; exact ⟨_, e1, Wd_lift.mp h⟩
    · exact h.elim
  · intro ⟨kvs, e, h⟩
    rw [e]; simp only [keyD]; exact Wd_lift.mpr h
theorem X_slT {xs : List D} {lo hi : D} : Wd (slD (.tup xs) lo hi st) P ↔ ∃ l, partD lo = some l ∧ ∃ h, partD hi = some h ∧ P (.tup (cutD xs l h)) st := by
  unfold slD
  constructor
  · intro h; split at h
    · rename_i e1 e2 e3; cases e3; exact ⟨_, e1, _, e2, h⟩
    · rename_i e3; cases e3
    · rename_i e3; cases e3
    · rename_i e3; cases e3
    · exact h.elim
  · intro ⟨l, e1, u, e2, h⟩; rw [e1, e2]; exact h
theorem X_slS {xs : List D} {lo hi : D} : Wd (slD (.scr xs) lo hi st) P ↔ ∃ l, partD lo = some l ∧ ∃ h, partD hi = some h ∧ P (.ref st.length) (st ++ [.lst (cutD xs l h)]) := by
  unfold slD
  constructor
  · intro h; split at h
    · rename_i e3; cases e3
    · rename_i e1 e2 e3; cases e3; exact ⟨_, e1, _, e2, h⟩
    · rename_i e3; cases e3
    · rename_i e3; cases e3
    · exact h.elim
  · intro ⟨l, e1, u, e2, h⟩; rw [e1, e2]; exact h
theorem X_setI {v : D} : (∃ st3, setD (.ref r) (.int i) v st = some st3 ∧ Q st3) ↔ (∃ xs, st[r]? = some (.lst xs) ∧ ∃ j, L2.ixN xs.length i = some j ∧ Q (st.set r (.lst (xs.set j v)))) ∨ ∃ kvs, st[r]? = some (.dct kvs) ∧ kvs.length < sizeLine ∧ Q (st.set r (.dct (putKV kvs (.inl i) v))) := by
  unfold setD; simp only []
  constructor
  · intro ⟨st3, e, h⟩
    split at e
    · rename_i e1 e2; cases e2
      obtain ⟨j, e4, rfl⟩ := Option.map_eq_some_iff.mp e
      exact .inl ⟨_, e1, j, e4, h⟩
    · rename_i e1; simp only [keyD] at e
      split at e
      · rename_i hl; cases e; exact .inr ⟨_, e1, hl, h⟩
      · cases e
    · cases e
  · intro h
    rcases h with ⟨xs, e, j, e2, h⟩ | ⟨kvs, e, hl, h⟩
    · rw [e]; simp only [e2, Option.map_some]; exact ⟨_, rfl, h⟩
    · rw [e]; simp only [keyD, hl, if_true]; exact ⟨_, rfl, h⟩
theorem X_setK {v : D} : (∃ st3, setD (.ref r) (.str x) v st = some st3 ∧ Q st3) ↔ ∃ kvs, st[r]? = some (.dct kvs) ∧ kvs.length < sizeLine ∧ Q (st.set r (.dct (putKV kvs (.inr x) v))) := by
  unfold setD; simp only []
  constructor
  · intro ⟨st3, e, h⟩
    split at e
    · rename_i e1 e2; cases e2
    · rename_i e1; simp only [keyD] at e
      split at e
      · rename_i hl; cases e; exact ⟨_, e1, hl, h⟩
      · cases e
    · cases e
  · intro ⟨kvs, e, hl, h⟩
    rw [e]; simp only [keyD, hl, if_true]; exact ⟨_, rfl, h⟩
theorem X_isLst {xs : List D} (h : st[r]? = some (.lst xs)) : isLst (.ref r) st = true := by unfold isLst; simp only [h]
theorem X_append {xs : List D} {d : D} (h : st[r]? = some (.lst xs)) (hl : xs.length < sizeLine) : Wd (methD .append (.ref r) [d] st) P ↔ P .non (st.set r (.lst (xs ++ [d]))) := by
  unfold methD; simp only [h, if_pos hl]; exact Iff.rfl
theorem X_pop0 {xs : List D} {d : D} (h : st[r]? = some (.lst (xs ++ [d]))) : Wd (methD .pop0 (.ref r) [] st) P ↔ P d (st.set r (.lst xs)) := by
  unfold methD; simp only [h]
  have : (xs ++ [d])[(xs ++ [d]).length - 1]? = some d := by simp
  rw [this]; simp only [List.dropLast_concat]; exact Iff.rfl
theorem X_popF {xs : List D} {d : D} (h : st[r]? = some (.lst (d :: xs))) : Wd (methD .popAt (.ref r) [.int 0] st) P ↔ P d (st.set r (.lst xs)) := by
  unfold methD; simp only [h]
  have e : seqIndex? 0 (d :: xs).length = some 0 := by unfold seqIndex?; simp
  rw [e]; exact Iff.rfl
theorem X_insF {xs : List D} {d : D} (h : st[r]? = some (.lst xs)) (hl : xs.length < sizeLine) : Wd (methD .insert (.ref r) [.int 0, d] st) P ↔ P .non (st.set r (.lst (d :: xs))) := by
  unfold methD; simp only [h]
  rw [if_pos (by simp [hl])]
  exact Iff.rfl
theorem X_extend {xs ys : List D} {q : Nat} (h : st[r]? = some (.lst xs)) (h2 : st[q]? = some (.lst ys)) (hl : xs.length + ys.length ≤ sizeLine) : Wd (methD .extend (.ref r) [.ref q] st) P ↔ P .non (st.set r (.lst (xs ++ ys))) := by
  unfold methD; simp only [h, h2, if_pos hl]; exact Iff.rfl
theorem C_lt : cmpD .lt (.int i) (.int j) st = some (decide (i < j)) := rfl
theorem C_le : cmpD .le (.int i) (.int j) st = some (decide (i ≤ j)) := rfl
theorem C_gt : cmpD .gt (.int i) (.int j) st = some (decide (j < i)) := rfl
theorem C_ge : cmpD .ge (.int i) (.int j) st = some (decide (j ≤ i)) := rfl
theorem C_eqI : cmpD .eq (.int i) (.int j) st = some (decide (i = j)) := rfl
theorem C_neI : cmpD .ne (.int i) (.int j) st = some (!decide (i = j)) := rfl
theorem C_eqS : cmpD .eq (.str x) (.str y) st = some (decide (x = y)) := rfl
theorem C_neS : cmpD .ne (.str x) (.str y) st = some (!decide (x = y)) := rfl
theorem C_rep {p q : PyData} (h : same p q = true) : cmpD .eq (.rep p) (.rep q) st = some true ∧ cmpD .ne (.rep p) (.rep q) st = some false := by
  constructor
  · show eqD st (.rep p) (.rep q) = _
    unfold eqD; simp only [h, if_true]
  · show (eqD st (.rep p) (.rep q)).map _ = _
    unfold eqD; simp only [h, if_true]; rfl
theorem toPys_ints {n : Nat} : ∀ ns : List Int, optMap (toPy st n) (ns.map D.int) = some (ns.map PyData.int)
  | [] => rfl
  | k :: ns => by rw [List.map_cons, optMap, toPys_ints ns]; cases n <;> rfl
theorem lay_ints : ∀ ns : List Int, PyData.canLayAll0 (ns.map PyData.int) = true
  | [] => rfl
  | k :: ns => by rw [List.map_cons, PyData.canLayAll0, lay_ints ns]; rfl
/-- a list of ints against the empty list -/
theorem C_neNil {ns : List Int} {q : Nat} (h : st[r]? = some (.lst (ns.map .int))) (h2 : st[q]? = some (.lst [])) : cmpD .ne (.ref r) (.ref q) st = some (!ns.isEmpty) := by
  show (eqD st (.ref r) (.ref q)).map _ = _
  have e1 : toPy st 60 (.ref r) = some (.list (ns.map .int)) := by rw [toPy, h]; simp only [toPys_ints, Option.map_some]
  have e2 : toPy st 60 (.ref q) = some (.list []) := by rw [toPy, h2]; rfl
  unfold eqD; simp only [e1, e2]
  have l1 : (PyData.list (ns.map .int)).canLay0 = true := by rw [PyData.canLay0]; exact lay_ints ns
  have l2 : (PyData.list []).canLay0 = true := rfl
  rw [l1, l2]
  cases ns with
  | nil => rfl
  | cons k ns => rfl
theorem get_app {o : Ob} {l : Sto} (h : st[r]? = some o) : (st ++ l)[r]? = some o := by
  rw [List.getElem?_append_left (List.getElem?_eq_some_iff.mp h).1]; exact h
theorem get_new {o : Ob} {l : Sto} : (st ++ o :: l)[st.length]? = some o := by
  rw [List.getElem?_append_right (Nat.le_refl _)]; simp
theorem get_set_self {o o' : Ob} (h : st[r]? = some o) : (st.set r o')[r]? = some o' := List.getElem?_set_self (List.getElem?_eq_some_iff.mp h).1
theorem get_set_ne {o o' : Ob} {q : Nat} (hn : q ≠ r) (h : st[r]? = some o) : (st.set q o')[r]? = some o := by rw [List.getElem?_set_ne hn]; exact h
end
end PL

set_option Elab.async false
set_option linter.all false
set_option maxRecDepth 100000
set_option maxHeartbeats 4000000
/-! PLV: books, as twelve words. -/
namespace PL
open PySem

def dom (i : Nat) : List Str := match i with
  | 0 => ["none", "perhaps", "sure"] | 1 => ["none", "perhaps", "sure"] | 2 => ["marked", "unraised", "never"] | 3 => ["answer", "check", "work"] | 4 => ["answer", "check", "work"] | 5 => ["values", "mark"] | 6 => ["none", "sure"]
  | 7 => ["first", "last", "between"] | 8 => ["ahead", "behind", "unless"] | 9 => ["ahead", "behind"] | 10 => ["struck", "kept"] | _ => ["one", "any"]
def bk (w : Nat → Str) : D := .tup [.str (w 0), .str (w 1), .str (w 2), .str (w 3), .str (w 4), .str (w 5), .str (w 6), .str (w 7), .str (w 8), .str (w 9), .str (w 10), .str (w 11)]
def pb (w : Nat → Str) : PyData := .tuple [.str (w 0), .str (w 1), .str (w 2), .str (w 3), .str (w 4), .str (w 5), .str (w 6), .str (w 7), .str (w 8), .str (w 9), .str (w 10), .str (w 11)]
def Gd (w : Nat → Str) : Prop := ∀ i, w i ∈ dom i
theorem Gd.set {w : Nat → Str} (h : Gd w) {i : Nat} {x : Str} (hx : x ∈ dom i) : Gd (setW w i x) := by
  intro j; unfold setW; split
  · rename_i e; rw [e]; exact hx
  · exact h j
theorem dom_out : ∀ {i : Nat}, 12 ≤ i → dom i = (["one", "any"] : List Str)
  | 0, h => by omega | 1, h => by omega | 2, h => by omega | 3, h => by omega | 4, h => by omega | 5, h => by omega | 6, h => by omega | 7, h => by omega | 8, h => by omega | 9, h => by omega | 10, h => by omega
  | _ + 11, _ => rfl
def domB (p : Str → Bool) : Bool := (List.range 12).all fun i => (dom i).all p
theorem domB_of {p : Str → Bool} (h : domB p = true) {i : Nat} {x : Str} (hx : x ∈ dom i) : p x = true := by
  unfold domB at h
  rw [List.all_eq_true] at h
  by_cases hi : i < 12
  · have := h i (List.mem_range.mpr hi)
    rw [List.all_eq_true] at this
    exact this x hx
  · rw [dom_out (by omega)] at hx
    have := h 11 (by simp)
    rw [List.all_eq_true] at this
    exact this x hx
theorem dom_ok : domB (fun x => PyData.canLay0 (.str x) && decide (x.length ≤ 8)) = true := by decide +kernel
theorem Gd.ok {w : Nat → Str} (h : Gd w) (i : Nat) : PyData.canLay0 (.str (w i)) = true ∧ (w i).length ≤ 8 := by
  have := domB_of dom_ok (h i)
  simpa only [Bool.and_eq_true, decide_eq_true_eq] using this
theorem grd_bk {w : Nat → Str} : ground (bk w) = true := rfl
theorem same_bk {w : Nat → Str} : same (pb w) (pb w) = true := by simp [pb, same, sameAll]
theorem toPy_bk {w : Nat → Str} {st : Sto} : toPy st 60 (bk w) = some (pb w) := rfl
theorem repr_bk {w : Nat → Str} (h : Gd w) {st : Sto} : bltD .repr [bk w] st = .ok (.rep (pb w)) st := by
  unfold bltD
  simp only [toPy_bk]
  have l : (pb w).canLay0 = true := by
    unfold pb
    simp only [PyData.canLay0, PyData.canLayAll0, Bool.and_eq_true, Bool.and_true]
    have o := fun i => by have := (h.ok i).1; rw [PyData.canLay0] at this; exact this
    exact ⟨o 0, o 1, o 2, o 3, o 4, o 5, o 6, o 7, o 8, o 9, o 10, o 11⟩
  have s : (pb w).showable = true := rfl
  have c : showCost (pb w) ≤ sizeLine := by
    unfold pb
    simp only [showCost, showCost.costAll]
    have o := fun i => (h.ok i).2
    have := o 0; have := o 1; have := o 2; have := o 3; have := o 4; have := o 5; have := o 6; have := o 7; have := o 8; have := o 9; have := o 10; have := o 11
    have : 2000 ≤ sizeLine := by decide
    omega
  rw [l, s, if_pos (by simp [c])]
/-- a book of a list of words -/
def wOf (ws : List Str) (i : Nat) : Str := match ws[i]? with | some x => x | none => "one"
theorem wOf_gd {ws : List Str} (hl : ws.length = 12) (h : ∀ i x, ws[i]? = some x → x ∈ dom i) : Gd (wOf ws) := by
  intro i; unfold wOf; split
  · rename_i e; exact h i _ e
  · rename_i e
    have : 12 ≤ i := by rw [← hl]; exact List.getElem?_eq_none_iff.mp e
    rw [dom_out this]; simp
theorem bk_wOf {ws : List Str} (hl : ws.length = 12) : D.tup (ws.map .str) = bk (wOf ws) := by
  match ws, hl with
  | [a, b, c, d, e, f, g, h, i, j, k, l], _ => rfl
theorem bk_at {w : Nat → Str} {i : Nat} (hi : i < 12) : L2.atI [D.str (w 0), .str (w 1), .str (w 2), .str (w 3), .str (w 4), .str (w 5), .str (w 6), .str (w 7), .str (w 8), .str (w 9), .str (w 10), .str (w 11)] (i : Int) = some (.str (w i)) := by
  match i, hi with
  | 0, _ => rfl | 1, _ => rfl | 2, _ => rfl | 3, _ => rfl | 4, _ => rfl | 5, _ => rfl | 6, _ => rfl | 7, _ => rfl | 8, _ => rfl | 9, _ => rfl | 10, _ => rfl | 11, _ => rfl
  | n + 12, h => omega
/-- by pure defs -/
theorem W_pure {Pf : List Fn} {G : List D} {C : Nat → Option (List D → Sto → Res D)} {n f : Nat} {ds : List D} {st st' : Sto} {d : D} {P : D → Sto → Prop} {m : List D → Sto → Res D} (hC : C f = some (pureC m)) (h : m ds [] = .ok d st') (hg : grounds ds = true) (hd : ground d = true) (k : P d st) :
    Wd (runC Pf G C n f ds st) P := W_con hC (by rw [pureC_ok hg h hd]; exact k)
end PL

set_option Elab.async false
set_option linter.all false
set_option maxRecDepth 100000
set_option maxHeartbeats 4000000
/-! SXA: a symbolic runner over the small language: definitions. -/
namespace PL
open PySem L2

/-- patterns of data behind repr and == -/
inductive PX where
  | c (d : D) | v (i : Nat) | one (ds : List D) | int (lo hi : Option Int) | tup (xs : List PX) | lst (xs : List PX)
/-- symbolic values -/
inductive SV where
  | c (d : D) | v (i : Nat) | one (ds : List D) | int (lo hi : Option Int) | tup (xs : List SV) | tupOf (lo hi : Nat) (x : SV)
  | lst (xs : List SV) | lstOf (lo hi : Nat) (x : SV) | own (k : Nat) | un (xs : List SV) | rep (x : PX) | bag | pr (p : Nat) | any
inductive AO where
  | lst (xs : List SV) | lstOf (lo hi : Nat) (x : SV) | dct (kvs : List (Key × SV)) | gone
structure SS where
  env : List (Option SV)
  heap : List AO
  doms : List SV
  lim : Nat
/-- how a def is gone through -/
structure Md where
  nm : Bool  -- what is read by its name is named
  ji : Bool  -- ways are joined behind an if
  jt : Bool  -- ways are joined behind a turn
  xl : Bool  -- lists of open length are told apart by their lengths
  fi : Bool  -- a long loop is gone through once, by what stays
  jl : Bool  -- ways are joined behind a comprehension's turn

def natsB : List Nat → List Nat → Bool
  | [], [] => true
  | a :: l, b :: r => match Nat.beq a b with
    | true => natsB l r
    | false => false
  | _, _ => false
def strB (x y : Str) : Bool := natsB x.cps.toList y.cps.toList
def deq : D → D → Bool
  | .non, .non => true
  | .bl a, .bl b => a == b
  | .int a, .int b => decide (a = b)
  | .str a, .str b => strB a b
  | _, _ => false
def scal : D → Bool
  | .non => true | .bl _ => true | .int _ => true | .str _ => true | _ => false
def layS : D → Bool
  | .non => true | .bl _ => true | .int _ => true | .str x => (PyData.str x).canLay0 | _ => false

section
variable {α β : Type}
def goM (f : α → SS → Option (List (β × SS))) : List (α × SS) → Option (List (β × SS))
  | [] => some []
  | (a, s) :: r => match f a s with
    | none => none
    | some x => match goM f r with
      | none => none
      | some y => some (x ++ y)
def bindM (m : Option (List (α × SS))) (f : α → SS → Option (List (β × SS))) : Option (List (β × SS)) := match m with
  | none => none
  | some l => goM f l
end

def SS.setD (s : SS) (i : Nat) (x : SV) : SS := { s with doms := s.doms.set i x }
def SS.setE (s : SS) (i : Nat) (x : SV) : SS := { s with env := s.env.set i (some x) }
def SS.setH (s : SS) (k : Nat) (x : AO) : SS := { s with heap := s.heap.set k x }
def mk1 : List D → SV
  | [d] => .c d
  | ds => .one ds
/-- what a value looks like -/
def sh (s : SS) : SV → SV
  | .v i => match s.doms[i]? with
    | some x => x
    | none => .any
  | x => x
mutual
def constOf (s : SS) : SV → Option D
  | .c d => some d
  | .v i => match s.doms[i]? with
    | some (.c d) => some d
    | _ => none
  | .tup xs => match constsOf s xs with
    | some ds => some (.tup ds)
    | none => none
  | _ => none
def constsOf (s : SS) : List SV → Option (List D)
  | [] => some []
  | x :: xs => match constOf s x with
    | none => none
    | some d => match constsOf s xs with
      | none => none
      | some ds => some (d :: ds)
end
mutual
def ofD : D → Option SV
  | .tup ds => match ofDs ds with
    | some xs => some (.tup xs)
    | none => none
  | .non => some (.c .non)
  | .bl b => some (.c (.bl b))
  | .int i => some (.c (.int i))
  | .str x => some (.c (.str x))
  | _ => none
def ofDs : List D → Option (List SV)
  | [] => some []
  | d :: ds => match ofD d with
    | none => none
    | some x => match ofDs ds with
      | none => none
      | some xs => some (x :: xs)
end
/-- what comes of an operation on what is known -/
def resD (r : Res D) (s : SS) : Option (List (SV × SS)) := match r with
  | .ok d [] => match ofD d with
    | some x => some [(x, s)]
    | none => none
  | _ => none

/-! ### cases -/
/-- the finitely many values of a scalar -/
def fin (s : SS) (x : SV) : Option (List D) := match sh s x with
  | .c d => some [d]
  | .one ds => some ds
  | _ => none
/-- each of them, with what is known then -/
def cases1 (s : SS) : SV → Option (List (D × SS))
  | .v i => match s.doms[i]? with
    | some (.c d) => some [(d, s)]
    | some (.one ds) => some (ds.map fun d => (d, s.setD i (.c d)))
    | some (.int (some a) (some b)) => if b - a ≤ 63 then some ((List.range (b - a + 1).toNat).map fun (j : Nat) => (.int (a + (j : Int)), s.setD i (.c (.int (a + (j : Int)))))) else none
    | _ => none
  | .c d => some [(d, s)]
  | .one ds => some (ds.map fun d => (d, s))
  | _ => none
def isV (s : SS) : SV → Bool
  | .v i => match s.doms[i]? with
    | some (.one _) => true
    | _ => false
  | _ => false
def rngs : List D → Option (Int × Int)
  | [.int n] => some (n, n)
  | .int n :: r => match rngs r with
    | some (lo, hi) => some (if n < lo then n else lo, if hi < n then n else hi)
    | none => none
  | _ => none
def rng1 : SV → Option (Option Int × Option Int)
  | .c (.int n) => some (some n, some n)
  | .int lo hi => some (lo, hi)
  | .one ds => match rngs ds with
    | some (lo, hi) => some (some lo, some hi)
    | none => none
  | _ => none
def rng (s : SS) (x : SV) : Option (Option Int × Option Int) := rng1 (sh s x)
/-- a function of one scalar, of two -/
def lift1 (f : D → Option D) (s : SS) (x : SV) : Option (List (SV × SS)) := match x with
  | .one ds => match optMap f ds with
    | some es => some [(mk1 es, s)]
    | none => none
  | x => bindM (cases1 s x) fun d s1 => match f d with
    | some e => some [(.c e, s1)]
    | none => none
def lift2 (f : D → D → Option D) (s : SS) (x y : SV) : Option (List (SV × SS)) := match x, isV s y with
  | .one ds, false => match fin s y with
    | some es => match optMap (fun (de : D × D) => f de.1 de.2) (ds.flatMap fun d => es.map fun e => (d, e)) with
      | some rs => some [(mk1 rs, s)]
      | none => none
    | none => none
  | x, _ => bindM (cases1 s x) fun d s1 => lift1 (f d) s1 y

/-! ### lists, tuples -/
inductive LC where
  | ex (xs : List SV) | of (lo hi : Nat) (x : SV)
def lcOf (s : SS) (x : SV) : Option LC := match sh s x with
  | .lst xs => some (.ex xs)
  | .lstOf lo hi x => some (.of lo hi x)
  | .own k => match s.heap[k]? with
    | some (.lst xs) => some (.ex xs)
    | some (.lstOf lo hi x) => some (.of lo hi x)
    | _ => none
  | _ => none
def tcOf (s : SS) (x : SV) : Option LC := match sh s x with
  | .tup xs => some (.ex xs)
  | .tupOf lo hi x => some (.of lo hi x)
  | _ => none
def LC.most : LC → Nat
  | .ex xs => xs.length
  | .of _ hi _ => hi
def LC.least : LC → Nat
  | .ex xs => xs.length
  | .of lo _ _ => lo
def LC.ao : LC → AO
  | .ex xs => .lst xs
  | .of lo hi x => .lstOf lo hi x
def LC.tv : LC → SV
  | .ex xs => .tup xs
  | .of lo hi x => .tupOf lo hi x
def LC.lenV : LC → SV
  | .ex xs => .c (.int xs.length)
  | .of lo hi _ => if lo = hi then .c (.int lo) else .int (some (lo : Int)) (some (hi : Int))
def alloc (s : SS) (o : AO) : SV × SS := (.own s.heap.length, { s with heap := s.heap ++ [o] })

/-! ### joining: proposals -/
mutual
def seqV : SV → SV → Bool
  | .c d, .c e => deq d e
  | .v i, .v j => decide (i = j)
  | .one a, .one b => deqs a b
  | .int a b, .int c d => decide (a = c) && decide (b = d)
  | .tup a, .tup b => seqVs a b
  | .tupOf a b x, .tupOf c d y => decide (a = c) && (decide (b = d) && seqV x y)
  | .lst a, .lst b => seqVs a b
  | .lstOf a b x, .lstOf c d y => decide (a = c) && (decide (b = d) && seqV x y)
  | .own i, .own j => decide (i = j)
  | .un a, .un b => seqVs a b
  | .bag, .bag => true
  | .pr i, .pr j => decide (i = j)
  | .any, .any => true
  | _, _ => false
def seqVs : List SV → List SV → Bool
  | [], [] => true
  | a :: l, b :: r => seqV a b && seqVs l r
  | _, _ => false
def deqs : List D → List D → Bool
  | [], [] => true
  | a :: l, b :: r => deq a b && deqs l r
  | _, _ => false
end
def finV : SV → Option (List D)
  | .c d => some [d]
  | .one ds => some ds
  | _ => none
def hull (a b : Option Int × Option Int) : SV :=
  .int (match a.1, b.1 with | some x, some y => some (if y < x then y else x) | _, _ => none) (match a.2, b.2 with | some x, some y => some (if x < y then y else x) | _, _ => none)
def isInts : List D → Bool
  | [] => true
  | .int _ :: r => isInts r
  | _ => false
def addDs (a : List D) : List D → List D
  | [] => a
  | d :: r => addDs (if a.any (deq d) then a else a ++ [d]) r
def headStr : List SV → Option Str
  | .c (.str x) :: _ => some x
  | _ => none
def unlikeHeads (a b : List SV) : Bool := match headStr a, headStr b with
  | some x, some y => !strB x y
  | none, none => false
  | _, _ => true
def kindV : SV → Nat
  | .c (.str _) => 1 | .c (.int _) => 2 | .c .non => 3 | .c (.bl _) => 4 | .c _ => 9 | .one (.str _ :: _) => 1 | .one (.int _ :: _) => 2 | .one _ => 3
  | .int _ _ => 2 | .tup _ => 5 | .tupOf _ _ _ => 5 | .lst _ => 6 | .lstOf _ _ _ => 6 | _ => 9
mutual
def jnV : Nat → SV → SV → SV
  | 0, _, _ => .any
  | n + 1, x, y => if seqV x y then x else match finV x, finV y with
    | some a, some b =>
      let r := addDs a b
      if r.length ≤ 24 then mk1 r else match rng1 x, rng1 y with
        | some p, some q => hull p q
        | _, _ => mk1 r
    | _, _ => match rng1 x, rng1 y with
      | some p, some q => hull p q
      | _, _ => match x, y with
        | .un a, .un b => .un (jnUs n a b)
        | .un a, y => .un (jnU n a y)
        | x, .un b => .un (jnU n b x)
        | .tup a, .tup b => if a.length = b.length then (if unlikeHeads a b then .un [x, y] else .tup (jnVs n a b)) else if unlikeHeads a b || (a.isEmpty || b.isEmpty) then .un [x, y] else .tupOf (min a.length b.length) (max a.length b.length) (jnAll n (a ++ b))
        | .tup a, .tupOf lo hi z => .tupOf (min a.length lo) (max a.length hi) (jnAll n (z :: a))
        | .tupOf lo hi z, .tup b => .tupOf (min b.length lo) (max b.length hi) (jnAll n (z :: b))
        | .tupOf lo hi z, .tupOf lo' hi' z' => .tupOf (min lo lo') (max hi hi') (jnV n z z')
        | .lst a, .lst b => if a.length = b.length then .lst (jnVs n a b) else .lstOf (min a.length b.length) (max a.length b.length) (jnAll n (a ++ b))
        | .lst a, .lstOf lo hi z => .lstOf (min a.length lo) (max a.length hi) (jnAll n (z :: a))
        | .lstOf lo hi z, .lst b => .lstOf (min b.length lo) (max b.length hi) (jnAll n (z :: b))
        | .lstOf lo hi z, .lstOf lo' hi' z' => .lstOf (min lo lo') (max hi hi') (jnV n z z')
        | x, y => .un [x, y]
def jnVs : Nat → List SV → List SV → List SV
  | 0, _, _ => []
  | n + 1, a :: l, b :: r => jnV n a b :: jnVs n l r
  | _, _, _ => []
def jnAll : Nat → List SV → SV
  | 0, _ => .any
  | _, [] => .un []
  | _, [x] => x
  | n + 1, x :: y :: r => jnAll n (jnV n x y :: r)
def jnU : Nat → List SV → SV → List SV
  | 0, a, y => a ++ [y]
  | _, [], y => [y]
  | n + 1, x :: a, y => if kindV x = kindV y && (match x, y with | .tup p, .tup q => !unlikeHeads p q && (p.length = q.length || !(p.isEmpty || q.isEmpty)) | _, _ => kindV x < 9) then jnV n x y :: a else x :: jnU n a y
def jnUs : Nat → List SV → List SV → List SV
  | 0, a, b => a ++ b
  | _, a, [] => a
  | n + 1, a, y :: b => jnUs n (jnU n a y) b
end
def fuelJ : Nat := 400
def jnO (x y : AO) : AO := match x, y with
  | .lst a, .lst b => if a.length = b.length then .lst (jnVs fuelJ a b) else .lstOf (min a.length b.length) (max a.length b.length) (jnAll fuelJ (a ++ b))
  | .lst a, .lstOf lo hi z => .lstOf (min a.length lo) (max a.length hi) (jnAll fuelJ (z :: a))
  | .lstOf lo hi z, .lst b => .lstOf (min b.length lo) (max b.length hi) (jnAll fuelJ (z :: b))
  | .lstOf lo hi z, .lstOf lo' hi' z' => .lstOf (min lo lo') (max hi hi') (jnV fuelJ z z')
  | .dct a, .dct b => if a.length = b.length then .dct ((a.zip b).map fun p => (p.1.1, jnV fuelJ p.1.2 p.2.2)) else .gone
  | _, _ => .gone
mutual
def inR (n m : Nat) : SV → Bool
  | .v i => decide (i < n)
  | .own k => decide (k < m)
  | .tup xs => inRs n m xs
  | .tupOf _ _ x => inR n m x
  | .lst xs => inRs n m xs
  | .lstOf _ _ x => inR n m x
  | .un xs => inRs n m xs
  | .rep x => inQ n x
  | _ => true
def inRs (n m : Nat) : List SV → Bool
  | [] => true
  | x :: xs => inR n m x && inRs n m xs
def inQ (n : Nat) : PX → Bool
  | .v i => decide (i < n)
  | .tup xs => inQs n xs
  | .lst xs => inQs n xs
  | _ => true
def inQs (n : Nat) : List PX → Bool
  | [] => true
  | x :: xs => inQ n x && inQs n xs
end
mutual
def trV (n0 m : Nat) (s : SS) : Nat → SV → Option SV
  | 0, _ => none
  | _, .v i => if i < n0 then some (.v i) else s.doms[i]?
  | n + 1, .own k => if k < m then some (.own k) else match s.heap[k]? with
    | some (.lst xs) => match trVs n0 m s n xs with
      | some ys => some (.lst ys)
      | none => none
    | some (.lstOf lo hi x) => match trV n0 m s n x with
      | some y => some (.lstOf lo hi y)
      | none => none
    | _ => none
  | n + 1, .tup xs => match trVs n0 m s n xs with
    | some ys => some (.tup ys)
    | none => none
  | n + 1, .tupOf lo hi x => match trV n0 m s n x with
    | some y => some (.tupOf lo hi y)
    | none => none
  | n + 1, .lst xs => match trVs n0 m s n xs with
    | some ys => some (.lst ys)
    | none => none
  | n + 1, .lstOf lo hi x => match trV n0 m s n x with
    | some y => some (.lstOf lo hi y)
    | none => none
  | n + 1, .un xs => match trVs n0 m s n xs with
    | some ys => some (.un ys)
    | none => none
  | _, .rep p => if inQ n0 p then some (.rep p) else none
  | _, x => some x
def trVs (n0 m : Nat) (s : SS) : Nat → List SV → Option (List SV)
  | 0, _ => none
  | _, [] => some []
  | n + 1, x :: xs => match trV n0 m s n x, trVs n0 m s n xs with
    | some y, some ys => some (y :: ys)
    | _, _ => none
end
def fuelV : Nat := 400
def trO (n0 m : Nat) (s : SS) : AO → AO
  | .lst xs => match trVs n0 m s fuelV xs with
    | some ys => .lst ys
    | none => .gone
  | .lstOf lo hi x => match trV n0 m s fuelV x with
    | some y => .lstOf lo hi y
    | none => .gone
  | .dct kvs => match trVs n0 m s fuelV (kvs.map (·.2)) with
    | some ys => .dct ((kvs.map (·.1)).zip ys)
    | none => .gone
  | .gone => .gone
/-- what of a state is kept: names up to n0, objects up to m, those behind only to be read -/
def trS (n0 m : Nat) (s : SS) : SS :=
  { env := s.env.map fun o => match o with
      | some x => trV n0 m s fuelV x
      | none => none
    heap := (s.heap.take m).map (trO n0 m s)
    doms := s.doms.take n0
    lim := s.lim }
def jnS (a b : SS) : SS :=
  { env := (a.env.zip b.env).map fun p => match p.1, p.2 with
      | some x, some y => some (jnV fuelJ x y)
      | _, _ => none
    heap := (a.heap.zip b.heap).map fun p => jnO p.1 p.2
    doms := (a.doms.zip b.doms).map fun p => jnV fuelJ p.1 p.2
    lim := min a.lim b.lim }

/-! ### less or equal: checked -/
def memD (d : D) (ds : List D) : Bool := ds.any (deq d)
def ltO (a b : Option Int) : Bool := match a, b with
  | _, none => true
  | some x, some y => decide (y ≤ x)
  | none, some _ => false
def gtO (a b : Option Int) : Bool := match a, b with
  | _, none => true
  | some x, some y => decide (x ≤ y)
  | none, some _ => false
mutual
def le (s : SS) : Nat → SV → SV → Bool
  | 0, _, _ => false
  | _, _, .any => true
  | n + 1, .v i, .v j => decide (i = j)
  | n + 1, .v i, y => match s.doms[i]? with
    | some (.v _) => false
    | some x => le s n x y
    | none => false
  | n + 1, .un xs, y => leU s n xs y
  | n + 1, x, .un ys => leA s n x ys
  | n + 1, .c d, .c e => deq d e
  | n + 1, .c d, .one es => memD d es
  | n + 1, .c (.int i), .int lo hi => ltO (some i) lo && gtO (some i) hi
  | n + 1, .one ds, .one es => ds.all fun d => memD d es
  | n + 1, .one ds, .int lo hi => ds.all fun d => match d with | .int i => ltO (some i) lo && gtO (some i) hi | _ => false
  | n + 1, .int a b, .int lo hi => ltO a lo && gtO b hi
  | n + 1, .tup xs, .tup ys => leP s n xs ys
  | n + 1, .tup xs, .tupOf lo hi y => (decide (lo ≤ xs.length) && decide (xs.length ≤ hi)) && leU s n xs y
  | n + 1, .tupOf a b x, .tupOf lo hi y => (decide (lo ≤ a) && decide (b ≤ hi)) && le s n x y
  | n + 1, .lst xs, .lst ys => leP s n xs ys
  | n + 1, .lst xs, .lstOf lo hi y => (decide (lo ≤ xs.length) && decide (xs.length ≤ hi)) && leU s n xs y
  | n + 1, .lstOf a b x, .lstOf lo hi y => (decide (lo ≤ a) && decide (b ≤ hi)) && le s n x y
  | n + 1, .own i, .own j => decide (i = j)
  | n + 1, .bag, .bag => true
  | n + 1, .pr i, .pr j => decide (i = j)
  | _, _, _ => false
def leU (s : SS) : Nat → List SV → SV → Bool
  | 0, _, _ => false
  | _, [], _ => true
  | n + 1, x :: xs, y => le s n x y && leU s n xs y
def leA (s : SS) : Nat → SV → List SV → Bool
  | 0, _, _ => false
  | _, _, [] => false
  | n + 1, x, y :: ys => le s n x y || leA s n x ys
def leP (s : SS) : Nat → List SV → List SV → Bool
  | 0, _, _ => false
  | _, [], [] => true
  | n + 1, x :: xs, y :: ys => le s n x y && leP s n xs ys
  | _, _, _ => false
end
def fuelL : Nat := 400
def leO (s : SS) : AO → AO → Bool
  | _, .gone => true
  | .lst xs, .lst ys => leP s fuelL xs ys
  | .lst xs, .lstOf lo hi y => (decide (lo ≤ xs.length) && decide (xs.length ≤ hi)) && leU s fuelL xs y
  | .lstOf a b x, .lstOf lo hi y => (decide (lo ≤ a) && decide (b ≤ hi)) && le s fuelL x y
  | .dct a, .dct b => decide (a.map (·.1) = b.map (·.1)) && leP s fuelL (a.map (·.2)) (b.map (·.2))
  | _, _ => false
def inO (n m : Nat) : AO → Bool
  | .lst xs => inRs n m xs
  | .lstOf _ _ x => inR n m x
  | .dct kvs => inRs n m (kvs.map (·.2))
  | .gone => true
def leEnv (s : SS) (n m : Nat) : List (Option SV) → List (Option SV) → Bool
  | [], [] => true
  | _ :: r, none :: l => leEnv s n m r l
  | some x :: r, some y :: l => (le s fuelL x y && inR n m y) && leEnv s n m r l
  | _, _ => false
def leHeap (s : SS) (n m : Nat) : List AO → List AO → Bool
  | _, [] => true
  | x :: r, y :: l => (leO s x y && inO n m y) && leHeap s n m r l
  | [], _ :: _ => false
def leDoms (s : SS) : List SV → List SV → Bool
  | _, [] => true
  | x :: r, y :: l => (le s fuelL x y && inR 0 0 y) && leDoms s r l
  | [], _ :: _ => false
def leS (n0 m0 : Nat) (s t : SS) : Bool :=
  (decide (n0 ≤ t.doms.length) && decide (m0 ≤ t.heap.length)) && (leEnv s t.doms.length t.heap.length s.env t.env && (leHeap s t.doms.length t.heap.length s.heap t.heap && (leDoms s s.doms t.doms && decide (t.lim ≤ s.lim))))
end PL

set_option Elab.async false
set_option linter.all false
set_option maxRecDepth 100000
set_option maxHeartbeats 4000000
/-! SXB: a symbolic runner: operations. -/
namespace PL
open PySem L2

abbrev Outs (α : Type) := Option (List (α × SS))
def ret1 {α : Type} (x : α) (s : SS) : Outs α := some [(x, s)]
def bT : SV := .c (.bl true)
def bF : SV := .c (.bl false)
def bU : SV := .one [.bl true, .bl false]
def bV (b : Bool) : SV := .c (.bl b)

/-! ### data behind repr and == -/
def laysAll : List D → Bool
  | [] => true
  | d :: r => layS d && laysAll r
mutual
def pyOf (s : SS) : Nat → SV → Option PX
  | 0, _ => none
  | _, .c d => if layS d then some (.c d) else none
  | _, .v i => match s.doms[i]? with
    | some (.c d) => if layS d then some (.c d) else none
    | some (.one ds) => if laysAll ds then some (.v i) else none
    | some (.int _ _) => some (.v i)
    | some (.pr p) => if p < 1000 then some (.v i) else none
    | _ => none
  | _, .one ds => if laysAll ds then some (.one ds) else none
  | _, .int lo hi => some (.int lo hi)
  | n + 1, .tup xs => match pysOf s n xs with
    | some ps => some (.tup ps)
    | none => none
  | n + 1, .lst xs => match pysOf s n xs with
    | some ps => some (.lst ps)
    | none => none
  | n + 1, .own k => match s.heap[k]? with
    | some (.lst xs) => match pysOf s n xs with
      | some ps => some (.lst ps)
      | none => none
    | _ => none
  | _, _ => none
def pysOf (s : SS) : Nat → List SV → Option (List PX)
  | 0, _ => none
  | _, [] => some []
  | n + 1, x :: xs => match pyOf s n x with
    | none => none
    | some p => match pysOf s n xs with
      | none => none
      | some ps => some (p :: ps)
end
def scP : PX → Option SV
  | .c d => some (.c d)
  | .v i => some (.v i)
  | .one ds => some (.one ds)
  | .int lo hi => some (.int lo hi)
  | _ => none
mutual
/-- texts repr(..) that are alike for sure -/
def sameP (s : SS) : PX → PX → Bool
  | .c d, .c e => deq d e
  | .v i, .v j => decide (i = j)
  | .v i, .c e => match s.doms[i]? with
    | some (.c d) => deq d e
    | _ => false
  | .c e, .v i => match s.doms[i]? with
    | some (.c d) => deq d e
    | _ => false
  | .tup a, .tup b => samePs s a b
  | .lst a, .lst b => samePs s a b
  | _, _ => false
def samePs (s : SS) : List PX → List PX → Bool
  | [], [] => true
  | a :: l, b :: r => sameP s a b && samePs s l r
  | _, _ => false
end
def bigO (lo hi : Option Int) : Option Nat := match lo, hi with
  | some a, some b => if decide (a.natAbs.log2 < 1900) && decide (b.natAbs.log2 < 1900) then some (a.natAbs.log2 + b.natAbs.log2 + 4) else none
  | _, _ => none
def costD : D → Option Nat
  | .non => some 4
  | .bl _ => some 5
  | .int i => if i.natAbs.log2 < 1900 then some (i.natAbs.log2 + 2) else none
  | .str x => some (10 * x.length + 2)
  | _ => none
def costsD : List D → Option Nat
  | [] => some 0
  | d :: r => match costD d, costsD r with
    | some a, some b => some (max a b)
    | _, _ => none
mutual
/-- an upper bound of the length of repr; none: it may not be shown -/
def costP (s : SS) : PX → Option Nat
  | .c d => costD d
  | .v i => match s.doms[i]? with
    | some (.c d) => costD d
    | some (.one ds) => costsD ds
    | some (.int lo hi) => bigO lo hi
    | some (.pr p) => if p < 1000 then some 200 else none
    | _ => none
  | .one ds => costsD ds
  | .int lo hi => bigO lo hi
  | .tup xs => match costsP s xs with
    | some n => some (n + 3)
    | none => none
  | .lst xs => match costsP s xs with
    | some n => some (n + 2)
    | none => none
def costsP (s : SS) : List PX → Option Nat
  | [] => some 0
  | x :: xs => match costP s x, costsP s xs with
    | some a, some b => some (a + 2 + b)
    | _, _ => none
end

/-! ### comparisons -/
/-- the values of a variable told apart by what is asked of them -/
def sift (f : D → Option Bool) : List D → Option (List D × List D)
  | [] => some ([], [])
  | d :: r => match f d with
    | none => none
    | some b => match sift f r with
      | none => none
      | some (ts, fs) => match b with
        | true => some (d :: ts, fs)
        | false => some (ts, d :: fs)
def part (s : SS) (i : Nat) (ds : List D) (f : D → Option Bool) : Outs Bool := match sift f ds with
  | none => none
  | some ([], _) => ret1 false s
  | some (_, []) => ret1 true s
  | some (ts, fs) => some [(true, s.setD i (mk1 ts)), (false, s.setD i (mk1 fs))]
/-- what is asked of a scalar of finitely many values; none: both may be -/
def ask1 (s : SS) (x : SV) (f : D → Option Bool) : Outs Bool := match x with
  | .v i => match s.doms[i]? with
    | some (.c d) => match f d with
      | some b => ret1 b s
      | none => none
    | some (.one ds) => part s i ds f
    | _ => none
  | .c d => match f d with
    | some b => ret1 b s
    | none => none
  | .one ds => match sift f ds with
    | none => none
    | some ([], _) => ret1 false s
    | some (_, []) => ret1 true s
    | some _ => some [(true, s), (false, s)]
  | _ => none
def ask2 (s : SS) (x y : SV) (f : D → D → Option Bool) : Outs Bool := match constOf s y with
  | some e => ask1 s x fun d => f d e
  | none => match constOf s x with
    | some d => ask1 s y fun e => f d e
    | none => bindM (cases1 s x) fun d s1 => ask1 s1 y fun e => f d e
def bothI (s : SS) : Outs Bool := some [(true, s), (false, s)]
/-- ints that are known by bounds -/
def askI (op : Cop) (s : SS) (x y : SV) : Outs Bool := match rng s x, rng s y with
  | some (a, b), some (c, d) => match op with
    | .lt => (match b, c with
      | some b, some c => if b < c then ret1 true s else askI2 a d
      | _, _ => askI2 a d)
    | .ge => (match b, c with
      | some b, some c => if b < c then ret1 false s else askI3 a d
      | _, _ => askI3 a d)
    | .gt => (match d, a with
      | some d, some a => if d < a then ret1 true s else askI2 c b
      | _, _ => askI2 c b)
    | .le => (match d, a with
      | some d, some a => if d < a then ret1 false s else askI3 c b
      | _, _ => askI3 c b)
    | .eq => (match b, c, d, a with
      | some b, some c, some d, some a => if b < c ∨ d < a then ret1 false s else bothI s
      | _, _, _, _ => bothI s)
    | .ne => (match b, c, d, a with
      | some b, some c, some d, some a => if b < c ∨ d < a then ret1 true s else bothI s
      | _, _, _, _ => bothI s)
    | _ => none
  | _, _ => none
where
  askI2 (a d : Option Int) : Outs Bool := match a, d with
    | some a, some d => if d ≤ a then ret1 false s else bothI s
    | _, _ => bothI s
  askI3 (a d : Option Int) : Outs Bool := match a, d with
    | some a, some d => if d ≤ a then ret1 true s else bothI s
    | _, _ => bothI s
def orElse {α : Type} (a : Outs α) (b : Unit → Outs α) : Outs α := match a with
  | some l => some l
  | none => b ()
/-- == of scalars, quicker -/
def cmpQ (op : Cop) (d e : D) : Option Bool := match op, d, e with
  | .eq, .str x, .str y => some (strB x y)
  | .ne, .str x, .str y => some (!strB x y)
  | op, d, e => cmpD op d e []
def askS (op : Cop) (s : SS) (x y : SV) : Outs Bool := orElse (ask2 s x y fun d e => cmpQ op d e) fun _ => askI op s x y
/-- what is scalar beside what is none -/
def isSc : PX → Bool
  | .c _ => true | .v _ => true | .one _ => true | .int _ _ => true | _ => false
mutual
def eqP : Nat → PX → PX → SS → Outs Bool
  | 0, _, _, _ => none
  | n + 1, .tup a, .tup b, s => if a.length = b.length then eqPs n a b s else ret1 false s
  | n + 1, .lst a, .lst b, s => if a.length = b.length then eqPs n a b s else ret1 false s
  | _, .tup _, .lst _, s => ret1 false s
  | _, .lst _, .tup _, s => ret1 false s
  | _, x, y, s => match scP x, scP y with
    | some a, some b => askS .eq s a b
    | _, _ => ret1 false s
def eqPs : Nat → List PX → List PX → SS → Outs Bool
  | 0, _, _, _ => none
  | _, [], [], s => ret1 true s
  | n + 1, a :: l, b :: r, s => bindM (eqP n a b s) fun k s1 => if k then eqPs n l r s1 else ret1 false s1
  | _, _, _, s => ret1 false s
end
def inPs (n : Nat) (x : PX) : List PX → SS → Outs Bool
  | [], s => ret1 false s
  | y :: ys, s => bindM (eqP n y x s) fun k s1 => if k then ret1 true s1 else inPs n x ys s1
def fuelP : Nat := 60
def neg (m : Outs Bool) : Outs Bool := bindM m fun b s => ret1 (!b) s
def isNone (s : SS) (x : SV) : Outs Bool := orElse (ask1 s x fun d => cmpD .isn d .non []) fun _ => match sh s x with
  | .int _ _ => ret1 false s
  | .tup _ => ret1 false s
  | .tupOf _ _ _ => ret1 false s
  | .lst _ => ret1 false s
  | .lstOf _ _ _ => ret1 false s
  | .own _ => ret1 false s
  | .rep _ => ret1 false s
  | _ => none
def eqV (s : SS) (x y : SV) : Outs Bool := match x, y with
  | .rep p, .rep q => if sameP s p q then ret1 true s else none
  | _, _ => orElse (askS .eq s x y) fun _ => match pyOf s fuelP x, pyOf s fuelP y with
    | some p, some q => eqP fuelP p q s
    | _, _ => none
def inV (s : SS) (x y : SV) : Outs Bool := match pyOf s fuelP x, pyOf s fuelP y with
  | some p, some (.tup qs) => inPs fuelP p qs s
  | some p, some (.lst qs) => inPs fuelP p qs s
  | _, _ => none
def cmpX (op : Cop) (s : SS) (x y : SV) : Outs Bool := match op with
  | .eq => eqV s x y
  | .ne => neg (eqV s x y)
  | .isn => (match y with | .c .non => isNone s x | _ => none)
  | .isnn => (match y with | .c .non => neg (isNone s x) | _ => none)
  | .isin => inV s x y
  | .notin => neg (inV s x y)
  | op => askS op s x y
def sbV (m : Outs Bool) : Outs SV := match m with
  | none => none
  | some l => some (l.map fun p => (bV p.1, p.2))
/-- whether a value counts as true -/
def truS (s : SS) (x : SV) : Outs Bool := orElse (ask1 s x fun d => truth [] d) fun _ => match tcOf s x with
  | some c => if 0 < c.least then ret1 true s else if c.most = 0 then ret1 false s else bothI s
  | none => match lcOf s x with
    | some c => if 0 < c.least then ret1 true s else if c.most = 0 then ret1 false s else bothI s
    | none => match rng s x with
      | some (some a, some b) => if 0 < a ∨ b < 0 then ret1 true s else bothI s
      | some _ => bothI s
      | none => none

/-! ### arithmetic, texts, tuples, lists -/
def pureD (r : Res D) : Option D := match r with
  | .ok d [] => if scal d then some d else none
  | _ => none
def addO (a b : Option Int) : Option Int := match a, b with | some x, some y => some (x + y) | _, _ => none
def subO (a b : Option Int) : Option Int := match a, b with | some x, some y => some (x - y) | _, _ => none
def lim64 (a b : Option Int) : Bool := match a, b with | some a, some b => decide (-(2 ^ 64) < a) && decide (b < 2 ^ 64) | _, _ => false
def binI (op : Bop) (s : SS) (p q : Option Int × Option Int) : Outs SV := match op with
  | .add => ret1 (.int (addO p.1 q.1) (addO p.2 q.2)) s
  | .sub => ret1 (.int (subO p.1 q.2) (subO p.2 q.1)) s
  | .mul => if lim64 p.1 p.2 || lim64 q.1 q.2 then (match p, q with
      | (some a, some b), (some c, some d) => if 0 ≤ a ∧ 0 ≤ c then ret1 (.int (some 0) (some (b * d))) s else ret1 (.int none none) s
      | _, _ => ret1 (.int none none) s) else none
  | .md => (match q with
      | (some c, some d) => if 0 < c then ret1 (.int (some 0) (some (d - 1))) s else none
      | _ => none)
  | .fdiv => (match q with
      | (some c, some d) => if 0 < c ∧ d < 1073741824 then (match p with
          | (some a, some b) => if 0 ≤ a then ret1 (.int (some 0) (some b)) s else ret1 (.int none none) s
          | _ => ret1 (.int none none) s) else none
      | _ => none)
  | .pow => none
def LC.app : LC → LC → LC
  | .ex a, .ex b => .ex (a ++ b)
  | a, b => .of (a.least + b.least) (a.most + b.most) (jnAll fuelJ ((match a with | .ex xs => xs | .of _ _ x => [x]) ++ (match b with | .ex xs => xs | .of _ _ x => [x])))
def LC.all (s : SS) (y : SV) : LC → Bool
  | .ex xs => leU s fuelL xs y
  | .of _ _ x => le s fuelL x y
/-- whether it is right to say so -/
def LC.okApp (s : SS) (a b : LC) : Bool := match a, b with
  | .ex _, .ex _ => true
  | a, b => match a.app b with
    | .of _ _ y => a.all s y && b.all s y
    | _ => false
def scS (s : SS) (x : SV) : Bool := match sh s x with
  | .c _ => true | .one _ => true | _ => false
def binS (op : Bop) (s : SS) (x y : SV) : Outs SV :=
  if scS s x && scS s y then lift2 (fun d e => pureD (binD op d e [])) s x y else
  match rng s x, rng s y with
  | some p, some q => binI op s p q
  | _, _ => match op with
    | .add => (match tcOf s x, tcOf s y with
      | some a, some b => if a.most + b.most ≤ sizeLine ∧ LC.okApp s a b = true then ret1 (a.app b).tv s else none
      | _, _ => match lcOf s x, lcOf s y with
        | some a, some b => if a.most + b.most ≤ sizeLine ∧ LC.okApp s a b = true then some [alloc s (a.app b).ao] else none
        | _, _ => none)
    | .mul => (match lcOf s x, constOf s y with
      | some (.ex xs), some (.int k) => if k < 2 ^ 63 ∧ -(2 ^ 63) ≤ k ∧ xs.length * k.toNat ≤ sizeLine then some [alloc s (.lst (List.replicate k.toNat xs).flatten)] else none
      | _, _ => none)
    | _ => none
def negS (s : SS) (x : SV) : Outs SV := if scS s x then lift1 (fun d => match d with | .int i => some (.int (-i)) | _ => none) s x else match rng s x with
  | some (a, b) => ret1 (.int (b.map (- ·)) (a.map (- ·))) s
  | none => none
def optAll (xs : List SV) : List D → Option (List SV)
  | [] => some []
  | .int k :: r => match atI xs k, optAll xs r with
    | some x, some l => some (x :: l)
    | _, _ => none
  | _ => none
def addVs (a : List SV) : List SV → List SV
  | [] => a
  | d :: r => addVs (if a.any (seqV d) then a else a ++ [d]) r
def finVs : List SV → Option (List D)
  | [] => some []
  | x :: r => match finV x, finVs r with
    | some a, some b => some (a ++ b)
    | _, _ => none
/-- one of several values -/
def someOf (xs : List SV) (s : SS) : Outs SV := match finVs xs with
  | some ds => ret1 (mk1 (addDs [] ds)) s
  | none => some ((addVs [] xs).map fun x => (x, s))
def idxC (s : SS) (c : LC) (i : SV) : Outs SV := match c, i with
  | .ex xs, .one ks => (match optAll xs ks with
    | some ys => someOf ys s
    | none => none)
  | .ex xs, i => orElse (bindM (cases1 s i) fun k s1 => match k with
      | .int k => (match atI xs k with
        | some x => ret1 x s1
        | none => none)
      | _ => none) fun _ => match rng s i with
        | some (some a, some b) => if 0 ≤ a ∧ b < xs.length ∧ a ≤ b then someOf ((xs.drop a.toNat).take (b - a + 1).toNat) s else none
        | _ => none
  | .of lo _ x, i => match rng s i with
    | some (some a, some b) => if -(lo : Int) ≤ a ∧ b < lo then ret1 x s else none
    | _ => none
def getS (kvs : List (Key × SV)) (k : Key) : Option SV := (kvs.find? fun kv => decide (kv.1 = k)).map (·.2)
def putS (kvs : List (Key × SV)) (k : Key) (v : SV) : List (Key × SV) :=
  if (kvs.any fun kv => decide (kv.1 = k)) = true then kvs.map (fun kv => if kv.1 = k then (kv.1, v) else kv) else kvs ++ [(k, v)]
def idxS (s : SS) (x i : SV) : Outs SV := match tcOf s x with
  | some c => idxC s c i
  | none => match lcOf s x with
    | some c => idxC s c i
    | none => match sh s x with
      | .own k => (match s.heap[k]? with
        | some (.dct kvs) => bindM (cases1 s i) fun k s1 => (match keyD k with
          | some k => (match getS kvs k with
            | some v => ret1 v s1
            | none => none)
          | none => none)
        | _ => none)
      | _ => if scS s x && scS s i then lift2 (fun d e => pureD (idxD d e [])) s x i else none
def slS (s : SS) (x lo hi : SV) : Outs SV := bindM (cases1 s lo) fun l s1 => bindM (cases1 s1 hi) fun h s2 => match partD l, partD h with
  | some a, some b => match tcOf s2 x with
    | some (.ex xs) => ret1 (.tup (cutD xs a b)) s2
    | some (.of _ m z) => ret1 (.tupOf 0 m z) s2
    | none => match lcOf s2 x with
      | some (.ex xs) => some [alloc s2 (.lst (cutD xs a b))]
      | some (.of _ m z) => some [alloc s2 (.lstOf 0 m z)]
      | none => lift1 (fun d => pureD (slD d l h [])) s2 x
  | _, _ => none
def revS (s : SS) (x : SV) : Outs SV := match lcOf s x with
  | some (.ex xs) => some [alloc s (.lst xs.reverse)]
  | some (.of a b z) => some [alloc s (.lstOf a b z)]
  | none => none
def tyS (s : SS) (x : SV) : Option Ty := match sh s x with
  | .int _ _ => some .int
  | .tup _ => some .tup
  | .tupOf _ _ _ => some .tup
  | .lst _ => some .lst
  | .lstOf _ _ _ => some .lst
  | .rep _ => some .str
  | .own k => (match s.heap[k]? with
    | some (.lst _) => some .lst
    | some (.lstOf _ _ _) => some .lst
    | some (.dct _) => some .dct
    | _ => none)
  | _ => none
def minO (a b : Option Int) : Option Int := match a, b with | some x, some y => some (if y < x then y else x) | _, _ => none
def minU (a b : Option Int) : Option Int := match a, b with | some x, some y => some (if y < x then y else x) | some x, none => some x | none, some y => some y | none, none => none
def maxU (a b : Option Int) : Option Int := match a, b with | some x, some y => some (if x < y then y else x) | some x, none => some x | none, some y => some y | none, none => none
def maxO (a b : Option Int) : Option Int := match a, b with | some x, some y => some (if x < y then y else x) | _, _ => none
def bltS (b : Blt) (s : SS) (xs : List SV) : Outs SV := match b, xs with
  | .len, [x] => (match tcOf s x with
    | some c => ret1 c.lenV s
    | none => match lcOf s x with
      | some c => ret1 c.lenV s
      | none => lift1 (fun d => pureD (bltD .len [d] [])) s x)
  | .abs, [x] => if scS s x then lift1 (fun d => pureD (bltD .abs [d] [])) s x else (match rng s x with
    | some _ => ret1 (.int (some 0) none) s
    | none => none)
  | .int, [x] => if scS s x then lift1 (fun d => pureD (bltD .int [d] [])) s x else (match rng s x with
    | some _ => ret1 x s
    | none => none)
  | .tuple, [x] => (match tcOf s x with
    | some c => ret1 c.tv s
    | none => match lcOf s x with
      | some c => ret1 c.tv s
      | none => none)
  | .list, [x] => (match tcOf s x with
    | some c => some [alloc s c.ao]
    | none => match lcOf s x with
      | some c => some [alloc s c.ao]
      | none => none)
  | .min2, [x, y] => if scS s x && scS s y then lift2 (fun d e => pureD (bltD .min2 [d, e] [])) s x y else (match rng s x, rng s y with
    | some p, some q => ret1 (.int (minO p.1 q.1) (minU p.2 q.2)) s
    | _, _ => none)
  | .max2, [x, y] => if scS s x && scS s y then lift2 (fun d e => pureD (bltD .max2 [d, e] [])) s x y else (match rng s x, rng s y with
    | some p, some q => ret1 (.int (maxU p.1 q.1) (maxO p.2 q.2)) s
    | _, _ => none)
  | .repr, [x] => (match pyOf s fuelP x with
    | some p => (match costP s p with
      | some n => if n ≤ sizeLine then ret1 (.rep p) s else none
      | none => none)
    | none => none)
  | .strI, [x] => lift1 (fun d => pureD (bltD .strI [d] [])) s x
  | .isi t, [x] => if scS s x then sbV (ask1 s x fun d => isiD [] t d) else (match tyS s x with
    | some u => ret1 (bV (decide (u = t) || (decide (u = .bool) && decide (t = .int)))) s
    | none => none)
  | _, _ => none
def methS (m : Mt) (s : SS) (o : SV) (xs : List SV) : Outs SV := match sh s o with
  | .own k => (match s.heap[k]?, m, xs with
    | some (.lst ys), .append, [x] => if ys.length < sizeLine then ret1 (.c .non) (s.setH k (.lst (ys ++ [x]))) else none
    | some (.lstOf lo hi z), .append, [x] => let z' := jnV fuelJ z x
      if hi < sizeLine ∧ (le s fuelL z z' && le s fuelL x z') = true then ret1 (.c .non) (s.setH k (.lstOf (lo + 1) (hi + 1) z')) else none
    | some (.lst ys), .pop0, [] => (match ys[ys.length - 1]? with
      | some x => ret1 x (s.setH k (.lst ys.dropLast))
      | none => none)
    | some (.lst ys), .popAt, [i] => (match constOf s i with
      | some (.int i) => if 0 ≤ i ∧ i < 2 ^ 63 then (match ys[i.toNat]? with
        | some x => ret1 x (s.setH k (.lst (ys.eraseIdx i.toNat)))
        | none => none) else none
      | _ => none)
    | some (.lst ys), .insert, [i, x] => (match constOf s i with
      | some (.int i) => if ys.length < sizeLine ∧ 0 ≤ i ∧ i < 2 ^ 63 then ret1 (.c .non) (s.setH k (.lst (ys.take i.toNat ++ [x] ++ ys.drop i.toNat))) else none
      | _ => none)
    | some (.lst ys), .extend, [x] => (match lcOf s x with
      | some b => if ys.length + b.most ≤ sizeLine ∧ LC.okApp s (.ex ys) b = true then ret1 (.c .non) (s.setH k (LC.app (.ex ys) b).ao) else none
      | none => none)
    | some (.lstOf lo hi z), .extend, [x] => (match lcOf s x with
      | some b => if hi + b.most ≤ sizeLine ∧ LC.okApp s (.of lo hi z) b = true then ret1 (.c .non) (s.setH k (LC.app (.of lo hi z) b).ao) else none
      | none => none)
    | _, _, _ => none)
  | _ => none
def setWk (xs : List SV) (v : SV) : List D → List SV
  | .int k :: r => match ixN xs.length k with
    | some j => match xs[j]? with
      | some x => setWk (xs.set j (jnV fuelJ x v)) v r
      | none => setWk xs v r
    | none => setWk xs v r
  | _ => xs
def okWk (s : SS) (xs ys : List SV) (v : SV) : List D → Bool
  | [] => leP s fuelL xs ys
  | .int k :: r => match ixN xs.length k with
    | some j => match ys[j]? with
      | some y => le s fuelL v y && okWk s xs ys v r
      | none => false
    | none => false
  | _ => false
def setS (s : SS) (o i v : SV) : Option (List (Unit × SS)) := match sh s o with
  | .own k => (match s.heap[k]?, i with
    | some (.lst xs), .one ks => let ys := setWk xs v ks
      if okWk s xs ys v ks then ret1 () (s.setH k (.lst ys)) else none
    | some (.lst xs), i => bindM (cases1 s i) fun d s1 => (match d with
      | .int j => (match ixN xs.length j with
        | some j => ret1 () (s1.setH k (.lst (xs.set j v)))
        | none => none)
      | _ => none)
    | some (.dct kvs), i => bindM (cases1 s i) fun d s1 => (match keyD d with
      | some q => if kvs.length < sizeLine then ret1 () (s1.setH k (.dct (putS kvs q v))) else none
      | none => none)
    | _, _ => none)
  | _ => none
end PL

set_option Elab.async false
set_option linter.all false
set_option maxRecDepth 100000
set_option maxHeartbeats 4000000
/-! SXC: a symbolic runner: expressions, statements, defs. -/
namespace PL
open PySem L2

inductive SX (α : Type) where
  | ok (l : List (α × SS))
  | err (n : Nat)
def SX.some? {α : Type} : SX α → Bool
  | .ok _ => true
  | .err _ => false
section
variable {α β : Type}
def goX (f : α → SS → SX β) : List (α × SS) → SX β
  | [] => .ok []
  | (a, s) :: r => match f a s with
    | .err n => .err n
    | .ok x => match goX f r with
      | .err n => .err n
      | .ok y => .ok (x ++ y)
def bindX (m : SX α) (f : α → SS → SX β) : SX β := match m with
  | .err n => .err n
  | .ok l => goX f l
def upX (n : Nat) (m : Outs α) : SX α := match m with
  | none => .err n
  | some l => .ok l
def okX (x : α) (s : SS) : SX α := .ok [(x, s)]
end

/-! ### names -/
mutual
def nameV (ds : List SV) : SV → SV × List SV
  | .one xs => (.v ds.length, ds ++ [.one xs])
  | .int lo hi => (.v ds.length, ds ++ [.int lo hi])
  | .pr p => (.v ds.length, ds ++ [.pr p])
  | .tup xs => match nameVs ds xs with
    | (ys, ds') => (.tup ys, ds')
  | x => (x, ds)
def nameVs (ds : List SV) : List SV → List SV × List SV
  | [] => ([], ds)
  | x :: xs => match nameV ds x with
    | (y, ds1) => match nameVs ds1 xs with
      | (ys, ds2) => (y :: ys, ds2)
end
mutual
def namedV : SV → Bool
  | .one _ => false
  | .int _ _ => false
  | .pr _ => false
  | .tup xs => namedVs xs
  | _ => true
def namedVs : List SV → Bool
  | [] => true
  | x :: xs => namedV x && namedVs xs
end
/-- the forms of a value -/
def altsV (s : SS) (x : SV) : Option (List SV) := match sh s x with
  | .un xs => some xs
  | _ => none
def nameE (nm : Bool) (i : Nat) (x : SV) (s : SS) : SV × SS := if nm && !(namedV x) then match nameV s.doms x with
    | (y, ds) => (y, { s with env := s.env.set i (some y), doms := ds })
  else (x, s)
def varS (md : Md) (i : Nat) (s : SS) : SX SV := match s.env[i]? with
  | some (some x) => match altsV s x with
    | some ys => .ok (ys.map fun y => nameE md.nm i y (s.setE i y))
    | none => .ok [(x, s)]
  | _ => .err 1

/-! ### joins -/
def LC.map (f : SV → SV) : LC → LC
  | .ex xs => .ex (xs.map f)
  | .of lo hi x => .of lo hi (f x)
def jnC (a b : LC) : LC := match a, b with
  | .ex a, .ex b => if a.length = b.length then .ex (jnVs fuelJ a b) else .of (min a.length b.length) (max a.length b.length) (jnAll fuelJ (a ++ b))
  | .ex a, .of lo hi z => .of (min a.length lo) (max a.length hi) (jnAll fuelJ (z :: a))
  | .of lo hi z, .ex b => .of (min b.length lo) (max b.length hi) (jnAll fuelJ (z :: b))
  | .of lo hi z, .of lo' hi' z' => .of (min lo lo') (max hi hi') (jnV fuelJ z z')
def leC (s : SS) : LC → LC → Bool
  | .ex xs, .ex ys => leP s fuelL xs ys
  | .ex xs, .of lo hi y => (decide (lo ≤ xs.length) && decide (xs.length ≤ hi)) && leU s fuelL xs y
  | .of a b x, .of lo hi y => (decide (lo ≤ a) && decide (b ≤ hi)) && le s fuelL x y
  | _, _ => false
def inC (n m : Nat) : LC → Bool
  | .ex xs => inRs n m xs
  | .of _ _ x => inR n m x
def trC (n0 m : Nat) (s : SS) : LC → Option LC
  | .ex xs => match trVs n0 m s fuelV xs with
    | some ys => some (.ex ys)
    | none => none
  | .of lo hi x => match trV n0 m s fuelV x with
    | some y => some (.of lo hi y)
    | none => none
def trL (n0 m : Nat) : List (LC × SS) → Option (List (LC × SS))
  | [] => some []
  | (c, s) :: r => match trC n0 m s c, trL n0 m r with
    | some d, some l => some ((d, trS n0 m s) :: l)
    | _, _ => none
/-- several ways as one, where that is right -/
def joinL (n0 m0 : Nat) (l : List (LC × SS)) : List (LC × SS) := match l with
  | [] => []
  | [p] => [p]
  | l => match trL n0 m0 l with
    | some ((c, s) :: r) =>
      let q := r.foldl (fun (a : LC × SS) b => (jnC a.1 b.1, jnS a.2 b.2)) (c, s)
      if ((c, s) :: r).all (fun p => leS n0 m0 p.2 q.2 && (leC p.2 p.1 q.1 && inC q.2.doms.length q.2.heap.length q.1)) then [q] else l
    | _ => l
def joinV (b : Bool) (s0 : SS) (m : SX SV) : SX SV := match b, m with
  | true, .ok l => match l with
    | [] => m
    | [_] => m
    | l => match joinL s0.doms.length s0.heap.length (l.map fun p => (.ex [p.1], p.2)) with
      | [(.ex [x], s)] => .ok [(x, s)]
      | _ => m
  | _, m => m
inductive SO where
  | next | brk | cnt | ret (x : SV)
def nexts : List (SO × SS) → List (LC × SS)
  | [] => []
  | (.next, s) :: r => (.ex [], s) :: nexts r
  | _ :: r => nexts r
def others : List (SO × SS) → List (SO × SS)
  | [] => []
  | (.next, s) :: r => others r
  | p :: r => p :: others r
def toNext (l : List (SO × SS)) : List (SO × SS) := l.map fun p => match p.1 with
  | .cnt => (.next, p.2)
  | _ => p
def joinO (b : Bool) (s0 : SS) (m : SX SO) : SX SO := match b, m with
  | true, .ok l => .ok ((joinL s0.doms.length s0.heap.length (nexts l)).map (fun p => (.next, p.2)) ++ others l)
  | _, m => m

/-! ### what is walked -/
inductive Sr where
  | ex (xs : List SV) | of (lo hi : Nat) (x : SV) | own (k n : Nat) | enum (s : Sr) | zip (s t : Sr)
def sat : Sr → SS → Nat → Option (List (Option SV))
  | .ex xs, _, i => if i ≤ xs.length then some [xs[i]?] else none
  | .of lo hi x, _, i => if i < lo then some [some x] else if i < hi then some [none, some x] else some [none]
  | .own k n, s, i => match s.heap[k]? with
    | some (.lst xs) => if xs.length = n ∧ i ≤ n then some [xs[i]?] else none
    | _ => none
  | .enum t, s, i => match sat t s i with
    | some l => some (l.map fun o => match o with
      | some x => some (.tup [.c (.int (i : Int)), x])
      | none => none)
    | none => none
  | .zip t u, s, i => match sat t s i, sat u s i with
    | some l, some r => some (l.flatMap fun o => r.map fun q => match o, q with
      | some x, some y => some (.tup [x, y])
      | _, _ => none)
    | _, _ => none
def seqS (s : SS) (x : SV) : Outs Sr := match tcOf s x with
  | some (.ex xs) => ret1 (.ex xs) s
  | some (.of lo hi z) => ret1 (.of lo hi z) s
  | none => match sh s x with
    | .lst xs => ret1 (.ex xs) s
    | .lstOf lo hi z => ret1 (.of lo hi z) s
    | .own k => (match s.heap[k]? with
      | some (.lst xs) => ret1 (.own k xs.length) s
      | some (.lstOf lo hi z) => ret1 (.of lo hi z) (s.setH k .gone)
      | _ => none)
    | _ => none
/-- the values of an int, where they are few -/
def casesI (s : SS) (x : SV) : Option (List (D × SS)) := orElse (cases1 s x) fun _ => match rng s x with
  | some (some a, some b) => if b - a ≤ 63 then some ((List.range (b - a + 1).toNat).map fun (i : Nat) => (.int (a + (i : Int)), s)) else none
  | _ => none
def rangeS (lo c : Int) (n : Nat) : Sr := .ex ((rangeD lo c n).map .c)
def srcS (k : ItK) (s : SS) (xs : List SV) : Outs Sr := match k, xs with
  | .plain, [x] => orElse (seqS s x) fun _ => match constOf s x with
    | some (.str y) => ret1 (.ex ((signsD y).map .c)) s
    | _ => none
  | .range1, [x] => bindM (casesI s x) fun d s1 => match d with
    | .int n => if big62 n then ret1 (rangeS 0 1 n.toNat) s1 else none
    | _ => none
  | .range2, [x, y] => bindM (casesI s x) fun d s1 => bindM (casesI s1 y) fun e s2 => match d, e with
    | .int a, .int b => if big62 a && big62 b then ret1 (rangeS a 1 (b - a).toNat) s2 else none
    | _, _ => none
  | .range3, [x, y, z] => bindM (casesI s x) fun d s1 => bindM (casesI s1 y) fun e s2 => match d, e, constOf s2 z with
    | .int a, .int b, some (.int (-1)) => if big62 a && big62 b then ret1 (rangeS a (-1) (a - b).toNat) s2 else none
    | _, _, _ => none
  | .enum, [x] => bindM (seqS s x) fun t s1 => ret1 (.enum t) s1
  | .zip, [x, y] => bindM (seqS s x) fun t s1 => bindM (seqS s1 y) fun u s2 => ret1 (.zip t u) s2
  | _, _ => none
def fuelW : Nat := 5000
def LC.snoc (s : SS) (c : LC) (y : SV) : Option LC := match c with
  | .ex xs => if xs.length < sizeLine then some (.ex (xs ++ [y])) else none
  | .of lo hi z => let z' := jnV fuelJ z y
    if hi < sizeLine ∧ (le s fuelL z z' && le s fuelL y z') = true then some (.of (lo + 1) (hi + 1) z') else none
/-- the turns of a comprehension; the ways of a turn, each with what has come together -/
def lcTurn (acc : LC) : List (Option SV × SS) → Option (List (LC × SS))
  | [] => some []
  | (none, s) :: r => match lcTurn acc r with
    | some l => some ((acc, s) :: l)
    | none => none
  | (some y, s) :: r => match acc.snoc s y, lcTurn acc r with
    | some c, some l => some ((c, s) :: l)
    | _, _ => none
def lcS (src : Sr) (step : SV → SS → SX (Option SV)) (jt : Bool) : Nat → Nat → LC → SS → SX SV
  | 0, _, _, _ => .err 2
  | n + 1, i, acc, s => match sat src s i with
    | none => .err 3
    | some alts => goX (fun o _ => match o with
      | none => okX (alloc s acc.ao).1 (alloc s acc.ao).2
      | some x => match step x s with
        | .err e => .err e
        | .ok l => match lcTurn acc l with
          | none => .err 4
          | some l2 => goX (fun c s1 => lcS src step jt n (i + 1) c s1) (if jt then joinL s.doms.length s.heap.length l2 else l2)) (alts.map fun o => (o, s))
def forS (src : Sr) (step : SV → SS → SX SO) (jt : Bool) : Nat → Nat → SS → SX SO
  | 0, _, _ => .err 5
  | n + 1, i, s => match sat src s i with
    | none => .err 6
    | some alts => goX (fun o _ => match o with
      | none => okX .next s
      | some x => match step x s with
        | .err e => .err e
        | .ok l => bindX (joinO jt s (.ok (toNext l))) fun o s1 => match o with
          | .next => forS src step jt n (i + 1) s1
          | .cnt => forS src step jt n (i + 1) s1
          | .brk => okX .next s1
          | .ret y => okX (.ret y) s1) (alts.map fun o => (o, s))
def Sr.most (s : SS) : Sr → Nat
  | .ex xs => xs.length
  | .of _ hi _ => hi
  | .own _ n => n
  | .enum t => t.most s
  | .zip t u => min (t.most s) (u.most s)
/-- one value for the items of all turns: a proposal, and whether it is right -/
def Sr.item (s : SS) : Sr → SV
  | .ex xs => jnAll fuelJ xs
  | .of _ _ x => x
  | .own k _ => match s.heap[k]? with
    | some (.lst xs) => jnAll fuelJ xs
    | _ => .any
  | .enum t => .tup [.int (some 0) (some (t.most s : Int)), t.item s]
  | .zip t u => .tup [t.item s, u.item s]
def Sr.itemOk (s : SS) : Sr → SV → Bool
  | .ex xs, y => leU s fuelL xs y
  | .of _ _ x, y => le s fuelL x y
  | .own k n, y => match s.heap[k]? with
    | some (.lst xs) => decide (xs.length = n) && leU s fuelL xs y
    | _ => false
  | .enum t, .tup [.int (some 0) (some h), y] => decide ((t.most s : Int) ≤ h) && t.itemOk s y
  | .zip t u, .tup [x, y] => t.itemOk s x && u.itemOk s y
  | _, _ => false
def minL : Nat → List (SO × SS) → Nat
  | m, [] => m
  | m, (_, s) :: r => minL (if s.lim < m then s.lim else m) r
def allLe (n0 m0 : Nat) (t : SS) : List (LC × SS) → Bool
  | [] => true
  | (_, s) :: r => leS n0 m0 (trS n0 m0 s) { t with lim := 0 } && allLe n0 m0 t r
/-- a state that a turn leaves as it is, with what leaves the loop -/
def fixI (src : Sr) (step : SV → SS → SX SO) : Nat → SS → SX (SV × List (SO × SS))
  | 0, _ => .err 50
  | k + 1, t => match step (src.item t) t with
    | .err e => .err e
    | .ok l =>
      let ns := nexts (toNext l)
      if allLe t.doms.length t.heap.length t ns then .ok [((src.item t, toNext l), t)]
      else fixI src step k { (ns.foldl (fun (a : SS) p => jnS a (trS t.doms.length t.heap.length p.2)) t) with lim := t.lim }
def limO (n : Nat) (l : List (SO × SS)) : List (SO × SS) := l.map fun p => (p.1, { p.2 with lim := n })
def brks : List (SO × SS) → List (SO × SS)
  | [] => []
  | (.brk, s) :: r => (.next, s) :: brks r
  | p :: r => p :: brks r
def forI (src : Sr) (step : SV → SS → SX SO) (s : SS) : SX SO :=
  let n := src.most s
  let L := s.lim / (n + 1)
  match fixI src step 6 { s with lim := L } with
  | .err e => .err e
  | .ok [((x, l), t)] =>
    let c := L - minL L l
    if leS s.doms.length s.heap.length { s with lim := L } t && (src.itemOk t x && decide (src.most t ≤ n)) then
      .ok ((.next, { t with lim := s.lim - n * c }) :: limO (s.lim - n * c) (brks (others l)))
    else .err 51
  | _ => .err 52
def whlS (test : SS → SX Bool) (step : SS → SX SO) (jt : Bool) : Nat → SS → SX SO
  | 0, _ => .err 7
  | n + 1, s => bindX (test s) fun b s1 => if b then match step s1 with
      | .err e => .err e
      | .ok l => bindX (joinO jt s (.ok (toNext l))) fun o s2 => match o with
        | .next => whlS test step jt n s2
        | .cnt => whlS test step jt n s2
        | .brk => okX .next s2
        | .ret y => okX (.ret y) s2
    else okX .next s1
def setAllS (s : SS) : List Nat → List SV → SS
  | i :: is, x :: xs => setAllS (s.setE i x) is xs
  | _, _ => s
def wipeS (s : SS) (vs : List Nat) : SS := { s with env := vs.foldr (fun v e => e.set v none) s.env }
def partsS (s : SS) (x : SV) (n : Nat) : Option (List SV) := match tcOf s x with
  | some (.ex xs) => some xs
  | some (.of lo hi z) => if lo = n ∧ hi = n then some (List.replicate n z) else none
  | none => match lcOf s x with
    | some (.ex xs) => some xs
    | some (.of lo hi z) => if lo = n ∧ hi = n then some (List.replicate n z) else none
    | none => none
def tgsLen : Tgs → Nat
  | .nil => 0
  | .cons _ ts => tgsLen ts + 1
/-- a comparison as a value: where ways are joined both outcomes are one -/
def cmpE (ji : Bool) (s : SS) (m : Outs Bool) : SX SV := match ji, m with
  | true, some [(_, _), (_, _)] => okX bU s
  | _, m => upX 8 (sbV m)

section
variable (call : Nat → List SV → SS → SX SV) (G : List D) (md : Md)
mutual
def sxE : E → SS → SX SV
  | .var i, s => varS md i s
  | .cI i, s => okX (.c (.int i)) s
  | .cB b, s => okX (.c (.bl b)) s
  | .cS x, s => okX (.c (.str x)) s
  | .cN, s => okX (.c .non) s
  | .gcon i, s => match G[i]? with
    | some d => match ofD d with
      | some x => okX x s
      | none => .err 9
    | none => .err 9
  | .bin op a b, s => bindX (sxE a s) fun x s1 => bindX (sxE b s1) fun y s2 => upX 10 (binS op s2 x y)
  | .neg a, s => bindX (sxE a s) fun x s1 => upX 11 (negS s1 x)
  | .notE a, s => bindX (sxE a s) fun x s1 => cmpE md.ji s1 (neg (truS s1 x))
  | .and1 a, s => sxE a s
  | .and2 a r, s => bindX (sxE a s) fun x s1 => bindX (upX 12 (truS s1 x)) fun k s2 => if k then sxE r s2 else okX x s2
  | .or1 a, s => sxE a s
  | .or2 a r, s => bindX (sxE a s) fun x s1 => bindX (upX 13 (truS s1 x)) fun k s2 => if k then okX x s2 else sxE r s2
  | .cmp op a b, s => bindX (sxE a s) fun x s1 => bindX (sxE b s1) fun y s2 => cmpE md.ji s2 (cmpX op s2 x y)
  | .cmp2 op op' a b c, s => bindX (sxE a s) fun x s1 => bindX (sxE b s1) fun y s2 => bindX (upX 14 (cmpX op s2 x y)) fun k s3 => if k then
      bindX (sxE c s3) fun z s4 => upX 15 (sbV (cmpX op' s4 y z)) else okX bF s3
  | .ife c a b, s => joinV md.ji s (bindX (sxT c s) fun k s1 => if k then sxE a s1 else sxE b s1)
  | .tup es, s => bindX (sxEs es s) fun xs s1 => if xs.length ≤ sizeLine then okX (.tup xs) s1 else .err 16
  | .lst es, s => bindX (sxEs es s) fun xs s1 => if xs.length ≤ sizeLine then .ok [alloc s1 (.lst xs)] else .err 17
  | .dic ks es, s => bindX (sxEs es s) fun xs s1 => if ks.length = xs.length ∧ ks.length ≤ 15 then
      .ok [alloc s1 (.dct ((ks.zip xs).foldl (fun acc kv => putS acc kv.1 kv.2) []))] else .err 18
  | .call f es, s => bindX (sxEs es s) fun xs s1 => joinV md.ji s (call f xs s1)
  | .callK f es ks g, s => bindX (sxEs es s) fun xs s1 => bindX (sxEs ks s1) fun ys s2 => joinV md.ji s (call f (g.map fun j => (xs ++ ys).getD j (.c .non)) s2)
  | .blt b es, s => bindX (sxEs es s) fun xs s1 => upX 19 (bltS b s1 xs)
  | .meth m o es, s => bindX (sxE o s) fun x s1 => match lcOf s1 x with
    | none => .err 46
    | some _ => bindX (sxEs es s1) fun xs s2 => upX 20 (methS m s2 x xs)
  | .idx a b, s => bindX (sxE a s) fun x s1 => bindX (sxE b s1) fun y s2 => upX 21 (idxS s2 x y)
  | .sl a lo hi, s => bindX (sxE a s) fun x s1 => bindX (sxE lo s1) fun l s2 => bindX (sxE hi s2) fun h s3 => upX 22 (slS s3 x l h)
  | .rev a, s => bindX (sxE a s) fun x s1 => upX 23 (revS s1 x)
  | .lc own elt t k es c, s => bindX (sxEs es s) fun xs s1 => bindX (upX 24 (srcS k s1 xs)) fun src s2 => bindX (joinV md.jl s2 (lcS src (fun x s3 =>
      bindX (sxA t x (wipeS s3 own)) fun _ s4 => bindX (sxT c s4) fun b s5 => if b then bindX (sxE elt s5) fun y s6 => okX (some y) { s6 with env := s3.env } else okX none { s5 with env := s3.env }) md.jl fuelW 0 (.ex []) s2)) fun x s3 => okX x s3
def sxEs : Es → SS → SX (List SV)
  | .nil, s => okX [] s
  | .cons e es, s => bindX (sxE e s) fun x s1 => bindX (sxEs es s1) fun xs s2 => okX (x :: xs) s2
def sxT : T → SS → SX Bool
  | .val e, s => bindX (sxE e s) fun x s1 => upX 25 (truS s1 x)
  | .vc op a b, s => bindX (sxE a s) fun x s1 => bindX (sxE b s1) fun y s2 => upX 26 (cmpX op s2 x y)
  | .vc2 op op' a b c, s => bindX (sxE a s) fun x s1 => bindX (sxE b s1) fun y s2 => bindX (upX 27 (cmpX op s2 x y)) fun k s3 => if k then
      bindX (sxE c s3) fun z s4 => upX 28 (cmpX op' s4 y z) else okX false s3
  | .not t, s => bindX (sxT t s) fun b s1 => okX (!b) s1
  | .and1 a, s => sxT a s
  | .and2 a r, s => bindX (sxT a s) fun b s1 => if b then sxT r s1 else okX false s1
  | .or1 a, s => sxT a s
  | .or2 a r, s => bindX (sxT a s) fun b s1 => if b then okX true s1 else sxT r s1
  | .yes, s => okX true s
def sxA : Tg → SV → SS → SX Unit
  | .name i, x, s => okX () (nameE md.nm i x (s.setE i x)).2
  | .tup ts, x, s => match partsS s x (tgsLen ts) with
    | some xs => sxAs ts xs s
    | none => .err 29
  | .sub o i, x, s => bindX (sxE o s) fun y s1 => bindX (sxE i s1) fun z s2 => upX 30 (setS s2 y z x)
def sxAs : Tgs → List SV → SS → SX Unit
  | .nil, [], s => okX () s
  | .cons t ts, x :: xs, s => bindX (sxA t x s) fun _ s1 => sxAs ts xs s1
  | _, _, _ => .err 31
end
def tagX {α : Type} (n : Nat) (m : SX α) : SX α := match m with
  | .err e => .err (e * 64 + n)
  | m => m
mutual
def sxS : S → SS → SX SO
  | .asg t e, s => bindX (sxE call G md e s) fun x s1 => bindX (sxA call G md t x s1) fun _ s2 => okX .next s2
  | .asgC i own elt t k es c, s => bindX (sxE call G md (.lc own elt t k es c) s) fun x s1 => okX .next (s1.setE i x)
  | .par is es, s => bindX (sxEs call G md es s) fun xs s1 => if xs.length = is.length then okX .next (setAllS s1 is xs) else .err 32
  | .exp e, s => bindX (sxE call G md e s) fun _ s1 => okX .next s1
  | .ret e, s => bindX (sxE call G md e s) fun x s1 => okX (.ret x) s1
  | .retN, s => okX (.ret (.c .non)) s
  | .ite c a b, s => joinO md.ji s (bindX (sxT call G md c s) fun k s1 => if k then sxSs 0 a s1 else sxSs 0 b s1)
  | .for_ t k es body, s => joinO md.jt s (bindX (sxEs call G md es s) fun xs s1 => bindX (upX 33 (srcS k s1 xs)) fun src s2 =>
      if md.fi && decide (3 < src.most s2) then forI src (fun x s3 => bindX (sxA call G md t x s3) fun _ s4 => sxSs 0 body s4) s2
      else forS src (fun x s3 => bindX (sxA call G md t x s3) fun _ s4 => sxSs 0 body s4) md.jt fuelW 0 s2)
  | .whl c body, s => joinO md.jt s (whlS (sxT call G md c) (sxSs 0 body) md.jt fuelW s)
  | .brk, s => okX .brk s
  | .cnt, s => okX .cnt s
  | .pass, s => okX .next s
  | .never, _ => .err 34
def sxSs : Nat → Ss → SS → SX SO
  | _, .nil, s => okX .next s
  | n, .cons st ss, s => bindX (tagX n (sxS st s)) fun o s1 => match o with
    | .next => sxSs (n + 1) ss s1
    | o => okX o s1
end
end

/-! ### defs -/
def xlV (s : SS) : SV → List SV
  | .lstOf lo hi x => if hi - lo ≤ 64 then (List.range (hi - lo + 1)).map fun i => .lstOf (lo + i) (lo + i) x else [.lstOf lo hi x]
  | .tupOf lo hi x => if hi - lo ≤ 64 then (List.range (hi - lo + 1)).map fun i => .tupOf (lo + i) (lo + i) x else [.tupOf lo hi x]
  | x => [x]
/-- objects of open length told apart by their lengths -/
def xlS (s : SS) : List SV → List (List SV × SS)
  | [] => [([], s)]
  | .own k :: xs => (match s.heap[k]? with
    | some (.lstOf lo hi x) => if hi - lo ≤ 64 then (List.range (hi - lo + 1)).map (fun i => (lo + i)) |>.flatMap fun m => (xlS (s.setH k (.lstOf m m x)) xs).map fun p => (.own k :: p.1, p.2) else (xlS s xs).map fun p => (.own k :: p.1, p.2)
    | _ => (xlS s xs).map fun p => (.own k :: p.1, p.2))
  | x :: xs => (xlV s x).flatMap fun y => (xlS s xs).map fun p => (y :: p.1, p.2)
def retS (env : List (Option SV)) : List (SO × SS) → SX SV
  | [] => .ok []
  | (.ret x, s) :: r => match retS env r with
    | .ok l => .ok ((x, { s with env := env }) :: l)
    | .err n => .err n
  | (.next, s) :: r => match retS env r with
    | .ok l => .ok ((.c .non, { s with env := env }) :: l)
    | .err n => .err n
  | _ => .err 35
structure Cf where
  P : List Fn
  G : List D
  md : Nat → Md
  K : Nat → List SV → SS → Option (SX SV)
def tagF {α : Type} (n : Nat) (m : SX α) : SX α := match m with
  | .err e => .err (e * 128 + n)
  | m => m
def sxF (c : Cf) : Nat → Nat → List SV → SS → SX SV
  | 0, f, xs, s => match c.K f xs s with
    | some r => r
    | none => .err 36
  | n + 1, f, xs, s => match c.K f xs s with
    | some r => r
    | none => match c.P[f]? with
      | none => .err 37
      | some fn => if xs.length = fn.np then
          tagF f (joinV (c.md f).ji s (bindX (.ok (if (c.md f).xl then xlS s xs else [(xs, s)])) fun ys s1 => match sxSs (sxF c n) c.G (c.md f) 0 fn.body { s1 with env := ys.map some ++ List.replicate (fn.ns - fn.np) none } with
            | .err e => .err e
            | .ok l => retS s.env l))
        else .err 38

/-! ### what defs are known to tell -/
structure Ent where
  f : Nat
  args : List SV
  res : List SV
  cost : Nat

mutual
def noRef : SV → Bool
  | .own _ => false
  | .lst _ => false
  | .lstOf _ _ _ => false
  | .any => false
  | .bag => false
  | .tup xs => noRefs xs
  | .tupOf _ _ x => noRef x
  | .un xs => noRefs xs
  | _ => true
def noRefs : List SV → Bool
  | [] => true
  | x :: xs => noRef x && noRefs xs
end
def entK (tab : List Ent) (f : Nat) (xs : List SV) (s : SS) : Option (SX SV) :=
  if inRs s.doms.length 0 xs then match tab.find? (fun e => decide (e.f = f) && (leP s fuelL xs e.args && (inRs 0 0 e.args && inRs 0 0 e.res))) with
    | some e => some (if e.cost ≤ s.lim then .ok (e.res.map fun r => (r, { s with lim := s.lim - e.cost })) else .err 39)
    | none => none
  else match trVs s.doms.length 0 s fuelV xs with
    | none => none
    | some ys => match tab.find? (fun e => decide (e.f = f) && (leP (trS s.doms.length 0 s) fuelL ys e.args && (inRs 0 0 e.args && (inRs 0 0 e.res && noRefs e.res)))) with
      | some e => some (if e.cost ≤ s.lim then .ok (e.res.map fun r => (r, { s with lim := s.lim - e.cost })) else .err 39)
      | none => none
def s00 (lim : Nat) : SS := ⟨[], [], [], lim⟩
def resOf (l : List (SV × SS)) : Option (List SV) := match l with
  | [] => some []
  | (x, s) :: r => match trV 0 0 s fuelV x, resOf r with
    | some y, some ys => if inR 0 0 y then some (addVs [y] ys) else none
    | _, _ => none
/-- all results as one, where that is right -/
def packR (l : List SV) : List SV := match l with
  | [] => []
  | [x] => [x]
  | l => let y := jnAll fuelJ l
    if leU (s00 0) fuelL l y && inR 0 0 y then [y] else l
/-- the arguments, named -/
def nmArgs (nm : Bool) (args : List SV) (cost : Nat) : List SV × SS := if nm then match nameVs [] args with
    | (xs, ds) => (xs, ⟨[], [], ds, cost⟩)
  else (args, s00 cost)
def mkEnt (c : Cf) (n f : Nat) (args : List SV) (pk : Bool) (cost : Nat) : Option Ent := match sxF c n f (nmArgs (c.md f).nm args cost).1 (nmArgs (c.md f).nm args cost).2 with
  | .ok l => match resOf l with
    | some rs => some ⟨f, args, if pk then packR rs else rs, cost⟩
    | none => none
  | .err _ => none
/-- a draw below many, from 1 on -/
def drawS (s : SS) (m : SV) : SX SV := match cases1 s m with
  | some l => goX (fun d s1 => match d with
    | .int n => if 1 ≤ n ∧ n ≤ 64 then okX (mk1 ((List.range n.toNat).map fun (i : Nat) => .int (i : Int))) { s1 with lim := s1.lim - 1 } else if 1 ≤ n ∧ n ≤ 100000 then okX (.int (some 0) (some (n - 1))) { s1 with lim := s1.lim - 1 } else .err 40
    | _ => .err 41) l
  | none => match rng s m with
    | some (some a, some b) => if 1 ≤ a ∧ b ≤ 100000 then okX (.int (some 0) (some (b - 1))) { s with lim := s.lim - 1 } else .err 42
    | _ => .err 43
def drawK (d : Nat) (f : Nat) (xs : List SV) (s : SS) : Option (SX SV) := if f = d then some (match xs with
    | [.bag, m] => if 1 ≤ s.lim then drawS s m else .err 44
    | _ => .err 45)
  else none
def orK (k k' : Nat → List SV → SS → Option (SX SV)) (f : Nat) (xs : List SV) (s : SS) : Option (SX SV) := match k f xs s with
  | some r => some r
  | none => k' f xs s
/-- by what some defs are known to tell of one tuple of twelve -/
def isBk (s : SS) : Nat → List SV → Bool
  | _, [] => true
  | i, .v j :: r => (match s.doms[j]? with
    | some (.pr p) => decide (p = i)
    | _ => false) && isBk s (i + 1) r
  | _, _ => false
def orcK (tbl : List (Nat × D)) (f : Nat) (xs : List SV) (s : SS) : Option (SX SV) := match tbl.find? (fun p => decide (p.1 = f)) with
  | none => none
  | some p => some (match xs with
    | [.tup ys] => if ys.length = 12 ∧ isBk s 0 ys = true then okX (.c p.2) s else .err 47
    | _ => .err 48)
def errOf {α : Type} : SX α → Nat
  | .ok _ => 0
  | .err n => n
end PL

set_option Elab.async false
set_option linter.all false
set_option maxRecDepth 100000
set_option maxHeartbeats 4000000
/-! SXD: what a symbolic state stands for. -/
namespace PL
open PySem L2

/-- what stands around a run -/
structure Wo where
  bagr : Nat
  foot : Nat → Prop
  B : Nat → Sto → Prop
  Pr : Nat → D → Prop
  base : Nat
  Fr : Nat → Ob → Prop
  Ph : Nat → Ob → Prop
  Bmono : ∀ n m st, m ≤ n → B n st → B m st
  Bkeep : ∀ n st st', (∀ r o, foot r → st[r]? = some o → st'[r]? = some o) → st.length ≤ st'.length → B n st → B n st'
  Bfoot : ∀ n st r, B n st → foot r → r < st.length
  PrS : ∀ p d, p < 1000 → Pr p d → layS d = true ∧ ∃ n, costD d = some n ∧ n ≤ 200
/-- what names, objects stand for -/
structure Gh where
  sg : List D
  ro : List Nat
  ph : Nat → Ob → Prop

section
variable (W : Wo) (g : Gh)
mutual
def Gam : SV → D → Prop
  | .c d', d => d = d'
  | .v i, d => g.sg[i]? = some d
  | .one ds, d => d ∈ ds
  | .int lo hi, d => ∃ n, d = .int n ∧ (∀ l, lo = some l → l ≤ n) ∧ (∀ h, hi = some h → n ≤ h)
  | .tup xs, d => ∃ ds, d = .tup ds ∧ Gams xs ds
  | .tupOf lo hi x, d => ∃ ds, d = .tup ds ∧ (lo ≤ ds.length ∧ ds.length ≤ hi) ∧ ∀ e ∈ ds, Gam x e
  | .lst xs, d => ∃ r ds, d = .ref r ∧ g.ph r (.lst ds) ∧ Gams xs ds
  | .lstOf lo hi x, d => ∃ r ds, d = .ref r ∧ g.ph r (.lst ds) ∧ (lo ≤ ds.length ∧ ds.length ≤ hi) ∧ ∀ e ∈ ds, Gam x e
  | .own k, d => ∃ r, d = .ref r ∧ g.ro[k]? = some r
  | .un xs, d => GamU xs d
  | .rep x, d => ∃ p, d = .rep p ∧ GP x p
  | .bag, d => d = .ref W.bagr
  | .pr p, d => W.Pr p d ∧ ground d = true
  | .any, _ => True
def Gams : List SV → List D → Prop
  | [], ds => ds = []
  | x :: xs, ds => ∃ d ds', ds = d :: ds' ∧ Gam x d ∧ Gams xs ds'
def GamU : List SV → D → Prop
  | [], _ => False
  | x :: xs, d => Gam x d ∨ GamU xs d
def GP : PX → PyData → Prop
  | .c d, p => toPy [] 60 d = some p ∧ layS d = true
  | .v i, p => ∃ d, g.sg[i]? = some d ∧ toPy [] 60 d = some p ∧ layS d = true
  | .one ds, p => ∃ d ∈ ds, toPy [] 60 d = some p ∧ layS d = true
  | .int lo hi, p => ∃ n, p = .int n ∧ (∀ l, lo = some l → l ≤ n) ∧ (∀ h, hi = some h → n ≤ h)
  | .tup xs, p => ∃ ps, p = .tuple ps ∧ GPs xs ps
  | .lst xs, p => ∃ ps, p = .list ps ∧ GPs xs ps
def GPs : List PX → List PyData → Prop
  | [], ps => ps = []
  | x :: xs, ps => ∃ p ps', ps = p :: ps' ∧ GP x p ∧ GPs xs ps'
end
def LCG : LC → List D → Prop
  | .ex xs, ds => Gams W g xs ds
  | .of lo hi x, ds => (lo ≤ ds.length ∧ ds.length ≤ hi) ∧ ∀ e ∈ ds, Gam W g x e
def AOR : AO → Ob → Prop
  | .lst xs, o => ∃ ds, o = .lst ds ∧ Gams W g xs ds
  | .lstOf lo hi x, o => ∃ ds, o = .lst ds ∧ (lo ≤ ds.length ∧ ds.length ≤ hi) ∧ ∀ e ∈ ds, Gam W g x e
  | .dct kvs, o => ∃ ds, o = .dct ((kvs.map (·.1)).zip ds) ∧ Gams W g (kvs.map (·.2)) ds
  | .gone, _ => True
end
structure HRel (W : Wo) (δ : Nat) (s : SS) (g : Gh) (st : Sto) : Prop where
  len : g.ro.length = s.heap.length
  obs : ∀ (k : Nat) (o : AO) (r : Nat), s.heap[k]? = some o → g.ro[k]? = some r → ∃ c, st[r]? = some c ∧ AOR W g o c
  nd : g.ro.Nodup
  own : ∀ (k r : Nat), g.ro[k]? = some r → (r < st.length ∧ ¬ W.foot r ∧ W.base ≤ r) ∧ ∀ o, (s.heap[k]? ≠ some .gone → ¬ g.ph r o) ∧ ¬ W.Fr r o
  ph : ∀ (r : Nat) (o : Ob), g.ph r o → st[r]? = some o ∧ ¬ W.foot r ∧ (W.Ph r o ∨ W.base ≤ r)
  fr : ∀ (r : Nat) (o : Ob), W.Fr r o → st[r]? = some o ∧ ¬ W.foot r
  sl : g.sg.length = s.doms.length
  sd : ∀ (i : Nat) (d : D) (x : SV), g.sg[i]? = some d → s.doms[i]? = some x → Gam W g x d ∧ inR 0 0 x = true
  bag : W.B (s.lim + δ) st
  bas : W.base ≤ st.length
structure Gh.le (g g' : Gh) : Prop where
  sg : ∀ (i : Nat) (d : D), g.sg[i]? = some d → g'.sg[i]? = some d
  ro : ∀ (k r : Nat), g.ro[k]? = some r → g'.ro[k]? = some r
  ph : ∀ (r : Nat) (o : Ob), g.ph r o → g'.ph r o
def EnvR (W : Wo) (g : Gh) (se : List (Option SV)) (env : Env) : Prop := se.length = env.length ∧ ∀ (i : Nat) (x : SV), se[i]? = some (some x) → ∃ d, env[i]? = some (some d) ∧ Gam W g x d
structure Rel2 (W : Wo) (δ : Nat) (s : SS) (g : Gh) (env : Env) (st : Sto) : Prop where
  h : HRel W δ s g st
  e : EnvR W g s.env env

section
variable {W : Wo} {g g' g2 : Gh} {δ : Nat} {s s' : SS} {st st' : Sto} {env : Env}
theorem Gh.le.refl : g.le g := ⟨fun _ _ h => h, fun _ _ h => h, fun _ _ h => h⟩
theorem Gh.le.trans (a : g.le g') (b : g'.le g2) : g.le g2 := ⟨fun i d h => b.sg i d (a.sg i d h), fun k r h => b.ro k r (a.ro k r h), fun r o h => b.ph r o (a.ph r o h)⟩
mutual
theorem GP.mono (l : g.le g') : ∀ (x : PX) (p : PyData), GP W g x p → GP W g' x p
  | .c d, p, h => by rw [GP] at h ⊢; exact h
  | .v i, p, h => by rw [GP] at h ⊢; obtain ⟨d, a, b⟩ := h; exact ⟨d, l.sg i d a, b⟩
  | .one ds, p, h => by rw [GP] at h ⊢; exact h
  | .int _ _, p, h => by rw [GP] at h ⊢; exact h
  | .tup xs, p, h => by rw [GP] at h ⊢; obtain ⟨ps, a, b⟩ := h; exact ⟨ps, a, GPs.mono l xs ps b⟩
  | .lst xs, p, h => by rw [GP] at h ⊢; obtain ⟨ps, a, b⟩ := h; exact ⟨ps, a, GPs.mono l xs ps b⟩
theorem GPs.mono (l : g.le g') : ∀ (xs : List PX) (ps : List PyData), GPs W g xs ps → GPs W g' xs ps
  | [], _, h => by rw [GPs] at h ⊢; exact h
  | x :: xs, _, h => by rw [GPs] at h ⊢; obtain ⟨p, ps, a, b, c⟩ := h; exact ⟨p, ps, a, GP.mono l x p b, GPs.mono l xs ps c⟩
end
mutual
theorem Gam.mono (l : g.le g') : ∀ (x : SV) (d : D), Gam W g x d → Gam W g' x d
  | .c _, _, h => by rw [Gam] at h ⊢; exact h
  | .v i, d, h => by rw [Gam] at h ⊢; exact l.sg i d h
  | .one _, _, h => by rw [Gam] at h ⊢; exact h
  | .int _ _, _, h => by rw [Gam] at h ⊢; exact h
  | .tup xs, _, h => by rw [Gam] at h ⊢; obtain ⟨ds, a, b⟩ := h; exact ⟨ds, a, Gams.mono l xs ds b⟩
  | .tupOf lo hi x, _, h => by rw [Gam] at h ⊢; obtain ⟨ds, a, b, c⟩ := h; exact ⟨ds, a, b, fun e he => Gam.mono l x e (c e he)⟩
  | .lst xs, _, h => by rw [Gam] at h ⊢; obtain ⟨r, ds, a, p, b⟩ := h; exact ⟨r, ds, a, l.ph _ _ p, Gams.mono l xs ds b⟩
  | .lstOf lo hi x, _, h => by rw [Gam] at h ⊢; obtain ⟨r, ds, a, p, b, c⟩ := h; exact ⟨r, ds, a, l.ph _ _ p, b, fun e he => Gam.mono l x e (c e he)⟩
  | .own k, _, h => by rw [Gam] at h ⊢; obtain ⟨r, a, b⟩ := h; exact ⟨r, a, l.ro k r b⟩
  | .un xs, d, h => by rw [Gam] at h ⊢; exact GamU.mono l xs d h
  | .rep x, _, h => by rw [Gam] at h ⊢; obtain ⟨p, a, b⟩ := h; exact ⟨p, a, GP.mono l x p b⟩
  | .bag, _, h => by rw [Gam] at h ⊢; exact h
  | .pr _, _, h => by rw [Gam] at h ⊢; exact h
  | .any, _, h => by rw [Gam]; trivial
theorem Gams.mono (l : g.le g') : ∀ (xs : List SV) (ds : List D), Gams W g xs ds → Gams W g' xs ds
  | [], _, h => by rw [Gams] at h ⊢; exact h
  | x :: xs, _, h => by rw [Gams] at h ⊢; obtain ⟨p, ps, a, b, c⟩ := h; exact ⟨p, ps, a, Gam.mono l x p b, Gams.mono l xs ps c⟩
theorem GamU.mono (l : g.le g') : ∀ (xs : List SV) (d : D), GamU W g xs d → GamU W g' xs d
  | [], _, h => by rw [GamU] at h; exact h.elim
  | x :: xs, d, h => by
    rw [GamU] at h ⊢
    rcases h with h | h
    · exact .inl (Gam.mono l x d h)
    · exact .inr (GamU.mono l xs d h)
end
theorem LCG.mono (l : g.le g') {c : LC} {ds : List D} (h : LCG W g c ds) : LCG W g' c ds := by
  cases c with
  | ex xs => exact Gams.mono l xs ds h
  | of lo hi x => exact ⟨h.1, fun e he => Gam.mono l x e (h.2 e he)⟩
theorem AOR.mono (l : g.le g') {o : AO} {c : Ob} (h : AOR W g o c) : AOR W g' o c := by
  cases o with
  | lst xs => obtain ⟨ds, a, b⟩ := h; exact ⟨ds, a, Gams.mono l xs ds b⟩
  | lstOf lo hi x => obtain ⟨ds, a, b, c⟩ := h; exact ⟨ds, a, b, fun e he => Gam.mono l x e (c e he)⟩
  | dct kvs => obtain ⟨ds, a, b⟩ := h; exact ⟨ds, a, Gams.mono l _ ds b⟩
  | gone => trivial
theorem EnvR.mono (l : g.le g') {se : List (Option SV)} (h : EnvR W g se env) : EnvR W g' se env := ⟨h.1, fun i x e => let ⟨d, a, b⟩ := h.2 i x e; ⟨d, a, Gam.mono l x d b⟩⟩
theorem Gams.length : ∀ {xs : List SV} {ds : List D}, Gams W g xs ds → xs.length = ds.length
  | [], _, h => by rw [Gams] at h; subst h; rfl
  | x :: xs, _, h => by rw [Gams] at h; obtain ⟨p, ps, rfl, _, c⟩ := h; simp [Gams.length c]
theorem Gams.get : ∀ {xs : List SV} {ds : List D} {i : Nat} {x : SV}, Gams W g xs ds → xs[i]? = some x → ∃ d, ds[i]? = some d ∧ Gam W g x d
  | [], _, _, _, _, e => by simp at e
  | y :: xs, _, 0, x, h, e => by rw [Gams] at h; obtain ⟨p, ps, rfl, b, _⟩ := h; cases e; exact ⟨p, rfl, b⟩
  | y :: xs, _, i + 1, x, h, e => by rw [Gams] at h; obtain ⟨p, ps, rfl, _, c⟩ := h; exact Gams.get (i := i) c (by simpa using e)
theorem Gams.getD : ∀ {xs : List SV} {ds : List D} {i : Nat} {d : D}, Gams W g xs ds → ds[i]? = some d → ∃ x, xs[i]? = some x ∧ Gam W g x d
  | [], _, _, _, h, e => by rw [Gams] at h; subst h; simp at e
  | y :: xs, _, 0, x, h, e => by rw [Gams] at h; obtain ⟨p, ps, rfl, b, _⟩ := h; cases e; exact ⟨y, rfl, b⟩
  | y :: xs, _, i + 1, x, h, e => by rw [Gams] at h; obtain ⟨p, ps, rfl, _, c⟩ := h; exact Gams.getD (i := i) c (by simpa using e)
theorem Gams.append : ∀ {xs : List SV} {ds : List D} {ys : List SV} {es : List D}, Gams W g xs ds → Gams W g ys es → Gams W g (xs ++ ys) (ds ++ es)
  | [], _, _, _, h, h' => by rw [Gams] at h; subst h; exact h'
  | x :: xs, _, _, _, h, h' => by rw [Gams] at h; obtain ⟨p, ps, rfl, b, c⟩ := h; exact ⟨p, _, rfl, b, Gams.append c h'⟩
theorem Gams.take : ∀ {xs : List SV} {ds : List D} (n : Nat), Gams W g xs ds → Gams W g (xs.take n) (ds.take n)
  | _, _, 0, _ => rfl
  | [], _, n + 1, h => by rw [Gams] at h; subst h; rfl
  | x :: xs, _, n + 1, h => by rw [Gams] at h; obtain ⟨p, ps, rfl, b, c⟩ := h; exact ⟨p, _, rfl, b, Gams.take n c⟩
theorem Gams.drop : ∀ {xs : List SV} {ds : List D} (n : Nat), Gams W g xs ds → Gams W g (xs.drop n) (ds.drop n)
  | _, _, 0, h => h
  | [], _, n + 1, h => by rw [Gams] at h; subst h; rfl
  | x :: xs, _, n + 1, h => by rw [Gams] at h; obtain ⟨p, ps, rfl, b, c⟩ := h; exact Gams.drop n c
theorem Gams.set : ∀ {xs : List SV} {ds : List D} {x : SV} {d : D} (i : Nat), Gams W g xs ds → Gam W g x d → Gams W g (xs.set i x) (ds.set i d)
  | [], _, _, _, _, h, _ => by rw [Gams] at h; subst h; rfl
  | y :: xs, _, x, d, 0, h, r => by rw [Gams] at h; obtain ⟨p, ps, rfl, b, c⟩ := h; exact ⟨d, _, rfl, r, c⟩
  | y :: xs, _, x, d, i + 1, h, r => by rw [Gams] at h; obtain ⟨p, ps, rfl, b, c⟩ := h; exact ⟨p, _, rfl, b, Gams.set i c r⟩
theorem Gams.one {x : SV} {d : D} (h : Gam W g x d) : Gams W g [x] [d] := ⟨d, [], rfl, h, rfl⟩
theorem Gams.two {x y : SV} {d e : D} (h : Gam W g x d) (h' : Gam W g y e) : Gams W g [x, y] [d, e] := ⟨d, _, rfl, h, Gams.one h'⟩
theorem Gams.reverse : ∀ {xs : List SV} {ds : List D}, Gams W g xs ds → Gams W g xs.reverse ds.reverse
  | [], _, h => by rw [Gams] at h; subst h; rfl
  | x :: xs, _, h => by
    rw [Gams] at h; obtain ⟨p, ps, rfl, b, c⟩ := h
    rw [List.reverse_cons, List.reverse_cons]
    exact (Gams.reverse c).append (Gams.one b)
theorem Gams.mem : ∀ {xs : List SV} {ds : List D} {d : D}, Gams W g xs ds → d ∈ ds → ∃ x ∈ xs, Gam W g x d
  | xs, ds, d, h, hm => by
    obtain ⟨i, hi, rfl⟩ := List.getElem_of_mem hm
    obtain ⟨x, e, r⟩ := h.getD (List.getElem?_eq_getElem hi)
    exact ⟨x, List.mem_of_getElem? e, r⟩
theorem GamU.of_mem : ∀ {xs : List SV} {x : SV} {d : D}, x ∈ xs → Gam W g x d → GamU W g xs d
  | y :: xs, x, d, hm, h => by
    rw [GamU]
    rcases List.mem_cons.mp hm with e | hm
    · subst e; exact .inl h
    · exact .inr (GamU.of_mem hm h)
theorem GamU.mem : ∀ {xs : List SV} {d : D}, GamU W g xs d → ∃ x ∈ xs, Gam W g x d
  | [], _, h => by rw [GamU] at h; exact h.elim
  | y :: xs, d, h => by
    rw [GamU] at h
    rcases h with h | h
    · exact ⟨y, List.mem_cons_self, h⟩
    · obtain ⟨x, a, b⟩ := GamU.mem h; exact ⟨x, List.mem_cons_of_mem _ a, b⟩
theorem Gams.replicate {x : SV} {n : Nat} {ds : List D} (hn : ds.length = n) (h : ∀ e ∈ ds, Gam W g x e) : Gams W g (List.replicate n x) ds := by
  induction ds generalizing n with
  | nil => subst hn; rfl
  | cons d ds ih => subst hn; exact ⟨d, ds, rfl, h d List.mem_cons_self, ih rfl fun e he => h e (List.mem_cons_of_mem _ he)⟩
end
end PL

set_option Elab.async false
set_option linter.all false
set_option maxRecDepth 100000
set_option maxHeartbeats 4000000
/-! SXE: operations on known values do not hang on the store. -/
namespace PL
open PySem L2

mutual
theorem toPy_mono {st : Sto} : ∀ (n : Nat) (d : D) {p : PyData}, toPy [] n d = some p → toPy st n d = some p
  | n, .non, p, h => by cases n <;> exact h
  | n, .bl _, p, h => by cases n <;> exact h
  | n, .int _, p, h => by cases n <;> exact h
  | n, .str _, p, h => by cases n <;> exact h
  | n, .rep _, p, h => by cases n <;> simp [toPy] at h
  | n, .ref _, p, h => by cases n <;> simp [toPy] at h
  | 0, .tup _, p, h => by simp [toPy] at h
  | 0, .scr _, p, h => by simp [toPy] at h
  | n + 1, .tup xs, p, h => by
    rw [toPy] at h ⊢
    obtain ⟨ps, a, rfl⟩ := Option.map_eq_some_iff.mp h
    rw [toPys_mono n xs a]; rfl
  | n + 1, .scr xs, p, h => by
    rw [toPy] at h ⊢
    obtain ⟨ps, a, rfl⟩ := Option.map_eq_some_iff.mp h
    rw [toPys_mono n xs a]; rfl
theorem toPys_mono {st : Sto} : ∀ (n : Nat) (ds : List D) {ps : List PyData}, optMap (toPy [] n) ds = some ps → optMap (toPy st n) ds = some ps
  | n, [], ps, h => h
  | n, d :: ds, ps, h => by
    rw [optMap] at h ⊢
    split at h
    · cases h
    · rename_i b e
      split at h
      · cases h
      · rename_i r e2
        rw [toPy_mono n d e, toPys_mono n ds e2]
        exact h
end
theorem eqD_indep {st : Sto} {a b : D} {k : Bool} (h : eqD [] a b = some k) : eqD st a b = some k := by
  unfold eqD at h ⊢
  split at h <;> first | exact h | skip
  · split at h <;> first | (cases h; done) | skip
    rename_i x y e1 e2
    simp only [toPy_mono _ _ e1, toPy_mono _ _ e2]
    exact h
theorem inD_indep {st : Sto} {a b : D} {k : Bool} (h : inD [] a b = some k) : inD st a b = some k := by
  unfold inD at h ⊢
  split at h
  · rename_i x ys e1 e2
    simp only [toPy_mono _ _ e1, toPy_mono _ _ e2]
    exact h
  · rename_i x ys e1 e2
    simp only [toPy_mono _ _ e1, toPy_mono _ _ e2]
    exact h
  · cases h
theorem cmpD_indep {st : Sto} {op : Cop} {a b : D} {k : Bool} (h : cmpD op a b [] = some k) : cmpD op a b st = some k := by
  unfold cmpD at h ⊢
  split at h <;> first | exact h | exact eqD_indep h | exact inD_indep h | skip
  · obtain ⟨z, e, rfl⟩ := Option.map_eq_some_iff.mp h
    rw [eqD_indep e]; rfl
  · obtain ⟨z, e, rfl⟩ := Option.map_eq_some_iff.mp h
    rw [inD_indep e]; rfl
theorem truth_indep {st : Sto} {d : D} {k : Bool} (h : truth [] d = some k) : truth st d = some k := by
  cases d <;> first | exact h | (simp [truth] at h)
theorem pureD_some {r : Res D} {e : D} (h : pureD r = some e) : r = .ok e [] ∧ scal e = true := by
  unfold pureD at h
  split at h
  · split at h
    · rename_i hs; cases h; exact ⟨rfl, hs⟩
    · cases h
  · cases h
theorem liftO_nil {o : Option D} {e : D} {st : Sto} (h : liftO o [] = .ok e []) : liftO o st = .ok e st := by
  cases o with
  | none => cases h
  | some a => cases h; rfl
theorem ite_nil {c : Prop} [Decidable c] {a e : D} {st : Sto} (h : (if c then Res.ok a ([] : Sto) else .bad) = .ok e []) : (if c then Res.ok a st else .bad) = .ok e st := by
  split at h
  · rename_i hc; cases h; rw [if_pos hc]
  · cases h
theorem binD_indep {st : Sto} {op : Bop} {a b e : D} (h : binD op a b [] = .ok e []) : binD op a b st = .ok e st := by
  unfold binD at h ⊢
  split at h <;> first | exact ite_nil h | (cases h; rfl) | skip
  all_goals (simp at h)
theorem idxD_indep {st : Sto} {a b e : D} (h : idxD a b [] = .ok e []) : idxD a b st = .ok e st := by
  unfold idxD at h ⊢
  split at h <;> first | exact liftO_nil h | skip
  · split at h
    · rename_i hc; rw [if_pos hc]; exact liftO_nil h
    · cases h
  · simp at h
  · cases h
theorem slD_indep {st : Sto} {a lo hi e : D} (h : slD a lo hi [] = .ok e []) : slD a lo hi st = .ok e st := by
  unfold slD at h ⊢
  split at h <;> first | exact ite_nil h | (cases h; rfl) | skip
  all_goals first | (simp at h; done) | (cases h)
theorem len_indep {st : Sto} {d e : D} (h : bltD .len [d] [] = .ok e []) : bltD .len [d] st = .ok e st := by
  unfold bltD at h ⊢
  cases d <;> first | exact ite_nil h | (cases h; rfl) | (simp at h) 
theorem abs_indep {st : Sto} {d e : D} (h : bltD .abs [d] [] = .ok e []) : bltD .abs [d] st = .ok e st := by
  unfold bltD at h ⊢
  cases d <;> first | (cases h; rfl) | (simp at h)
theorem int_indep {st : Sto} {d e : D} (h : bltD .int [d] [] = .ok e []) : bltD .int [d] st = .ok e st := by
  unfold bltD at h ⊢
  cases d <;> first | (cases h; rfl) | (simp at h)
theorem strI_indep {st : Sto} {d e : D} (h : bltD .strI [d] [] = .ok e []) : bltD .strI [d] st = .ok e st := by
  unfold bltD at h ⊢
  cases d <;> first | exact ite_nil h | (cases h; rfl) | (simp at h)
theorem min_indep {st : Sto} {d f e : D} (h : bltD .min2 [d, f] [] = .ok e []) : bltD .min2 [d, f] st = .ok e st := by
  unfold bltD at h ⊢
  cases d <;> cases f <;> first | (cases h; rfl) | (simp at h)
theorem max_indep {st : Sto} {d f e : D} (h : bltD .max2 [d, f] [] = .ok e []) : bltD .max2 [d, f] st = .ok e st := by
  unfold bltD at h ⊢
  cases d <;> cases f <;> first | (cases h; rfl) | (simp at h)
theorem tyD_indep {st : Sto} {d : D} {t : Ty} (h : tyD [] d = some t) : tyD st d = some t := by
  cases d <;> first | exact h | (simp [tyD] at h)
theorem isiD_indep {st : Sto} {t : Ty} {d : D} {k : Bool} (h : isiD [] t d = some k) : isiD st t d = some k := by
  unfold isiD at h ⊢
  split at h
  · exact h
  · split at h
    · rename_i u e; simp only [tyD_indep e]; exact h
    · cases h
theorem natsB_eq : ∀ {a b : List Nat}, (natsB a b = true) = (a = b)
  | [], [] => by simp [natsB]
  | [], _ :: _ => by simp [natsB]
  | _ :: _, [] => by simp [natsB]
  | a :: l, b :: r => by
    rw [natsB]
    by_cases h : a = b
    · subst h
      have : Nat.beq a a = true := Nat.beq_refl a
      rw [this]; simp [natsB_eq]
    · have : Nat.beq a b = false := by
        cases e : Nat.beq a b with
        | true => exact absurd (Nat.eq_of_beq_eq_true e) h
        | false => rfl
      rw [this]; simp [h]
theorem strB_eq {x y : Str} : strB x y = decide (x = y) := by
  have : (strB x y = true) = (x = y) := by
    unfold strB
    rw [natsB_eq]
    cases x; cases y
    simp
  by_cases h : x = y
  · rw [decide_eq_true h]; exact this.mpr h
  · rw [decide_eq_false h]
    cases e : strB x y with
    | false => rfl
    | true => rw [this] at e; exact absurd e h
theorem deq_eq : ∀ {a b : D}, deq a b = true → a = b := by
  intro a b h
  unfold deq at h
  split at h
  · rfl
  · simp at h; rw [h]
  · simp at h; rw [h]
  · rw [strB_eq] at h; simp at h; rw [h]
  · cases h
theorem cmpQ_indep {st : Sto} {op : Cop} {a b : D} {k : Bool} (h : cmpQ op a b = some k) : cmpD op a b st = some k := by
  unfold cmpQ at h
  split at h
  · rw [strB_eq] at h; exact h
  · rw [strB_eq] at h; exact h
  · exact cmpD_indep h
theorem memD_mem {d : D} {ds : List D} (h : memD d ds = true) : d ∈ ds := by
  unfold memD at h
  rw [List.any_eq_true] at h
  obtain ⟨e, he, q⟩ := h
  rw [deq_eq q]; exact he
end PL

set_option Elab.async false
set_option linter.all false
set_option maxRecDepth 100000
set_option maxHeartbeats 4000000
/-! SXF: states: what is asked, laid, changed. -/
namespace PL
open PySem L2
section
variable {α β : Type}
theorem bindM_some {m : Option (List (α × SS))} {f : α → SS → Option (List (β × SS))} {l : List (β × SS)} (h : bindM m f = some l) : ∃ l1, m = some l1 ∧ goM f l1 = some l := by
  unfold bindM at h
  split at h
  · cases h
  · rename_i l1; exact ⟨l1, rfl, h⟩
theorem goM_mem {f : α → SS → Option (List (β × SS))} : ∀ {l1 : List (α × SS)} {l : List (β × SS)} {a : α} {s : SS}, goM f l1 = some l → (a, s) ∈ l1 → ∃ l2, f a s = some l2 ∧ ∀ q ∈ l2, q ∈ l
  | [], _, _, _, _, hm => by cases hm
  | (b, t) :: r, l, a, s, h, hm => by
    rw [goM] at h
    split at h
    · cases h
    · rename_i x e
      split at h
      · cases h
      · rename_i y e2
        cases h
        rcases List.mem_cons.mp hm with z | hm
        · cases z; exact ⟨x, e, fun q hq => List.mem_append.mpr (.inl hq)⟩
        · obtain ⟨l2, e3, k⟩ := goM_mem e2 hm
          exact ⟨l2, e3, fun q hq => List.mem_append.mpr (.inr (k q hq))⟩
end
section
variable {W : Wo} {g g' g2 : Gh} {δ : Nat} {s s' : SS} {st st' : Sto} {env : Env} {x y : SV} {d e : D}
theorem HRel.shG (h : HRel W δ s g st) (hx : Gam W g x d) : Gam W g (sh s x) d := by
  unfold sh
  split
  · rename_i i
    split
    · rename_i y e
      rw [Gam] at hx
      exact (h.sd i d y hx e).1
    · rw [Gam]; trivial
  · exact hx
theorem mk1_ok {ds : List D} (h : d ∈ ds) : Gam W g (mk1 ds) d ∧ inR 0 0 (mk1 ds) = true := by
  unfold mk1
  split
  · simp at h; subst h; exact ⟨rfl, rfl⟩
  · exact ⟨h, rfl⟩
theorem HRel.setD (h : HRel W δ s g st) {i : Nat} (hd : g.sg[i]? = some d) (hy : Gam W g y d) (hin : inR 0 0 y = true) : HRel W δ (s.setD i y) g st := by
  refine ⟨h.len, h.obs, h.nd, h.own, h.ph, h.fr, ?_, ?_, h.bag, h.bas⟩
  · unfold SS.setD; simp only [List.length_set]; exact h.sl
  · intro j e z h1 h2
    unfold SS.setD at h2
    by_cases hj : i = j
    · subst hj
      rw [hd] at h1; cases h1
      have hi : i < s.doms.length := by rw [← h.sl]; exact (List.getElem?_eq_some_iff.mp hd).1
      simp only [List.getElem?_set_self hi] at h2
      cases h2; exact ⟨hy, hin⟩
    · simp only [List.getElem?_set_ne hj] at h2
      exact h.sd j e z h1 h2
theorem Rel2.setD (h : Rel2 W δ s g env st) {i : Nat} (hd : g.sg[i]? = some d) (hy : Gam W g y d) (hin : inR 0 0 y = true) : Rel2 W δ (s.setD i y) g env st := ⟨h.h.setD hd hy hin, h.e⟩
def Gh.push (g : Gh) (r : Nat) : Gh := { g with ro := g.ro ++ [r] }
theorem Gh.le_push {r : Nat} : g.le (g.push r) := ⟨fun _ _ h => h, fun k q h => by
  unfold Gh.push
  simp only
  rw [List.getElem?_append_left (List.getElem?_eq_some_iff.mp h).1]; exact h, fun _ _ h => h⟩
theorem HRel.alloc (h : HRel W δ s g st) {o : AO} {c : Ob} (ho : AOR W g o c) : HRel W δ (alloc s o).2 (g.push st.length) (st ++ [c]) ∧ Gam W (g.push st.length) (alloc s o).1 (.ref st.length) := by
  have l := Gh.le_push (g := g) (r := st.length)
  refine ⟨⟨?_, ?_, ?_, ?_, ?_, ?_, h.sl, ?_, ?_, ?_⟩, ?_⟩
  · unfold Gh.push PL.alloc; simp [h.len]
  · intro k ob r h1 h2
    unfold PL.alloc at h1
    unfold Gh.push at h2
    simp only at h1 h2
    rcases get_snoc h1 with h1 | ⟨e1, e2⟩ <;> rcases get_snoc h2 with h2 | ⟨e3, e4⟩
    · obtain ⟨c', a, b⟩ := h.obs k ob r h1 h2
      exact ⟨c', get_app a, b.mono l⟩
    · have := (List.getElem?_eq_some_iff.mp h1).1; rw [← h.len] at this; omega
    · have := (List.getElem?_eq_some_iff.mp h2).1; rw [h.len] at this; omega
    · subst e2; subst e4; exact ⟨c, get_new, ho.mono l⟩
  · unfold Gh.push; simp only
    rw [List.nodup_append]
    refine ⟨h.nd, by simp, fun a ha b hb => ?_⟩
    simp at hb; subst hb
    obtain ⟨j, hj, rfl⟩ := List.getElem_of_mem ha
    have := (h.own j _ (List.getElem?_eq_getElem hj)).1.1; omega
  · intro k r hr
    unfold Gh.push at hr
    simp only at hr
    rcases get_snoc hr with hr | ⟨hk, hr⟩
    · obtain ⟨⟨a, b, c'⟩, d'⟩ := h.own k r hr
      refine ⟨⟨by simp; omega, b, c'⟩, fun o => ⟨fun hg => (d' o).1 fun z => hg ?_, (d' o).2⟩⟩
      unfold PL.alloc; simp only
      have hk := (List.getElem?_eq_some_iff.mp z).1
      rw [List.getElem?_append_left hk]; exact z
    · subst hr
      refine ⟨⟨by simp, fun hf => ?_, h.bas⟩, fun o => ⟨fun _ hp => ?_, fun hp => ?_⟩⟩
      · have := W.Bfoot _ _ _ h.bag hf; omega
      · have := (List.getElem?_eq_some_iff.mp (h.ph _ o hp).1).1; omega
      · have := (List.getElem?_eq_some_iff.mp (h.fr _ o hp).1).1; omega
  · intro r o hp; obtain ⟨a, b⟩ := h.ph r o hp; exact ⟨get_app a, b⟩
  · intro r o hp; obtain ⟨a, b⟩ := h.fr r o hp; exact ⟨get_app a, b⟩
  · intro i d x h1 h2; obtain ⟨a, b⟩ := h.sd i d x h1 h2; exact ⟨Gam.mono l _ _ a, b⟩
  · exact W.Bkeep _ _ _ (fun r o _ e => get_app e) (by simp) h.bag
  · have := h.bas; simp; omega
  · unfold PL.alloc Gh.push
    rw [Gam]
    exact ⟨_, rfl, by simp only; rw [← h.len]; simp⟩
theorem Rel2.alloc (h : Rel2 W δ s g env st) {o : AO} {c : Ob} (ho : AOR W g o c) : Rel2 W δ (PL.alloc s o).2 (g.push st.length) env (st ++ [c]) ∧ Gam W (g.push st.length) (PL.alloc s o).1 (.ref st.length) :=
  ⟨⟨(h.h.alloc ho).1, h.e.mono Gh.le_push⟩, (h.h.alloc ho).2⟩
theorem HRel.setH (h : HRel W δ s g st) {k r : Nat} {o : AO} {c : Ob} (hk : g.ro[k]? = some r) (hng : s.heap[k]? ≠ some .gone) (ho : AOR W g o c) : HRel W δ (s.setH k o) g (st.set r c) := by
  have hr := h.own k r hk
  refine ⟨?_, ?_, h.nd, ?_, ?_, ?_, h.sl, h.sd, ?_, ?_⟩
  · unfold SS.setH; simp [h.len]
  · intro j ob q h1 h2
    unfold SS.setH at h1
    by_cases hj : k = j
    · subst hj
      rw [hk] at h2; cases h2
      have hi : k < s.heap.length := by rw [← h.len]; exact (List.getElem?_eq_some_iff.mp hk).1
      simp only [List.getElem?_set_self hi] at h1
      cases h1
      exact ⟨c, List.getElem?_set_self hr.1.1, ho⟩
    · simp only [List.getElem?_set_ne hj] at h1
      obtain ⟨c', a, b⟩ := h.obs j ob q h1 h2
      refine ⟨c', ?_, b⟩
      rw [List.getElem?_set_ne]
      · exact a
      · intro z; subst z
        obtain ⟨h3, h4⟩ := List.getElem?_eq_some_iff.mp hk
        obtain ⟨h5, h6⟩ := List.getElem?_eq_some_iff.mp h2
        exact hj ((List.getElem_inj h.nd).mp (h4.trans h6.symm))
  · intro j q hq
    obtain ⟨⟨a, b, c'⟩, d'⟩ := h.own j q hq
    refine ⟨⟨by simpa using a, b, c'⟩, fun ob => ⟨fun hg => ?_, (d' ob).2⟩⟩
    by_cases hj : k = j
    · subst hj
      rw [hk] at hq; cases hq
      exact (hr.2 ob).1 hng
    · refine (d' ob).1 fun z => hg ?_
      unfold SS.setH; simp only
      rw [List.getElem?_set_ne hj]; exact z
  · intro q ob hp
    obtain ⟨a, b⟩ := h.ph q ob hp
    refine ⟨?_, b⟩
    rw [List.getElem?_set_ne]
    · exact a
    · intro z; subst z; exact (hr.2 ob).1 hng hp
  · intro q ob hp
    obtain ⟨a, b⟩ := h.fr q ob hp
    refine ⟨?_, b⟩
    rw [List.getElem?_set_ne]
    · exact a
    · intro z; subst z; exact (hr.2 ob).2 hp
  · refine W.Bkeep _ _ _ (fun q ob hf e => ?_) (by simp) h.bag
    rw [List.getElem?_set_ne]
    · exact e
    · intro z; subst z; exact hr.1.2.1 hf
  · simpa using h.bas
theorem Rel2.setH (h : Rel2 W δ s g env st) {k r : Nat} {o : AO} {c : Ob} (hk : g.ro[k]? = some r) (hng : s.heap[k]? ≠ some .gone) (ho : AOR W g o c) : Rel2 W δ (s.setH k o) g env (st.set r c) := ⟨h.h.setH hk hng ho, h.e⟩
theorem HRel.freeze (h : HRel W δ s g st) {k r : Nat} {ob : Ob} (hk : g.ro[k]? = some r) (hs : st[r]? = some ob) : HRel W δ (s.setH k .gone) { g with ph := fun q o => g.ph q o ∨ (q = r ∧ o = ob) } st := by
  have hr := h.own k r hk
  have l : g.le { g with ph := fun q o => g.ph q o ∨ (q = r ∧ o = ob) } := ⟨fun _ _ h => h, fun _ _ h => h, fun _ _ h => .inl h⟩
  have hi : k < s.heap.length := by rw [← h.len]; exact (List.getElem?_eq_some_iff.mp hk).1
  refine ⟨?_, ?_, h.nd, ?_, ?_, h.fr, h.sl, ?_, h.bag, h.bas⟩
  · unfold SS.setH; simp [h.len]
  · intro j o q h1 h2
    unfold SS.setH at h1
    by_cases hj : k = j
    · subst hj
      simp only [List.getElem?_set_self hi] at h1
      cases h1
      rw [hk] at h2; cases h2
      exact ⟨ob, hs, trivial⟩
    · simp only [List.getElem?_set_ne hj] at h1
      obtain ⟨c', a, b⟩ := h.obs j o q h1 h2
      exact ⟨c', a, b.mono l⟩
  · intro j q hq
    obtain ⟨a, d'⟩ := h.own j q hq
    refine ⟨a, fun o => ⟨fun hg hp => ?_, (d' o).2⟩⟩
    by_cases hj : k = j
    · subst hj
      exact hg (by unfold SS.setH; simp only [List.getElem?_set_self hi])
    · rcases hp with hp | ⟨rfl, _⟩
      · refine (d' o).1 (fun z => hg ?_) hp
        unfold SS.setH; simp only
        rw [List.getElem?_set_ne hj]; exact z
      · obtain ⟨h3, h4⟩ := List.getElem?_eq_some_iff.mp hk
        obtain ⟨h5, h6⟩ := List.getElem?_eq_some_iff.mp hq
        exact hj ((List.getElem_inj h.nd).mp (h4.trans h6.symm))
  · intro q o hp
    rcases hp with hp | ⟨rfl, rfl⟩
    · exact h.ph q o hp
    · exact ⟨hs, hr.1.2.1, .inr hr.1.2.2⟩
  · intro i d x h1 h2
    obtain ⟨a, b⟩ := h.sd i d x h1 h2
    exact ⟨Gam.mono l _ _ a, b⟩
theorem lcOf_ok (h : HRel W δ s g st) (hx : Gam W g x d) {c : LC} (e : lcOf s x = some c) : ∃ r ds, d = .ref r ∧ st[r]? = some (.lst ds) ∧ LCG W g c ds := by
  have hs := h.shG hx
  unfold lcOf at e
  split at e
  · rename_i q; rw [q, Gam] at hs
    cases e
    obtain ⟨r, ds, a, b, c⟩ := hs
    exact ⟨r, ds, a, (h.ph _ _ b).1, c⟩
  · rename_i q; rw [q, Gam] at hs
    cases e
    obtain ⟨r, ds, a, b, c, c'⟩ := hs
    exact ⟨r, ds, a, (h.ph _ _ b).1, c, c'⟩
  · rename_i k q; rw [q, Gam] at hs
    obtain ⟨r, a, b⟩ := hs
    split at e
    · rename_i q2
      cases e
      obtain ⟨c', h1, ds, rfl, h2⟩ := h.obs k _ r q2 b
      exact ⟨r, ds, a, h1, h2⟩
    · rename_i q2
      cases e
      obtain ⟨c', h1, ds, rfl, h2⟩ := h.obs k _ r q2 b
      exact ⟨r, ds, a, h1, h2⟩
    · cases e
  · cases e
theorem tcOf_ok (h : HRel W δ s g st) (hx : Gam W g x d) {c : LC} (e : tcOf s x = some c) : ∃ ds, d = .tup ds ∧ LCG W g c ds := by
  have hs := h.shG hx
  unfold tcOf at e
  split at e
  · rename_i q; rw [q, Gam] at hs
    cases e
    obtain ⟨ds, a, b⟩ := hs
    exact ⟨ds, a, b⟩
  · rename_i q; rw [q, Gam] at hs
    cases e
    obtain ⟨ds, a, b, c⟩ := hs
    exact ⟨ds, a, b, c⟩
  · cases e
mutual
theorem constOf_ok (h : HRel W δ s g st) : ∀ (x : SV) {d e : D}, Gam W g x d → constOf s x = some e → d = e
  | .c _, d, e, hx, q => by rw [constOf] at q; cases q; rw [Gam] at hx; exact hx
  | .v i, d, e, hx, q => by
    rw [constOf] at q
    rw [Gam] at hx
    split at q
    · rename_i d' hq
      cases q
      have := (h.sd i d _ hx hq).1
      rw [Gam] at this; exact this
    · cases q
  | .tup xs, d, e, hx, q => by
    rw [constOf] at q
    split at q
    · rename_i ds hq
      cases q
      rw [Gam] at hx
      obtain ⟨ds', rfl, b⟩ := hx
      rw [constsOf_ok h xs b hq]
    · cases q
  | .one _, _, _, _, q => by simp [constOf] at q
  | .int _ _, _, _, _, q => by simp [constOf] at q
  | .tupOf _ _ _, _, _, _, q => by simp [constOf] at q
  | .lst _, _, _, _, q => by simp [constOf] at q
  | .lstOf _ _ _, _, _, _, q => by simp [constOf] at q
  | .own _, _, _, _, q => by simp [constOf] at q
  | .un _, _, _, _, q => by simp [constOf] at q
  | .rep _, _, _, _, q => by simp [constOf] at q
  | .bag, _, _, _, q => by simp [constOf] at q
  | .pr _, _, _, _, q => by simp [constOf] at q
  | .any, _, _, _, q => by simp [constOf] at q
theorem constsOf_ok (h : HRel W δ s g st) : ∀ (xs : List SV) {ds es : List D}, Gams W g xs ds → constsOf s xs = some es → ds = es
  | [], ds, es, hx, q => by rw [constsOf] at q; cases q; rw [Gams] at hx; exact hx
  | x :: xs, ds, es, hx, q => by
    rw [constsOf] at q
    rw [Gams] at hx
    obtain ⟨d, ds', rfl, a, b⟩ := hx
    split at q
    · cases q
    · rename_i d' e1
      split at q
      · cases q
      · rename_i ds'' e2
        cases q
        rw [constOf_ok h x a e1, constsOf_ok h xs b e2]
end
mutual
theorem ofD_ok : ∀ (d : D) {x : SV}, ofD d = some x → Gam W g x d ∧ inR 0 0 x = true
  | .tup ds, x, h => by
    rw [ofD] at h
    split at h
    · rename_i xs e
      cases h
      obtain ⟨a, b⟩ := ofDs_ok ds e
      exact ⟨⟨ds, rfl, a⟩, by rw [inR]; exact b⟩
    · cases h
  | .non, x, h => by rw [ofD] at h; cases h; exact ⟨rfl, rfl⟩
  | .bl _, x, h => by rw [ofD] at h; cases h; exact ⟨rfl, rfl⟩
  | .int _, x, h => by rw [ofD] at h; cases h; exact ⟨rfl, rfl⟩
  | .str _, x, h => by rw [ofD] at h; cases h; exact ⟨rfl, rfl⟩
  | .ref _, x, h => by simp [ofD] at h
  | .rep _, x, h => by simp [ofD] at h
  | .scr _, x, h => by simp [ofD] at h
theorem ofDs_ok : ∀ (ds : List D) {xs : List SV}, ofDs ds = some xs → Gams W g xs ds ∧ inRs 0 0 xs = true
  | [], xs, h => by rw [ofDs] at h; cases h; exact ⟨rfl, rfl⟩
  | d :: ds, xs, h => by
    rw [ofDs] at h
    split at h
    · cases h
    · rename_i x e1
      split at h
      · cases h
      · rename_i ys e2
        cases h
        obtain ⟨a, b⟩ := ofD_ok d e1
        obtain ⟨a', b'⟩ := ofDs_ok ds e2
        exact ⟨⟨d, ds, rfl, a, a'⟩, by rw [inRs, b, b']; rfl⟩
end
theorem fin_ok (h : HRel W δ s g st) (hx : Gam W g x d) {ds : List D} (e : fin s x = some ds) : d ∈ ds := by
  have hs := h.shG hx
  unfold fin at e
  split at e
  · rename_i q; rw [q, Gam] at hs; cases e; simp [hs]
  · rename_i q; rw [q, Gam] at hs; cases e; exact hs
  · cases e
theorem cases1_ok (h : Rel2 W δ s g env st) (hx : Gam W g x d) {l : List (D × SS)} (e : cases1 s x = some l) : ∃ s', (d, s') ∈ l ∧ Rel2 W δ s' g env st := by
  unfold cases1 at e
  split at e
  · rename_i i
    rw [Gam] at hx
    split at e
    · rename_i d' q
      cases e
      have := (h.h.sd i d _ hx q).1
      rw [Gam] at this
      subst this
      exact ⟨s, List.mem_singleton.mpr rfl, h⟩
    · rename_i ds q
      cases e
      have := (h.h.sd i d _ hx q).1
      rw [Gam] at this
      exact ⟨_, List.mem_map.mpr ⟨d, this, rfl⟩, h.setD hx rfl rfl⟩
    · rename_i a b q
      split at e
      · rename_i hab
        cases e
        have := (h.h.sd i d _ hx q).1
        rw [Gam] at this
        obtain ⟨n, rfl, h1, h2⟩ := this
        have h1 := h1 a rfl
        have h2 := h2 b rfl
        refine ⟨s.setD i (.c (.int (a + ((n - a).toNat : Int)))), List.mem_map.mpr ⟨(n - a).toNat, List.mem_range.mpr (by omega), ?_⟩, h.setD hx ?_ rfl⟩
        · have : a + ((n - a).toNat : Int) = n := by omega
          rw [this]
        · have : a + ((n - a).toNat : Int) = n := by omega
          rw [this]; rfl
      · cases e
    · cases e
  · cases e; rw [Gam] at hx; subst hx; exact ⟨s, List.mem_singleton.mpr rfl, h⟩
  · cases e; rw [Gam] at hx; exact ⟨s, List.mem_map.mpr ⟨d, hx, rfl⟩, h⟩
  · cases e
theorem rngs_ok : ∀ {ds : List D} {lo hi : Int}, rngs ds = some (lo, hi) → ∀ d ∈ ds, ∃ n, d = .int n ∧ lo ≤ n ∧ n ≤ hi
  | ds, lo, hi, e, d, hd => by
    unfold rngs at e
    split at e
    · rename_i n
      cases e; simp at hd; exact ⟨_, hd, Int.le_refl _, Int.le_refl _⟩
    · rename_i n r _
      split at e
      · rename_i lo' hi' q
        cases e
        rcases List.mem_cons.mp hd with rfl | hd
        · refine ⟨n, rfl, ?_, ?_⟩ <;> split <;> omega
        · obtain ⟨m, rfl, h1, h2⟩ := rngs_ok q d hd
          refine ⟨m, rfl, ?_, ?_⟩ <;> split <;> omega
      · cases e
    · cases e
theorem rng_ok (h : HRel W δ s g st) (hx : Gam W g x d) {p : Option Int × Option Int} (e : rng s x = some p) : ∃ n, d = .int n ∧ (∀ l, p.1 = some l → l ≤ n) ∧ (∀ h, p.2 = some h → n ≤ h) := by
  have hs := h.shG hx
  unfold rng rng1 at e
  split at e
  · rename_i n q; rw [q, Gam] at hs
    cases e
    exact ⟨n, hs, fun l hl => by cases hl; exact Int.le_refl _, fun l hl => by cases hl; exact Int.le_refl _⟩
  · rename_i q; rw [q, Gam] at hs; cases e; exact hs
  · rename_i q; rw [q, Gam] at hs
    split at e
    · rename_i lo hi q2
      cases e
      obtain ⟨n, a, b, c⟩ := rngs_ok q2 d hs
      exact ⟨n, a, fun l hl => by cases hl; exact b, fun l hl => by cases hl; exact c⟩
    · cases e
  · cases e
theorem sift_ok {f : D → Option Bool} : ∀ {ds ts fs : List D}, sift f ds = some (ts, fs) → ∀ d ∈ ds, ∃ b, f d = some b ∧ (b = true → d ∈ ts) ∧ (b = false → d ∈ fs)
  | [], _, _, _, d, hd => by cases hd
  | c :: r, ts, fs, h, d, hd => by
    rw [sift] at h
    split at h
    · cases h
    · rename_i b e1
      split at h
      · cases h
      · rename_i ts' fs' e2
        rcases List.mem_cons.mp hd with rfl | hd
        · refine ⟨b, e1, ?_⟩
          split at h <;> cases h
          · exact ⟨fun _ => List.mem_cons_self, fun z => by cases z⟩
          · exact ⟨fun z => by (cases z), fun _ => List.mem_cons_self⟩
        · obtain ⟨k, a, p, q⟩ := sift_ok e2 d hd
          refine ⟨k, a, ?_⟩
          split at h <;> cases h
          · exact ⟨fun z => List.mem_cons_of_mem _ (p z), q⟩
          · exact ⟨p, fun z => List.mem_cons_of_mem _ (q z)⟩
/-- of what is asked one outcome is right -/
def Asks (W : Wo) (δ : Nat) (g : Gh) (env : Env) (st : Sto) (l : List (Bool × SS)) (b : Bool) : Prop := ∃ s', (b, s') ∈ l ∧ Rel2 W δ s' g env st
theorem prt_ok (h : Rel2 W δ s g env st) {i : Nat} (hx : g.sg[i]? = some d) {ds : List D} (hd : d ∈ ds) {f : D → Option Bool} {l : List (Bool × SS)} (e : part s i ds f = some l) : ∃ b, f d = some b ∧ Asks W δ g env st l b := by
  unfold part at e
  split at e
  · cases e
  · rename_i fs q
    cases e
    obtain ⟨b, a, p, _⟩ := sift_ok q d hd
    cases b
    · exact ⟨false, a, s, List.mem_singleton.mpr rfl, h⟩
    · exact absurd (p rfl) (by simp)
  · rename_i ts _ q
    cases e
    obtain ⟨b, a, _, p⟩ := sift_ok q d hd
    cases b
    · exact absurd (p rfl) (by simp)
    · exact ⟨true, a, s, List.mem_singleton.mpr rfl, h⟩
  · rename_i ts fs q
    cases e
    obtain ⟨b, a, p, p'⟩ := sift_ok q d hd
    cases b
    · obtain ⟨u, v⟩ := mk1_ok (W := W) (g := g) (p' rfl)
      exact ⟨false, a, _, by simp, h.setD hx u v⟩
    · obtain ⟨u, v⟩ := mk1_ok (W := W) (g := g) (p rfl)
      exact ⟨true, a, _, by simp, h.setD hx u v⟩
theorem ask1_ok (h : Rel2 W δ s g env st) (hx : Gam W g x d) {f : D → Option Bool} {l : List (Bool × SS)} (e : ask1 s x f = some l) : ∃ b, f d = some b ∧ Asks W δ g env st l b := by
  unfold ask1 at e
  split at e
  · rename_i i
    rw [Gam] at hx
    split at e
    · rename_i d' q
      have := (h.h.sd i d _ hx q).1
      rw [Gam] at this
      subst this
      split at e
      · rename_i b q2
        cases e; exact ⟨b, q2, s, List.mem_singleton.mpr rfl, h⟩
      · cases e
    · rename_i ds q
      have := (h.h.sd i d _ hx q).1
      rw [Gam] at this
      exact prt_ok h hx this e
    · cases e
  · rw [Gam] at hx
    subst hx
    split at e
    · rename_i b q2
      cases e; exact ⟨b, q2, s, List.mem_singleton.mpr rfl, h⟩
    · cases e
  · rename_i ds
    rw [Gam] at hx
    split at e
    · cases e
    · rename_i q
      cases e
      obtain ⟨b, a, p, _⟩ := sift_ok q d hx
      cases b
      · exact ⟨false, a, s, List.mem_singleton.mpr rfl, h⟩
      · exact absurd (p rfl) (by simp)
    · rename_i q
      cases e
      obtain ⟨b, a, _, p⟩ := sift_ok q d hx
      cases b
      · exact absurd (p rfl) (by simp)
      · exact ⟨true, a, s, List.mem_singleton.mpr rfl, h⟩
    · rename_i v _ _ q
      cases e
      obtain ⟨ts, fs⟩ := v
      obtain ⟨b, a, _⟩ := sift_ok q d hx
      cases b
      · exact ⟨false, a, s, by simp, h⟩
      · exact ⟨true, a, s, by simp, h⟩
  · cases e
theorem ask2_ok (h : Rel2 W δ s g env st) (hx : Gam W g x d) (hy : Gam W g y e) {f : D → D → Option Bool} {l : List (Bool × SS)} (q : ask2 s x y f = some l) : ∃ b, f d e = some b ∧ Asks W δ g env st l b := by
  unfold ask2 at q
  split at q
  · rename_i e' q1
    cases constOf_ok h.h y hy q1
    exact ask1_ok h hx q
  · split at q
    · rename_i d' q1
      cases constOf_ok h.h x hx q1
      exact ask1_ok h hy q
    · obtain ⟨l1, q1, q2⟩ := bindM_some q
      obtain ⟨s1, m1, h1⟩ := cases1_ok h hx q1
      obtain ⟨l2, q3, k⟩ := goM_mem q2 m1
      obtain ⟨b, a, s2, m2, h2⟩ := ask1_ok h1 hy q3
      exact ⟨b, a, s2, k _ m2, h2⟩
end
end PL

set_option Elab.async false
set_option linter.all false
set_option maxRecDepth 100000
set_option maxHeartbeats 4000000
/-! SXG: comparisons, truth. -/
namespace PL
open PySem L2
section
variable {W : Wo} {g g' g2 : Gh} {δ : Nat} {s s' : SS} {st st' : Sto} {env : Env} {x y : SV} {d e : D}
theorem Asks.self (h : Rel2 W δ s g env st) {b : Bool} {l : List (Bool × SS)} (hm : (b, s) ∈ l) : Asks W δ g env st l b := ⟨s, hm, h⟩
theorem bothI_ok (h : Rel2 W δ s g env st) {l : List (Bool × SS)} (q : bothI s = some l) (b : Bool) : Asks W δ g env st l b := by
  unfold bothI at q; cases q
  cases b <;> exact ⟨s, by simp, h⟩
theorem ret1_ok (h : Rel2 W δ s g env st) {b : Bool} {l : List (Bool × SS)} (q : ret1 b s = some l) : Asks W δ g env st l b := by
  unfold ret1 at q; cases q
  exact ⟨s, by simp, h⟩
theorem askI2_ok (h : Rel2 W δ s g env st) {a d : Option Int} {n m : Int} {l : List (Bool × SS)} (ha : ∀ l, a = some l → l ≤ n) (hd : ∀ l, d = some l → m ≤ l) (q : askI.askI2 s a d = some l) : Asks W δ g env st l (decide (n < m)) := by
  unfold askI.askI2 at q
  split at q
  · rename_i a d
    have := ha a rfl
    have := hd d rfl
    split at q
    · rw [decide_eq_false (by omega)]; exact ret1_ok h q
    · exact bothI_ok h q _
  · exact bothI_ok h q _
theorem askI3_ok (h : Rel2 W δ s g env st) {a d : Option Int} {n m : Int} {l : List (Bool × SS)} (ha : ∀ l, a = some l → l ≤ n) (hd : ∀ l, d = some l → m ≤ l) (q : askI.askI3 s a d = some l) : Asks W δ g env st l (decide (m ≤ n)) := by
  unfold askI.askI3 at q
  split at q
  · rename_i a d
    have := ha a rfl
    have := hd d rfl
    split at q
    · rw [decide_eq_true (by omega)]; exact ret1_ok h q
    · exact bothI_ok h q _
  · exact bothI_ok h q _
theorem askI_ok (h : Rel2 W δ s g env st) (hx : Gam W g x d) (hy : Gam W g y e) {op : Cop} {l : List (Bool × SS)} (q : askI op s x y = some l) : ∃ b, cmpD op d e st = some b ∧ Asks W δ g env st l b := by
  unfold askI at q
  split at q
  · rename_i a b c d' q1 q2
    obtain ⟨n, rfl, h1, h2⟩ := rng_ok h.h hx q1
    obtain ⟨m, rfl, h3, h4⟩ := rng_ok h.h hy q2
    simp only at h1 h2 h3 h4
    split at q
    · refine ⟨_, rfl, ?_⟩
      split at q
      · rename_i b c
        have := h2 b rfl
        have := h3 c rfl
        split at q
        · rw [decide_eq_true (by omega)]; exact ret1_ok h q
        · exact askI2_ok h h1 h4 q
      · exact askI2_ok h h1 h4 q
    · refine ⟨_, rfl, ?_⟩
      split at q
      · rename_i b c
        have := h2 b rfl
        have := h3 c rfl
        split at q
        · rw [decide_eq_false (by omega)]; exact ret1_ok h q
        · exact askI3_ok h h1 h4 q
      · exact askI3_ok h h1 h4 q
    · refine ⟨_, rfl, ?_⟩
      split at q
      · rename_i b c
        have := h4 b rfl
        have := h1 c rfl
        split at q
        · rw [decide_eq_true (by omega)]; exact ret1_ok h q
        · exact askI2_ok h h3 h2 q
      · exact askI2_ok h h3 h2 q
    · refine ⟨_, rfl, ?_⟩
      split at q
      · rename_i b c
        have := h4 b rfl
        have := h1 c rfl
        split at q
        · rw [decide_eq_false (by omega)]; exact ret1_ok h q
        · exact askI3_ok h h3 h2 q
      · exact askI3_ok h h3 h2 q
    · refine ⟨_, rfl, ?_⟩
      split at q
      · rename_i b c d a
        have := h2 b rfl
        have := h3 c rfl
        have := h4 d rfl
        have := h1 a rfl
        split at q
        · rw [decide_eq_false (by omega)]; exact ret1_ok h q
        · exact bothI_ok h q _
      · exact bothI_ok h q _
    · refine ⟨!decide (n = m), rfl, ?_⟩
      split at q
      · rename_i b c d a
        have := h2 b rfl
        have := h3 c rfl
        have := h4 d rfl
        have := h1 a rfl
        split at q
        · rw [decide_eq_false (by omega)]; exact ret1_ok h q
        · exact bothI_ok h q _
      · exact bothI_ok h q _
    · cases q
  · cases q
theorem orElse_some {α : Type} {a : Outs α} {b : Unit → Outs α} {l : List (α × SS)} (h : orElse a b = some l) : a = some l ∨ b () = some l := by
  unfold orElse at h
  split at h
  · exact .inl h
  · exact .inr h
theorem askS_ok (h : Rel2 W δ s g env st) (hx : Gam W g x d) (hy : Gam W g y e) {op : Cop} {l : List (Bool × SS)} (q : askS op s x y = some l) : ∃ b, cmpD op d e st = some b ∧ Asks W δ g env st l b := by
  unfold askS at q
  rcases orElse_some q with q | q
  · obtain ⟨b, a, k⟩ := ask2_ok h hx hy q
    exact ⟨b, cmpQ_indep a, k⟩
  · exact askI_ok h hx hy q

/-! ### data -/
mutual
theorem toPy_le {st : Sto} : ∀ (m n : Nat) (d : D) {p : PyData}, m ≤ n → toPy st m d = some p → toPy st n d = some p
  | m, n, .non, p, _, h => by cases n <;> cases m <;> exact h
  | m, n, .bl _, p, _, h => by cases n <;> cases m <;> exact h
  | m, n, .int _, p, _, h => by cases n <;> cases m <;> exact h
  | m, n, .str _, p, _, h => by cases n <;> cases m <;> exact h
  | m, n, .rep _, p, _, h => by cases m <;> simp [toPy] at h
  | 0, n, .ref _, p, _, h => by simp [toPy] at h
  | 0, n, .tup _, p, _, h => by simp [toPy] at h
  | 0, n, .scr _, p, _, h => by simp [toPy] at h
  | m + 1, 0, _, p, hl, h => by omega
  | m + 1, n + 1, .tup xs, p, hl, h => by
    rw [toPy] at h ⊢
    obtain ⟨ps, a, rfl⟩ := Option.map_eq_some_iff.mp h
    rw [toPys_le m n xs (by omega) a]; rfl
  | m + 1, n + 1, .scr xs, p, hl, h => by
    rw [toPy] at h ⊢
    obtain ⟨ps, a, rfl⟩ := Option.map_eq_some_iff.mp h
    rw [toPys_le m n xs (by omega) a]; rfl
  | m + 1, n + 1, .ref r, p, hl, h => by
    rw [toPy] at h ⊢
    split at h
    · rename_i xs q
      obtain ⟨ps, a, rfl⟩ := Option.map_eq_some_iff.mp h
      rw [toPys_le m n xs (by omega) a]; rfl
    · cases h
  termination_by m _ d => (m, sizeOf d)
theorem toPys_le {st : Sto} : ∀ (m n : Nat) (ds : List D) {ps : List PyData}, m ≤ n → optMap (toPy st m) ds = some ps → optMap (toPy st n) ds = some ps
  | m, n, [], ps, _, h => h
  | m, n, d :: ds, ps, hl, h => by
    rw [optMap] at h ⊢
    split at h
    · cases h
    · rename_i b e
      split at h
      · cases h
      · rename_i r e2
        rw [toPy_le m n d hl e, toPys_le m n ds hl e2]
        exact h
  termination_by m _ ds => (m, sizeOf ds)
end
theorem layS_py {d : D} (h : layS d = true) : ∃ p, (∀ st n, toPy st n d = some p) ∧ p.canLay0 = true := by
  unfold layS at h
  split at h
  · exact ⟨.none, fun st n => by cases n <;> rfl, rfl⟩
  · exact ⟨.bool _, fun st n => by cases n <;> rfl, rfl⟩
  · exact ⟨.int _, fun st n => by cases n <;> rfl, rfl⟩
  · exact ⟨.str _, fun st n => by cases n <;> rfl, h⟩
  · cases h
theorem laysAll_mem {ds : List D} (h : laysAll ds = true) (hd : d ∈ ds) : layS d = true := by
  induction ds with
  | nil => cases hd
  | cons c r ih =>
    rw [laysAll, Bool.and_eq_true] at h
    rcases List.mem_cons.mp hd with rfl | hd
    · exact h.1
    · exact ih h.2 hd
theorem canLay_list {ps : List PyData} : (PyData.list ps).canLay0 = PyData.canLayAll0 ps := by rw [PyData.canLay0]
theorem canLay_tup {ps : List PyData} : (PyData.tuple ps).canLay0 = PyData.canLayAll0 ps := by rw [PyData.canLay0]
mutual
theorem pyOf_ok (h : HRel W δ s g st) : ∀ (n : Nat) (x : SV) {px : PX} {d : D}, pyOf s n x = some px → Gam W g x d → ∃ p, toPy st n d = some p ∧ GP W g px p ∧ p.canLay0 = true
  | 0, x, px, d, q, _ => by simp [pyOf] at q
  | n + 1, .c c, px, d, q, hx => by
    rw [pyOf] at q <;> try (exact fun z => by cases z)
    split at q
    · rename_i hl
      cases q
      rw [Gam] at hx; subst hx
      obtain ⟨p, a, b⟩ := layS_py hl
      exact ⟨p, a _ _, ⟨a _ _, hl⟩, b⟩
    · cases q
  | n + 1, .v i, px, d, q, hx => by
    rw [pyOf] at q <;> try (exact fun z => by cases z)
    rw [Gam] at hx
    split at q
    · rename_i c e1
      have := (h.sd i d _ hx e1).1
      rw [Gam] at this; subst this
      split at q
      · rename_i hl
        cases q
        obtain ⟨p, a, b⟩ := layS_py hl
        exact ⟨p, a _ _, ⟨a _ _, hl⟩, b⟩
      · cases q
    · rename_i ds e1
      have hd := (h.sd i d _ hx e1).1
      rw [Gam] at hd
      split at q
      · rename_i hl
        cases q
        have hl := laysAll_mem hl hd
        obtain ⟨p, a, b⟩ := layS_py hl
        exact ⟨p, a _ _, ⟨d, hx, a _ _, hl⟩, b⟩
      · cases q
    · rename_i lo hi e1
      have hd := (h.sd i d _ hx e1).1
      rw [Gam] at hd
      obtain ⟨m, rfl, _⟩ := hd
      cases q
      exact ⟨.int m, rfl, ⟨_, hx, rfl, rfl⟩, rfl⟩
    · rename_i p e1
      have hd := (h.sd i d _ hx e1).1
      rw [Gam] at hd
      split at q
      · rename_i hp
        cases q
        have hl := (W.PrS p d hp hd.1).1
        obtain ⟨p, a, b⟩ := layS_py hl
        exact ⟨p, a _ _, ⟨d, hx, a _ _, hl⟩, b⟩
      · cases q
    · cases q
  | n + 1, .one ds, px, d, q, hx => by
    rw [pyOf] at q <;> try (exact fun z => by cases z)
    rw [Gam] at hx
    split at q
    · rename_i hl
      cases q
      have hl := laysAll_mem hl hx
      obtain ⟨p, a, b⟩ := layS_py hl
      exact ⟨p, a _ _, ⟨d, hx, a _ _, hl⟩, b⟩
    · cases q
  | n + 1, .int lo hi, px, d, q, hx => by
    rw [pyOf] at q <;> try (exact fun z => by cases z)
    cases q
    rw [Gam] at hx
    obtain ⟨m, rfl, a⟩ := hx
    exact ⟨.int m, rfl, ⟨m, rfl, a⟩, rfl⟩
  | n + 1, .tup xs, px, d, q, hx => by
    rw [pyOf] at q <;> try (exact fun z => by cases z)
    rw [Gam] at hx
    obtain ⟨ds, rfl, hs⟩ := hx
    split at q
    · rename_i ps e1
      cases q
      obtain ⟨qs, a, b, c⟩ := pysOf_ok h n xs e1 hs
      exact ⟨.tuple qs, by rw [toPy, a]; rfl, ⟨qs, rfl, b⟩, by rw [canLay_tup]; exact c⟩
    · cases q
  | n + 1, .lst xs, px, d, q, hx => by
    rw [pyOf] at q <;> try (exact fun z => by cases z)
    rw [Gam] at hx
    obtain ⟨r, ds, rfl, hp, hs⟩ := hx
    split at q
    · rename_i ps e1
      cases q
      obtain ⟨qs, a, b, c⟩ := pysOf_ok h n xs e1 hs
      exact ⟨.list qs, by rw [toPy, (h.ph _ _ hp).1]; simp only [a]; rfl, ⟨qs, rfl, b⟩, by rw [canLay_list]; exact c⟩
    · cases q
  | n + 1, .own k, px, d, q, hx => by
    rw [pyOf] at q <;> try (exact fun z => by cases z)
    rw [Gam] at hx
    obtain ⟨r, rfl, hr⟩ := hx
    split at q
    · rename_i xs e0
      obtain ⟨c', h1, ds, rfl, hs⟩ := h.obs k _ r e0 hr
      split at q
      · rename_i ps e1
        cases q
        obtain ⟨qs, a, b, c⟩ := pysOf_ok h n xs e1 hs
        exact ⟨.list qs, by rw [toPy, h1]; simp only [a]; rfl, ⟨qs, rfl, b⟩, by rw [canLay_list]; exact c⟩
      · cases q
    · cases q
  | n + 1, .tupOf _ _ _, _, _, q, _ => by simp [pyOf] at q
  | n + 1, .lstOf _ _ _, _, _, q, _ => by simp [pyOf] at q
  | n + 1, .un _, _, _, q, _ => by simp [pyOf] at q
  | n + 1, .rep _, _, _, q, _ => by simp [pyOf] at q
  | n + 1, .bag, _, _, q, _ => by simp [pyOf] at q
  | n + 1, .pr _, _, _, q, _ => by simp [pyOf] at q
  | n + 1, .any, _, _, q, _ => by simp [pyOf] at q
theorem pysOf_ok (h : HRel W δ s g st) : ∀ (n : Nat) (xs : List SV) {pxs : List PX} {ds : List D}, pysOf s n xs = some pxs → Gams W g xs ds → ∃ ps, optMap (toPy st n) ds = some ps ∧ GPs W g pxs ps ∧ PyData.canLayAll0 ps = true
  | 0, xs, pxs, ds, q, _ => by simp [pysOf] at q
  | n + 1, [], pxs, ds, q, hx => by
    rw [pysOf] at q <;> try (exact fun z => by cases z)
    cases q
    rw [Gams] at hx; subst hx
    exact ⟨[], rfl, rfl, rfl⟩
  | n + 1, x :: xs, pxs, ds, q, hx => by
    rw [pysOf] at q <;> try (exact fun z => by cases z)
    rw [Gams] at hx
    obtain ⟨d, ds', rfl, h1, h2⟩ := hx
    split at q
    · cases q
    · rename_i p e1
      split at q
      · cases q
      · rename_i ps e2
        cases q
        obtain ⟨p', a, b, c⟩ := pyOf_ok h n x e1 h1
        obtain ⟨ps', a', b', c'⟩ := pysOf_ok h n xs e2 h2
        refine ⟨p' :: ps', ?_, ⟨p', ps', rfl, b, b'⟩, by rw [PyData.canLayAll0, c, c']; rfl⟩
        rw [optMap, toPy_le n (n + 1) _ (by omega) a, toPys_le n (n + 1) _ (by omega) a']
end
theorem sc_eqv {p q : PyData} {b : Bool} (hd : layS d = true) (he : layS e = true) (h1 : toPy [] 60 d = some p) (h2 : toPy [] 60 e = some q) (h : eqD st d e = some b) : PyData.eqv p q = b := by
  unfold layS at hd he
  split at hd <;> split at he <;> first | (cases hd; done) | (cases he; done) | skip
  all_goals (cases h1; cases h2)
  all_goals (unfold eqD at h; simp only [toPy] at h)
  all_goals first
    | (cases h; rfl)
    | (cases h; simp [PyData.eqv]; done)
    | (split at h <;> cases h; simp [PyData.eqv]; done)
    | skip
theorem eqD_of {p q : PyData} (h1 : toPy st 60 d = some p) (h2 : toPy st 60 e = some q) (l1 : p.canLay0 = true) (l2 : q.canLay0 = true) : eqD st d e = some (PyData.eqv p q) := by
  unfold eqD
  split
  · simp [toPy] at h1
  · simp [toPy] at h1
  · simp [toPy] at h2
  · cases h1; cases h2; simp only [PyData.eqv]; congr 1
  · cases h1; cases h2; simp only [PyData.eqv]; congr 1
  · cases h1; cases h2; rfl
  · cases h1; cases h2; rfl
  · cases h1; cases h2; rfl
  · cases h1; cases h2; rfl
  · cases h1; cases h2; rfl
  · cases h1; cases h2; rfl
  · simp only [h1, h2, l1, l2, Bool.and_self, if_true]
theorem scP_ok {px : PX} {p : PyData} (hp : GP W g px p) {a : SV} (q : scP px = some a) : ∃ d, Gam W g a d ∧ toPy [] 60 d = some p ∧ layS d = true := by
  unfold scP at q
  split at q
  · cases q; rw [GP] at hp; exact ⟨_, rfl, hp⟩
  · cases q; rw [GP] at hp; obtain ⟨d, a, b⟩ := hp; exact ⟨d, a, b⟩
  · cases q; rw [GP] at hp; obtain ⟨d, a, b⟩ := hp; exact ⟨d, a, b⟩
  · cases q; rw [GP] at hp; obtain ⟨n, rfl, b⟩ := hp; exact ⟨.int n, ⟨n, rfl, b⟩, rfl, rfl⟩
  · cases q
theorem GPs.length : ∀ {xs : List PX} {ps : List PyData}, GPs W g xs ps → xs.length = ps.length
  | [], _, h => by rw [GPs] at h; subst h; rfl
  | x :: xs, _, h => by rw [GPs] at h; obtain ⟨p, ps, rfl, _, c⟩ := h; simp [GPs.length c]
theorem eqvAll_len : ∀ {ps qs : List PyData}, ps.length ≠ qs.length → PyData.eqvAll ps qs = false
  | [], [], h => absurd rfl h
  | [], _ :: _, _ => rfl
  | _ :: _, [], _ => rfl
  | p :: ps, q :: qs, h => by rw [PyData.eqvAll, eqvAll_len (by simpa using h), Bool.and_false]
theorem mixed_eqv {px py : PX} {p q : PyData} (hp : GP W g px p) (hq : GP W g py q) (h1 : ¬ (∃ a, scP px = some a ∧ ∃ b, scP py = some b)) (n1 : ∀ a b, px = .tup a → py = .tup b → False) (n2 : ∀ a b, px = .lst a → py = .lst b → False) : PyData.eqv p q = false := by
  have sc : ∀ {d : D} {p : PyData}, toPy [] 60 d = some p → layS d = true → p = .none ∨ (∃ b, p = .bool b) ∨ (∃ i, p = .int i) ∨ ∃ x, p = .str x := by
    intro d p h l
    unfold layS at l
    split at l
    · cases h; exact .inl rfl
    · cases h; exact .inr (.inl ⟨_, rfl⟩)
    · cases h; exact .inr (.inr (.inl ⟨_, rfl⟩))
    · cases h; exact .inr (.inr (.inr ⟨_, rfl⟩))
    · cases l
  have form : ∀ {px : PX} {p : PyData}, GP W g px p → (∃ a, scP px = some a ∧ (p = .none ∨ (∃ b, p = .bool b) ∨ (∃ i, p = .int i) ∨ ∃ x, p = .str x)) ∨ (∃ xs ps, px = .tup xs ∧ p = .tuple ps) ∨ ∃ xs ps, px = .lst xs ∧ p = .list ps := by
    intro px p hp
    cases px with
    | tup xs => rw [GP] at hp; obtain ⟨ps, a, _⟩ := hp; exact .inr (.inl ⟨xs, ps, rfl, a⟩)
    | lst xs => rw [GP] at hp; obtain ⟨ps, a, _⟩ := hp; exact .inr (.inr ⟨xs, ps, rfl, a⟩)
    | c d => obtain ⟨d, _, b, c⟩ := scP_ok hp rfl; exact .inl ⟨_, rfl, sc b c⟩
    | v i => obtain ⟨d, _, b, c⟩ := scP_ok hp rfl; exact .inl ⟨_, rfl, sc b c⟩
    | one ds => obtain ⟨d, _, b, c⟩ := scP_ok hp rfl; exact .inl ⟨_, rfl, sc b c⟩
    | int lo hi => obtain ⟨d, _, b, c⟩ := scP_ok hp rfl; exact .inl ⟨_, rfl, sc b c⟩
  rcases form hp with ⟨a, ha, fa⟩ | ⟨xs, ps, rfl, rfl⟩ | ⟨xs, ps, rfl, rfl⟩ <;> rcases form hq with ⟨b, hb, fb⟩ | ⟨ys, qs, rfl, rfl⟩ | ⟨ys, qs, rfl, rfl⟩
  · exact absurd ⟨a, ha, b, hb⟩ h1
  · rcases fa with rfl | ⟨_, rfl⟩ | ⟨_, rfl⟩ | ⟨_, rfl⟩ <;> rfl
  · rcases fa with rfl | ⟨_, rfl⟩ | ⟨_, rfl⟩ | ⟨_, rfl⟩ <;> rfl
  · rcases fb with rfl | ⟨_, rfl⟩ | ⟨_, rfl⟩ | ⟨_, rfl⟩ <;> rfl
  · exact (n1 _ _ rfl rfl).elim
  · rfl
  · rcases fb with rfl | ⟨_, rfl⟩ | ⟨_, rfl⟩ | ⟨_, rfl⟩ <;> rfl
  · rfl
  · exact (n2 _ _ rfl rfl).elim
theorem gen_ok {px py : PX} {p q : PyData} {l : List (Bool × SS)} (h : Rel2 W δ s g env st) (hp : GP W g px p) (hq : GP W g py q) (e : (match scP px, scP py with | some a, some b => askS .eq s a b | _, _ => ret1 false s) = some l)
    (n1 : ∀ a b, px = .tup a → py = .tup b → False) (n2 : ∀ a b, px = .lst a → py = .lst b → False) : Asks W δ g env st l (PyData.eqv p q) := by
  split at e
  · rename_i a b q1 q2
    obtain ⟨d1, g1, t1, l1⟩ := scP_ok hp q1
    obtain ⟨d2, g3, t2, l2⟩ := scP_ok hq q2
    obtain ⟨b, hb, hk⟩ := askS_ok h g1 g3 e
    rw [sc_eqv l1 l2 t1 t2 hb]; exact hk
  · rename_i hn
    rw [mixed_eqv hp hq (fun ⟨a, ha, b, hb⟩ => hn a b ha hb) n1 n2]
    exact ret1_ok h e
mutual
theorem eqP_ok : ∀ (n : Nat) (px py : PX) {s : SS} {p q : PyData} {l : List (Bool × SS)}, Rel2 W δ s g env st → GP W g px p → GP W g py q → eqP n px py s = some l → Asks W δ g env st l (PyData.eqv p q)
  | 0, px, py, s, p, q, l, h, hp, hq, e => by simp [eqP] at e
  | n + 1, .tup a, .tup b, s, p, q, l, h, hp, hq, e => by
    rw [eqP] at e
    rw [GP] at hp hq
    obtain ⟨ps, rfl, h1⟩ := hp
    obtain ⟨qs, rfl, h2⟩ := hq
    simp only [PyData.eqv]
    split at e
    · exact eqPs_ok n a b h h1 h2 e
    · rename_i hn
      rw [h1.length, h2.length] at hn
      rw [eqvAll_len hn]; exact ret1_ok h e
  | n + 1, .lst a, .lst b, s, p, q, l, h, hp, hq, e => by
    rw [eqP] at e
    rw [GP] at hp hq
    obtain ⟨ps, rfl, h1⟩ := hp
    obtain ⟨qs, rfl, h2⟩ := hq
    simp only [PyData.eqv]
    split at e
    · exact eqPs_ok n a b h h1 h2 e
    · rename_i hn
      rw [h1.length, h2.length] at hn
      rw [eqvAll_len hn]; exact ret1_ok h e
  | n + 1, .tup a, .lst b, s, p, q, l, h, hp, hq, e => by
    rw [eqP] at e <;> try (exact fun z => by cases z)
    rw [mixed_eqv hp hq (by simp [scP]) (by intro a b z1 z2; cases z2) (by intro a b z1 z2; cases z1)]; exact ret1_ok h e
  | n + 1, .lst a, .tup b, s, p, q, l, h, hp, hq, e => by
    rw [eqP] at e <;> try (exact fun z => by cases z)
    rw [mixed_eqv hp hq (by simp [scP]) (by intro a b z1 z2; cases z1) (by intro a b z1 z2; cases z2)]; exact ret1_ok h e
  | n + 1, .tup a, .c _, s, p, q, l, h, hp, hq, e => by
    rw [eqP] at e <;> first | (exact gen_ok h hp hq e (by intro a b z1 z2; cases z2) (by intro a b z1 z2; cases z1)) | (intros; contradiction) | (intros; simp_all; done)
  | n + 1, .tup a, .v _, s, p, q, l, h, hp, hq, e => by
    rw [eqP] at e <;> first | (exact gen_ok h hp hq e (by intro a b z1 z2; cases z2) (by intro a b z1 z2; cases z1)) | (intros; contradiction) | (intros; simp_all; done)
  | n + 1, .tup a, .one _, s, p, q, l, h, hp, hq, e => by
    rw [eqP] at e <;> first | (exact gen_ok h hp hq e (by intro a b z1 z2; cases z2) (by intro a b z1 z2; cases z1)) | (intros; contradiction) | (intros; simp_all; done)
  | n + 1, .tup a, .int _ _, s, p, q, l, h, hp, hq, e => by
    rw [eqP] at e <;> first | (exact gen_ok h hp hq e (by intro a b z1 z2; cases z2) (by intro a b z1 z2; cases z1)) | (intros; contradiction) | (intros; simp_all; done)
  | n + 1, .lst a, .c _, s, p, q, l, h, hp, hq, e => by
    rw [eqP] at e <;> first | (exact gen_ok h hp hq e (by intro a b z1 z2; cases z1) (by intro a b z1 z2; cases z2)) | (intros; contradiction) | (intros; simp_all; done)
  | n + 1, .lst a, .v _, s, p, q, l, h, hp, hq, e => by
    rw [eqP] at e <;> first | (exact gen_ok h hp hq e (by intro a b z1 z2; cases z1) (by intro a b z1 z2; cases z2)) | (intros; contradiction) | (intros; simp_all; done)
  | n + 1, .lst a, .one _, s, p, q, l, h, hp, hq, e => by
    rw [eqP] at e <;> first | (exact gen_ok h hp hq e (by intro a b z1 z2; cases z1) (by intro a b z1 z2; cases z2)) | (intros; contradiction) | (intros; simp_all; done)
  | n + 1, .lst a, .int _ _, s, p, q, l, h, hp, hq, e => by
    rw [eqP] at e <;> first | (exact gen_ok h hp hq e (by intro a b z1 z2; cases z1) (by intro a b z1 z2; cases z2)) | (intros; contradiction) | (intros; simp_all; done)
  | n + 1, .c _, py, s, p, q, l, h, hp, hq, e => by
    rw [eqP] at e <;> first | (exact gen_ok h hp hq e (by intro a b z1 z2; cases z1) (by intro a b z1 z2; cases z1)) | (intros; contradiction) | (intros; simp_all; done)
  | n + 1, .v _, py, s, p, q, l, h, hp, hq, e => by
    rw [eqP] at e <;> first | (exact gen_ok h hp hq e (by intro a b z1 z2; cases z1) (by intro a b z1 z2; cases z1)) | (intros; contradiction) | (intros; simp_all; done)
  | n + 1, .one _, py, s, p, q, l, h, hp, hq, e => by
    rw [eqP] at e <;> first | (exact gen_ok h hp hq e (by intro a b z1 z2; cases z1) (by intro a b z1 z2; cases z1)) | (intros; contradiction) | (intros; simp_all; done)
  | n + 1, .int _ _, py, s, p, q, l, h, hp, hq, e => by
    rw [eqP] at e <;> first | (exact gen_ok h hp hq e (by intro a b z1 z2; cases z1) (by intro a b z1 z2; cases z1)) | (intros; contradiction) | (intros; simp_all; done)
theorem eqPs_ok : ∀ (n : Nat) (pxs pys : List PX) {s : SS} {ps qs : List PyData} {l : List (Bool × SS)}, Rel2 W δ s g env st → GPs W g pxs ps → GPs W g pys qs → eqPs n pxs pys s = some l → Asks W δ g env st l (PyData.eqvAll ps qs)
  | 0, _, _, s, ps, qs, l, h, hp, hq, e => by simp [eqPs] at e
  | n + 1, [], [], s, ps, qs, l, h, hp, hq, e => by
    rw [GPs] at hp hq; subst hp; subst hq
    rw [eqPs] at e <;> try (exact fun z => by cases z)
    exact ret1_ok h e
  | n + 1, a :: pxs, [], s, ps, qs, l, h, hp, hq, e => by
    rw [GPs] at hp
    have hq : qs = [] := hq
    subst hq
    obtain ⟨p, ps', rfl, _⟩ := hp
    rw [eqPs] at e
    · exact ret1_ok h e
    all_goals simp
  | n + 1, [], b :: pys, s, ps, qs, l, h, hp, hq, e => by
    rw [GPs] at hq
    have hp : ps = [] := hp
    subst hp
    obtain ⟨p, ps', rfl, _⟩ := hq
    rw [eqPs] at e
    · exact ret1_ok h e
    all_goals simp
  | n + 1, a :: pxs, b :: pys, s, ps, qs, l, h, hp, hq, e => by
    rw [GPs] at hp hq
    obtain ⟨p, ps', rfl, a1, a2⟩ := hp
    obtain ⟨q, qs', rfl, b1, b2⟩ := hq
    rw [eqPs] at e
    obtain ⟨l1, e1, e2⟩ := bindM_some e
    obtain ⟨s1, m1, h1⟩ := eqP_ok n a b h a1 b1 e1
    obtain ⟨l2, e3, k⟩ := goM_mem e2 m1
    rw [PyData.eqvAll]
    cases hb : PyData.eqv p q with
    | true =>
      rw [hb] at e3
      simp only [if_true] at e3
      obtain ⟨s2, m2, h2⟩ := eqPs_ok n pxs pys h1 a2 b2 e3
      exact ⟨s2, k _ m2, h2⟩
    | false =>
      rw [hb] at e3
      simp only [Bool.false_eq_true, if_false] at e3
      obtain ⟨s2, m2, h2⟩ := ret1_ok h1 e3
      exact ⟨s2, k _ m2, h2⟩
end
theorem inPs_ok (n : Nat) {px : PX} {p : PyData} (hp : GP W g px p) : ∀ (pys : List PX) {s : SS} {qs : List PyData} {l : List (Bool × SS)}, Rel2 W δ s g env st → GPs W g pys qs → inPs n px pys s = some l → Asks W δ g env st l (qs.any fun y => PyData.eqv y p)
  | [], s, qs, l, h, hq, e => by
    rw [GPs] at hq; subst hq
    rw [inPs] at e; exact ret1_ok h e
  | y :: pys, s, qs, l, h, hq, e => by
    rw [GPs] at hq
    obtain ⟨q, qs', rfl, b1, b2⟩ := hq
    rw [inPs] at e
    obtain ⟨l1, e1, e2⟩ := bindM_some e
    obtain ⟨s1, m1, h1⟩ := eqP_ok n y px h b1 hp e1
    obtain ⟨l2, e3, k⟩ := goM_mem e2 m1
    rw [List.any_cons]
    cases hb : PyData.eqv q p with
    | true =>
      rw [hb] at e3
      simp only [if_true] at e3
      obtain ⟨s2, m2, h2⟩ := ret1_ok h1 e3
      exact ⟨s2, k _ m2, h2⟩
    | false =>
      rw [hb] at e3
      simp only [Bool.false_eq_true, if_false] at e3
      obtain ⟨s2, m2, h2⟩ := inPs_ok n hp pys h1 b2 e3
      exact ⟨s2, k _ m2, h2⟩
end
end PL

set_option Elab.async false
set_option linter.all false
set_option maxRecDepth 100000
set_option maxHeartbeats 4000000
/-! SXH: comparisons, truth, continued. -/
namespace PL
open PySem L2
section
variable {W : Wo} {g g' g2 : Gh} {δ : Nat} {s s' : SS} {st st' : Sto} {env : Env} {x y : SV} {d e : D}
mutual
theorem same_refl : ∀ p : PyData, p.canLay0 = true → same p p = true
  | .none, _ => rfl
  | .bool b, _ => by rw [same]; simp
  | .int i, _ => by rw [same]; simp
  | .str x, _ => by rw [same]; simp
  | .list xs, h => by rw [same]; exact sames_refl xs (by rw [canLay_list] at h; exact h)
  | .tuple xs, h => by rw [same]; exact sames_refl xs (by rw [canLay_tup] at h; exact h)
  | .dict _, h => by simp [PyData.canLay0] at h
theorem sames_refl : ∀ ps : List PyData, PyData.canLayAll0 ps = true → sameAll ps ps = true
  | [], _ => rfl
  | p :: ps, h => by
    rw [PyData.canLayAll0, Bool.and_eq_true] at h
    rw [sameAll, same_refl p h.1, sames_refl ps h.2]; rfl
end
theorem lay_of {p : PyData} (h1 : toPy [] 60 d = some p) (h2 : layS d = true) : p.canLay0 = true := by
  obtain ⟨q, a, b⟩ := layS_py h2
  have := h1.symm.trans (a [] 60)
  cases this; exact b
mutual
theorem GP_lay : ∀ (px : PX) {p : PyData}, GP W g px p → p.canLay0 = true
  | .c d, p, h => by rw [GP] at h; exact lay_of h.1 h.2
  | .v i, p, h => by rw [GP] at h; obtain ⟨d, _, a, b⟩ := h; exact lay_of a b
  | .one ds, p, h => by rw [GP] at h; obtain ⟨d, _, a, b⟩ := h; exact lay_of a b
  | .int _ _, p, h => by rw [GP] at h; obtain ⟨n, rfl, _⟩ := h; rfl
  | .tup xs, p, h => by rw [GP] at h; obtain ⟨ps, rfl, a⟩ := h; rw [canLay_tup]; exact GPs_lay xs a
  | .lst xs, p, h => by rw [GP] at h; obtain ⟨ps, rfl, a⟩ := h; rw [canLay_list]; exact GPs_lay xs a
theorem GPs_lay : ∀ (pxs : List PX) {ps : List PyData}, GPs W g pxs ps → PyData.canLayAll0 ps = true
  | [], ps, h => by rw [GPs] at h; subst h; rfl
  | x :: xs, ps, h => by rw [GPs] at h; obtain ⟨p, ps', rfl, a, b⟩ := h; rw [PyData.canLayAll0, GP_lay x a, GPs_lay xs b]; rfl
end
mutual
theorem sameP_ok (h : HRel W δ s g st) : ∀ (px py : PX) {p q : PyData}, sameP s px py = true → GP W g px p → GP W g py q → p = q
  | .c d, .c e, p, q, hs, hp, hq => by
    rw [sameP] at hs; rw [GP] at hp; rw [GP] at hq
    cases deq_eq hs
    exact Option.some.inj (hp.1.symm.trans hq.1)
  | .v i, .v j, p, q, hs, hp, hq => by
    rw [sameP, decide_eq_true_eq] at hs; subst hs
    rw [GP] at hp; rw [GP] at hq
    obtain ⟨d, a, b, _⟩ := hp
    obtain ⟨e, a', b', _⟩ := hq
    rw [a] at a'; cases a'
    exact Option.some.inj (b.symm.trans b')
  | .v i, .c e, p, q, hs, hp, hq => by
    rw [sameP] at hs; rw [GP] at hp; rw [GP] at hq
    obtain ⟨d, a, b, _⟩ := hp
    split at hs
    · rename_i d' q1
      cases deq_eq hs
      have := (h.sd i d _ a q1).1
      rw [Gam] at this; subst this
      exact Option.some.inj (b.symm.trans hq.1)
    · cases hs
  | .c e, .v i, p, q, hs, hp, hq => by
    rw [sameP] at hs; rw [GP] at hp; rw [GP] at hq
    obtain ⟨d, a, b, _⟩ := hq
    split at hs
    · rename_i d' q1
      cases deq_eq hs
      have := (h.sd i d _ a q1).1
      rw [Gam] at this; subst this
      exact Option.some.inj (hp.1.symm.trans b)
    · cases hs
  | .tup a, .tup b, p, q, hs, hp, hq => by
    rw [sameP] at hs; rw [GP] at hp; rw [GP] at hq
    obtain ⟨ps, rfl, h1⟩ := hp
    obtain ⟨qs, rfl, h2⟩ := hq
    rw [samePs_ok h a b hs h1 h2]
  | .lst a, .lst b, p, q, hs, hp, hq => by
    rw [sameP] at hs; rw [GP] at hp; rw [GP] at hq
    obtain ⟨ps, rfl, h1⟩ := hp
    obtain ⟨qs, rfl, h2⟩ := hq
    rw [samePs_ok h a b hs h1 h2]
  | .c _, .one _, _, _, hs, _, _ => by simp [sameP] at hs
  | .c _, .int _ _, _, _, hs, _, _ => by simp [sameP] at hs
  | .c _, .tup _, _, _, hs, _, _ => by simp [sameP] at hs
  | .c _, .lst _, _, _, hs, _, _ => by simp [sameP] at hs
  | .v _, .one _, _, _, hs, _, _ => by simp [sameP] at hs
  | .v _, .int _ _, _, _, hs, _, _ => by simp [sameP] at hs
  | .v _, .tup _, _, _, hs, _, _ => by simp [sameP] at hs
  | .v _, .lst _, _, _, hs, _, _ => by simp [sameP] at hs
  | .one _, _, _, _, hs, _, _ => by simp [sameP] at hs
  | .int _ _, _, _, _, hs, _, _ => by simp [sameP] at hs
  | .tup _, .c _, _, _, hs, _, _ => by simp [sameP] at hs
  | .tup _, .v _, _, _, hs, _, _ => by simp [sameP] at hs
  | .tup _, .one _, _, _, hs, _, _ => by simp [sameP] at hs
  | .tup _, .int _ _, _, _, hs, _, _ => by simp [sameP] at hs
  | .tup _, .lst _, _, _, hs, _, _ => by simp [sameP] at hs
  | .lst _, .c _, _, _, hs, _, _ => by simp [sameP] at hs
  | .lst _, .v _, _, _, hs, _, _ => by simp [sameP] at hs
  | .lst _, .one _, _, _, hs, _, _ => by simp [sameP] at hs
  | .lst _, .int _ _, _, _, hs, _, _ => by simp [sameP] at hs
  | .lst _, .tup _, _, _, hs, _, _ => by simp [sameP] at hs
theorem samePs_ok (h : HRel W δ s g st) : ∀ (pxs pys : List PX) {ps qs : List PyData}, samePs s pxs pys = true → GPs W g pxs ps → GPs W g pys qs → ps = qs
  | [], [], ps, qs, hs, hp, hq => by rw [GPs] at hp; rw [GPs] at hq; subst hp; subst hq; rfl
  | [], _ :: _, _, _, hs, _, _ => by simp [samePs] at hs
  | _ :: _, [], _, _, hs, _, _ => by simp [samePs] at hs
  | a :: pxs, b :: pys, ps, qs, hs, hp, hq => by
    rw [samePs, Bool.and_eq_true] at hs
    rw [GPs] at hp; rw [GPs] at hq
    obtain ⟨p, ps', rfl, a1, a2⟩ := hp
    obtain ⟨q, qs', rfl, b1, b2⟩ := hq
    rw [sameP_ok h a b hs.1 a1 b1, samePs_ok h pxs pys hs.2 a2 b2]
end
theorem log2_mono {a b : Nat} (h : a ≤ b) : a.log2 ≤ b.log2 := by
  by_cases ha : a = 0
  · subst ha; simp
  · have hb : b ≠ 0 := by omega
    rw [Nat.le_log2 hb]
    exact Nat.le_trans (Nat.log2_self_le ha) h
theorem costD_ok {p : PyData} {n : Nat} (h1 : toPy [] 60 d = some p) (h : costD d = some n) : showCost p ≤ n ∧ p.showable = true := by
  unfold costD at h
  split at h
  · cases h; cases h1; exact ⟨Nat.le_refl _, rfl⟩
  · cases h; cases h1; exact ⟨Nat.le_refl _, rfl⟩
  · split at h
    · rename_i hl; cases h; cases h1; exact ⟨Nat.le_refl _, by rw [PyData.showable]; exact decide_eq_true (by omega)⟩
    · cases h
  · cases h; cases h1; exact ⟨Nat.le_refl _, rfl⟩
  · cases h
theorem costsD_ok : ∀ {ds : List D} {p : PyData} {n : Nat}, d ∈ ds → toPy [] 60 d = some p → costsD ds = some n → showCost p ≤ n ∧ p.showable = true
  | c :: r, p, n, hd, h1, h => by
    rw [costsD] at h
    split at h
    · rename_i a b q1 q2
      cases h
      rcases List.mem_cons.mp hd with rfl | hd
      · obtain ⟨u, v⟩ := costD_ok h1 q1; exact ⟨by omega, v⟩
      · obtain ⟨u, v⟩ := costsD_ok hd h1 q2; exact ⟨by omega, v⟩
    · cases h
theorem bigO_ok {lo hi : Option Int} {m : Int} {n : Nat} (h1 : ∀ l, lo = some l → l ≤ m) (h2 : ∀ l, hi = some l → m ≤ l) (h : bigO lo hi = some n) : showCost (.int m) ≤ n ∧ (PyData.int m).showable = true := by
  unfold bigO at h
  split at h
  · rename_i a b
    have := h1 a rfl
    have := h2 b rfl
    split at h
    · rename_i hl
      simp only [Bool.and_eq_true, decide_eq_true_eq] at hl
      cases h
      rw [showCost, PyData.showable]
      have hm : m.natAbs ≤ a.natAbs ∨ m.natAbs ≤ b.natAbs := by omega
      rcases hm with hm | hm <;> have := log2_mono hm
      · exact ⟨by omega, decide_eq_true (by omega)⟩
      · exact ⟨by omega, decide_eq_true (by omega)⟩
    · cases h
  · cases h
mutual
theorem costP_ok (h : HRel W δ s g st) : ∀ (px : PX) {p : PyData} {n : Nat}, costP s px = some n → GP W g px p → showCost p ≤ n ∧ p.showable = true
  | .c d, p, n, e, hp => by rw [costP] at e; rw [GP] at hp; exact costD_ok hp.1 e
  | .v i, p, n, e, hp => by
    rw [costP] at e; rw [GP] at hp
    obtain ⟨d, a, b, _⟩ := hp
    split at e
    · rename_i d' q
      have := (h.sd i d _ a q).1
      rw [Gam] at this; subst this
      exact costD_ok b e
    · rename_i ds q
      have := (h.sd i d _ a q).1
      rw [Gam] at this
      exact costsD_ok this b e
    · rename_i lo hi q
      have := (h.sd i d _ a q).1
      rw [Gam] at this
      obtain ⟨m, rfl, u, v⟩ := this
      cases b
      exact bigO_ok u v e
    · rename_i k q
      have := (h.sd i d _ a q).1
      rw [Gam] at this
      split at e
      · rename_i hk
        cases e
        obtain ⟨_, m, c1, c2⟩ := W.PrS k d hk this.1
        obtain ⟨u, v⟩ := costD_ok b c1
        exact ⟨by omega, v⟩
      · cases e
    · cases e
  | .one ds, p, n, e, hp => by rw [costP] at e; rw [GP] at hp; obtain ⟨d, a, b, _⟩ := hp; exact costsD_ok a b e
  | .int lo hi, p, n, e, hp => by rw [costP] at e; rw [GP] at hp; obtain ⟨m, rfl, u, v⟩ := hp; exact bigO_ok u v e
  | .tup xs, p, n, e, hp => by
    rw [costP] at e; rw [GP] at hp
    obtain ⟨ps, rfl, hp⟩ := hp
    split at e
    · rename_i m q
      cases e
      obtain ⟨a, b⟩ := costsP_ok h xs q hp
      exact ⟨by rw [showCost]; omega, by rw [PyData.showable]; exact b⟩
    · cases e
  | .lst xs, p, n, e, hp => by
    rw [costP] at e; rw [GP] at hp
    obtain ⟨ps, rfl, hp⟩ := hp
    split at e
    · rename_i m q
      cases e
      obtain ⟨a, b⟩ := costsP_ok h xs q hp
      exact ⟨by rw [showCost]; omega, by rw [PyData.showable]; exact b⟩
    · cases e
theorem costsP_ok (h : HRel W δ s g st) : ∀ (pxs : List PX) {ps : List PyData} {n : Nat}, costsP s pxs = some n → GPs W g pxs ps → showCost.costAll ps ≤ n ∧ PyData.showableAll ps = true
  | [], ps, n, e, hp => by rw [costsP] at e; cases e; rw [GPs] at hp; subst hp; exact ⟨Nat.le_refl _, rfl⟩
  | x :: xs, ps, n, e, hp => by
    rw [costsP] at e; rw [GPs] at hp
    obtain ⟨p, ps', rfl, a, b⟩ := hp
    split at e
    · rename_i u v q1 q2
      cases e
      obtain ⟨a1, a2⟩ := costP_ok h x q1 a
      obtain ⟨b1, b2⟩ := costsP_ok h xs q2 b
      exact ⟨by rw [showCost.costAll]; omega, by rw [PyData.showableAll, a2, b2]; rfl⟩
    · cases e
end
theorem repr_ok (h : HRel W δ s g st) (hx : Gam W g x d) {px : PX} {n : Nat} (q1 : pyOf s fuelP x = some px) (q2 : costP s px = some n) (q3 : n ≤ sizeLine) : ∃ p, bltD .repr [d] st = .ok (.rep p) st ∧ GP W g px p := by
  obtain ⟨p, a, b, c⟩ := pyOf_ok h fuelP x q1 hx
  obtain ⟨u, v⟩ := costP_ok h px q2 b
  refine ⟨p, ?_, b⟩
  unfold bltD
  have a : toPy st 60 d = some p := a
  simp only [a]
  rw [if_pos]
  simp only [Bool.and_eq_true, decide_eq_true_eq]
  exact ⟨c, v, by omega⟩
theorem neg_ok {l l1 : List (Bool × SS)} {b : Bool} {m : Outs Bool} (q : neg m = some l) (hm : ∀ l1, m = some l1 → Asks W δ g env st l1 b) : Asks W δ g env st l (!b) := by
  unfold neg at q
  obtain ⟨l1, q1, q2⟩ := bindM_some q
  obtain ⟨s1, m1, h1⟩ := hm l1 q1
  obtain ⟨l2, q3, k⟩ := goM_mem q2 m1
  obtain ⟨s2, m2, h2⟩ := ret1_ok h1 q3
  exact ⟨s2, k _ m2, h2⟩
theorem isNone_ok (h : Rel2 W δ s g env st) (hx : Gam W g x d) {l : List (Bool × SS)} (q : isNone s x = some l) : ∃ b, cmpD .isn d .non st = some b ∧ Asks W δ g env st l b := by
  unfold isNone at q
  rcases orElse_some q with q | q
  · obtain ⟨b, a, k⟩ := ask1_ok h hx q
    exact ⟨b, cmpD_indep a, k⟩
  · have hs := h.h.shG hx
    have go : d ≠ .non → ret1 false s = some l → ∃ b, cmpD .isn d .non st = some b ∧ Asks W δ g env st l b := fun hn q => ⟨false, by cases d <;> first | rfl | exact absurd rfl hn, ret1_ok h q⟩
    split at q
    · rename_i z; rw [z, Gam] at hs; obtain ⟨n, rfl, _⟩ := hs; exact go (by simp) q
    · rename_i z; rw [z, Gam] at hs; obtain ⟨n, rfl, _⟩ := hs; exact go (by simp) q
    · rename_i z; rw [z, Gam] at hs; obtain ⟨n, rfl, _⟩ := hs; exact go (by simp) q
    · rename_i z; rw [z, Gam] at hs; obtain ⟨r, n, rfl, _⟩ := hs; exact go (by simp) q
    · rename_i z; rw [z, Gam] at hs; obtain ⟨r, n, rfl, _⟩ := hs; exact go (by simp) q
    · rename_i z; rw [z, Gam] at hs; obtain ⟨r, rfl, _⟩ := hs; exact go (by simp) q
    · rename_i z; rw [z, Gam] at hs; obtain ⟨r, rfl, _⟩ := hs; exact go (by simp) q
    · cases q
theorem eqV_ok (h : Rel2 W δ s g env st) (hx : Gam W g x d) (hy : Gam W g y e) {l : List (Bool × SS)} (q : eqV s x y = some l) : ∃ b, eqD st d e = some b ∧ Asks W δ g env st l b := by
  unfold eqV at q
  split at q
  · rename_i p p'
    rw [Gam] at hx hy
    obtain ⟨a, rfl, ha⟩ := hx
    obtain ⟨b, rfl, hb⟩ := hy
    split at q
    · rename_i hs
      cases sameP_ok h.h p p' hs ha hb
      refine ⟨true, ?_, ret1_ok h q⟩
      unfold eqD
      simp only [same_refl a (GP_lay p ha), if_true]
    · cases q
  · rcases orElse_some q with q | q
    · exact askS_ok (op := .eq) h hx hy q
    · split at q
      · rename_i px py q1 q2
        obtain ⟨p, a, b, c⟩ := pyOf_ok h.h fuelP x q1 hx
        obtain ⟨p', a', b', c'⟩ := pyOf_ok h.h fuelP y q2 hy
        exact ⟨_, eqD_of a a' c c', eqP_ok _ _ _ h b b' q⟩
      · cases q
theorem inV_ok (h : Rel2 W δ s g env st) (hx : Gam W g x d) (hy : Gam W g y e) {l : List (Bool × SS)} (q : inV s x y = some l) : ∃ b, inD st d e = some b ∧ Asks W δ g env st l b := by
  unfold inV at q
  split at q
  · rename_i px pys q1 q2
    obtain ⟨p, a, b, c⟩ := pyOf_ok h.h fuelP x q1 hx
    obtain ⟨p', a', b', c'⟩ := pyOf_ok h.h fuelP y q2 hy
    rw [GP] at b'
    obtain ⟨ps, rfl, b'⟩ := b'
    rw [canLay_tup] at c'
    refine ⟨_, ?_, inPs_ok _ b pys h b' q⟩
    have a : toPy st 60 d = some p := a
    have a' : toPy st 60 e = some (.tuple ps) := a'
    unfold inD
    simp only [a, a', c, c', Bool.and_self, if_true]
  · rename_i px pys q1 q2
    obtain ⟨p, a, b, c⟩ := pyOf_ok h.h fuelP x q1 hx
    obtain ⟨p', a', b', c'⟩ := pyOf_ok h.h fuelP y q2 hy
    rw [GP] at b'
    obtain ⟨ps, rfl, b'⟩ := b'
    rw [canLay_list] at c'
    refine ⟨_, ?_, inPs_ok _ b pys h b' q⟩
    have a : toPy st 60 d = some p := a
    have a' : toPy st 60 e = some (.list ps) := a'
    unfold inD
    simp only [a, a', c, c', Bool.and_self, if_true]
  · cases q
theorem cmpX_ok (h : Rel2 W δ s g env st) (hx : Gam W g x d) (hy : Gam W g y e) {op : Cop} {l : List (Bool × SS)} (q : cmpX op s x y = some l) : ∃ b, cmpD op d e st = some b ∧ Asks W δ g env st l b := by
  have ng : ∀ {m : Outs Bool} {f : Option Bool}, neg m = some l → (∀ l1, m = some l1 → ∃ b, f = some b ∧ Asks W δ g env st l1 b) → ∃ b, f.map (!·) = some b ∧ Asks W δ g env st l b := by
    intro m f q hm
    have q' := q
    unfold neg at q'
    obtain ⟨l1, q1, _⟩ := bindM_some q'
    obtain ⟨b, rfl, hb⟩ := hm l1 q1
    exact ⟨!b, rfl, neg_ok (l1 := l1) q fun l2 e2 => by rw [q1] at e2; cases e2; exact hb⟩
  unfold cmpX at q
  split at q
  · obtain ⟨b, a, k⟩ := eqV_ok h hx hy q
    exact ⟨b, by cases d <;> cases e <;> exact a, k⟩
  · obtain ⟨b, a, k⟩ := ng q fun l1 q1 => eqV_ok h hx hy q1
    exact ⟨b, by cases d <;> cases e <;> exact a, k⟩
  · split at q
    · rw [Gam] at hy; subst hy
      exact isNone_ok h hx q
    · cases q
  · split at q
    · rw [Gam] at hy; subst hy
      obtain ⟨b, a, k⟩ := ng q fun l1 q1 => isNone_ok h hx q1
      refine ⟨b, ?_, k⟩
      rw [← a]
      cases d <;> rfl
    · cases q
  · obtain ⟨b, a, k⟩ := inV_ok h hx hy q
    exact ⟨b, by cases d <;> cases e <;> exact a, k⟩
  · obtain ⟨b, a, k⟩ := ng q fun l1 q1 => inV_ok h hx hy q1
    exact ⟨b, by cases d <;> cases e <;> exact a, k⟩
  · exact askS_ok h hx hy q
theorem lc_len {c : LC} {ds : List D} (h : LCG W g c ds) : c.least ≤ ds.length ∧ ds.length ≤ c.most := by
  cases c with
  | ex xs => have := Gams.length h; simp [LC.least, LC.most, this]
  | of lo hi x => exact h.1
theorem truS_ok (h : Rel2 W δ s g env st) (hx : Gam W g x d) {l : List (Bool × SS)} (q : truS s x = some l) : ∃ b, truth st d = some b ∧ Asks W δ g env st l b := by
  unfold truS at q
  rcases orElse_some q with q | q
  · obtain ⟨b, a, k⟩ := ask1_ok h hx q
    exact ⟨b, truth_indep a, k⟩
  · have go : ∀ {c : LC} {ds : List D}, LCG W g c ds → (if 0 < c.least then ret1 true s else if c.most = 0 then ret1 false s else bothI s) = some l → Asks W δ g env st l (!ds.isEmpty) := by
      intro c ds hc q
      have := lc_len hc
      split at q
      · rename_i h0
        have : ds.isEmpty = false := by cases ds with | nil => simp at this; omega | cons _ _ => rfl
        rw [this]; exact ret1_ok h q
      · split at q
        · rename_i h0
          have : ds.isEmpty = true := by cases ds with | nil => rfl | cons _ _ => simp at this; omega
          rw [this]; exact ret1_ok h q
        · exact bothI_ok h q _
    split at q
    · rename_i c q1
      obtain ⟨ds, rfl, hc⟩ := tcOf_ok h.h hx q1
      exact ⟨_, rfl, go hc q⟩
    · split at q
      · rename_i c q1
        obtain ⟨r, ds, rfl, hr, hc⟩ := lcOf_ok h.h hx q1
        refine ⟨_, ?_, go hc q⟩
        unfold truth; simp only [hr]
      · split at q
        · rename_i a b q1
          obtain ⟨n, rfl, u, v⟩ := rng_ok h.h hx q1
          have := u a rfl
          have := v b rfl
          refine ⟨n != 0, rfl, ?_⟩
          split at q
          · have : (n != 0) = true := by simp; omega
            rw [this]; exact ret1_ok h q
          · exact bothI_ok h q _
        · rename_i q1
          obtain ⟨n, rfl, _⟩ := rng_ok h.h hx q1
          exact ⟨n != 0, rfl, bothI_ok h q _⟩
        · cases q
end
end PL

set_option Elab.async false
set_option linter.all false
set_option maxRecDepth 100000
set_option maxHeartbeats 4000000
/-! SXI: less or equal. -/
namespace PL
open PySem L2
section
variable {W : Wo} {g g' g2 : Gh} {δ : Nat} {s s' : SS} {st st' : Sto} {env : Env} {x y : SV} {d e : D}
theorem ltO_ok {a b : Option Int} {n : Int} (h : ltO a b = true) (ha : ∀ l, a = some l → l ≤ n) : ∀ l, b = some l → l ≤ n := by
  intro l hl; subst hl
  unfold ltO at h
  split at h
  · rename_i z; cases z
  · rename_i z; cases z; have := ha _ rfl; simp at h; omega
  · cases h
theorem gtO_ok {a b : Option Int} {n : Int} (h : gtO a b = true) (ha : ∀ l, a = some l → n ≤ l) : ∀ l, b = some l → n ≤ l := by
  intro l hl; subst hl
  unfold gtO at h
  split at h
  · rename_i z; cases z
  · rename_i z; cases z; have := ha _ rfl; simp at h; omega
  · cases h
mutual
theorem le_ok (h : HRel W δ s g st) : ∀ (n : Nat) (x y : SV) {d : D}, le s n x y = true → Gam W g x d → Gam W g y d
  | 0, x, y, d, q, hx => by cases y <;> simp [le] at q <;> (rw [Gam]; trivial)
  | n + 1, x, y, d, q, hx => by
    unfold le at q
    split at q
    · cases q
    · rw [Gam]; trivial
    · rename_i m i j z
      rw [decide_eq_true_eq] at q; subst q; exact hx
    · rename_i y _ _ _ m i z _ _
      cases z
      rw [Gam] at hx
      split at q
      · cases q
      · rename_i x q1
        exact le_ok h n _ y q (h.sd i d _ hx q1).1
      · cases q
    · rename_i y _ _ _ m xs z _
      cases z
      rw [Gam] at hx
      obtain ⟨x, hm, hx⟩ := hx.mem
      exact leU_ok h n xs y q hm hx
    · rename_i x _ _ _ m ys z _ _
      cases z
      rw [Gam]
      obtain ⟨y, hm, hy⟩ := leA_ok h n x ys q hx
      exact GamU.of_mem hm hy
    · rw [deq_eq q] at hx; exact hx
    · rw [Gam] at hx; rw [Gam]; subst hx; exact memD_mem q
    · rw [Gam] at hx; rw [Gam]
      rw [Bool.and_eq_true] at q
      exact ⟨_, hx, ltO_ok q.1 (fun l hl => by cases hl; exact Int.le_refl _), gtO_ok q.2 (fun l hl => by cases hl; exact Int.le_refl _)⟩
    · rw [Gam] at hx; rw [Gam]
      rw [List.all_eq_true] at q
      exact memD_mem (q d hx)
    · rw [Gam] at hx; rw [Gam]
      rw [List.all_eq_true] at q
      have q := q d hx
      split at q
      · rw [Bool.and_eq_true] at q
        exact ⟨_, rfl, ltO_ok q.1 (fun l hl => by cases hl; exact Int.le_refl _), gtO_ok q.2 (fun l hl => by cases hl; exact Int.le_refl _)⟩
      · cases q
    · rw [Gam] at hx; rw [Gam]
      rw [Bool.and_eq_true] at q
      obtain ⟨k, rfl, u, v⟩ := hx
      exact ⟨k, rfl, ltO_ok q.1 u, gtO_ok q.2 v⟩
    · rename_i m xs ys z
      cases z
      rw [Gam] at hx; rw [Gam]
      obtain ⟨ds, rfl, hx⟩ := hx
      exact ⟨ds, rfl, leP_ok h n xs ys q hx⟩
    · rename_i m xs lo hi y z
      cases z
      rw [Gam] at hx; rw [Gam]
      obtain ⟨ds, rfl, hx⟩ := hx
      simp only [Bool.and_eq_true, decide_eq_true_eq] at q
      rw [hx.length] at q
      refine ⟨ds, rfl, q.1, fun e he => ?_⟩
      obtain ⟨x, hm, hx⟩ := hx.mem he
      exact leU_ok h n xs y q.2 hm hx
    · rename_i m a b x lo hi y z
      cases z
      rw [Gam] at hx; rw [Gam]
      obtain ⟨ds, rfl, hl, hx⟩ := hx
      simp only [Bool.and_eq_true, decide_eq_true_eq] at q
      exact ⟨ds, rfl, by omega, fun e he => le_ok h n x y q.2 (hx e he)⟩
    · rename_i m xs ys z
      cases z
      rw [Gam] at hx; rw [Gam]
      obtain ⟨r, ds, rfl, hp, hx⟩ := hx
      exact ⟨r, ds, rfl, hp, leP_ok h n xs ys q hx⟩
    · rename_i m xs lo hi y z
      cases z
      rw [Gam] at hx; rw [Gam]
      obtain ⟨r, ds, rfl, hp, hx⟩ := hx
      simp only [Bool.and_eq_true, decide_eq_true_eq] at q
      rw [hx.length] at q
      refine ⟨r, ds, rfl, hp, q.1, fun e he => ?_⟩
      obtain ⟨x, hm, hx⟩ := hx.mem he
      exact leU_ok h n xs y q.2 hm hx
    · rename_i m a b x lo hi y z
      cases z
      rw [Gam] at hx; rw [Gam]
      obtain ⟨r, ds, rfl, hp, hl, hx⟩ := hx
      simp only [Bool.and_eq_true, decide_eq_true_eq] at q
      exact ⟨r, ds, rfl, hp, by omega, fun e he => le_ok h n x y q.2 (hx e he)⟩
    · rw [decide_eq_true_eq] at q; subst q; exact hx
    · exact hx
    · rw [decide_eq_true_eq] at q; subst q; exact hx
    · cases q
theorem leU_ok (h : HRel W δ s g st) : ∀ (n : Nat) (xs : List SV) (y : SV) {x : SV} {d : D}, leU s n xs y = true → x ∈ xs → Gam W g x d → Gam W g y d
  | 0, xs, y, x, d, q, hm, hx => by simp [leU] at q
  | n + 1, [], y, x, d, q, hm, hx => by cases hm
  | n + 1, z :: xs, y, x, d, q, hm, hx => by
    rw [leU, Bool.and_eq_true] at q
    rcases List.mem_cons.mp hm with rfl | hm
    · exact le_ok h n x y q.1 hx
    · exact leU_ok h n xs y q.2 hm hx
theorem leA_ok (h : HRel W δ s g st) : ∀ (n : Nat) (x : SV) (ys : List SV) {d : D}, leA s n x ys = true → Gam W g x d → ∃ y ∈ ys, Gam W g y d
  | 0, x, ys, d, q, hx => by simp [leA] at q
  | n + 1, x, [], d, q, hx => by simp [leA] at q
  | n + 1, x, y :: ys, d, q, hx => by
    rw [leA, Bool.or_eq_true] at q
    rcases q with q | q
    · exact ⟨y, List.mem_cons_self, le_ok h n x y q hx⟩
    · obtain ⟨z, hm, hz⟩ := leA_ok h n x ys q hx
      exact ⟨z, List.mem_cons_of_mem _ hm, hz⟩
theorem leP_ok (h : HRel W δ s g st) : ∀ (n : Nat) (xs ys : List SV) {ds : List D}, leP s n xs ys = true → Gams W g xs ds → Gams W g ys ds
  | 0, xs, ys, ds, q, hx => by simp [leP] at q
  | n + 1, [], [], ds, q, hx => hx
  | n + 1, x :: xs, [], ds, q, hx => by simp [leP] at q
  | n + 1, [], y :: ys, ds, q, hx => by simp [leP] at q
  | n + 1, x :: xs, y :: ys, ds, q, hx => by
    rw [leP, Bool.and_eq_true] at q
    rw [Gams] at hx ⊢
    obtain ⟨d, ds', rfl, h1, h2⟩ := hx
    exact ⟨d, ds', rfl, le_ok h n x y q.1 h1, leP_ok h n xs ys q.2 h2⟩
end

/-! ### operations: what comes of them -/
/-- one of the ways is right -/
def Post (W : Wo) (δ : Nat) (l : List (SV × SS)) (g : Gh) (env : Env) (d : D) (st : Sto) : Prop := ∃ p ∈ l, ∃ g', g.le g' ∧ Rel2 W δ p.2 g' env st ∧ Gam W g' p.1 d
theorem Post.here {l : List (SV × SS)} (h : Rel2 W δ s g env st) (hx : Gam W g x d) (hm : (x, s) ∈ l) : Post W δ l g env d st := ⟨(x, s), hm, g, Gh.le.refl, h, hx⟩
theorem Post.sub {l l' : List (SV × SS)} (h : Post W δ l g env d st) (k : ∀ q ∈ l, q ∈ l') : Post W δ l' g env d st := let ⟨p, a, b⟩ := h; ⟨p, k p a, b⟩
theorem Post.up {l : List (SV × SS)} (l1 : g.le g') (h : Post W δ l g' env d st) : Post W δ l g env d st := let ⟨p, a, g2, b, c⟩ := h; ⟨p, a, g2, l1.trans b, c⟩
theorem Post.ret1 {l : List (SV × SS)} (h : Rel2 W δ s g env st) (hx : Gam W g x d) (q : PL.ret1 x s = some l) : Post W δ l g env d st := by
  unfold PL.ret1 at q; cases q
  exact Post.here h hx (List.mem_singleton.mpr rfl)
/-- a new object -/
theorem Post.alloc {l : List (SV × SS)} (h : Rel2 W δ s g env st) {o : AO} {c : Ob} (ho : AOR W g o c) (q : some [PL.alloc s o] = some l) : Post W δ l g env (.ref st.length) (st ++ [c]) := by
  cases q
  obtain ⟨a, b⟩ := h.alloc ho
  exact ⟨_, List.mem_singleton.mpr rfl, _, Gh.le_push, a, b⟩
theorem optMap_mem {α β : Type} {f : α → Option β} : ∀ {l : List α} {r : List β} {a : α}, optMap f l = some r → a ∈ l → ∃ b ∈ r, f a = some b
  | c :: l, r, a, h, hm => by
    rw [optMap] at h
    split at h
    · cases h
    · rename_i b e1
      split at h
      · cases h
      · rename_i r' e2
        cases h
        rcases List.mem_cons.mp hm with rfl | hm
        · exact ⟨b, List.mem_cons_self, e1⟩
        · obtain ⟨b', a', c'⟩ := optMap_mem e2 hm
          exact ⟨b', List.mem_cons_of_mem _ a', c'⟩
theorem lift1_ok (h : Rel2 W δ s g env st) (hx : Gam W g x d) {f : D → Option D} {l : List (SV × SS)} (q : lift1 f s x = some l) : ∃ r, f d = some r ∧ Post W δ l g env r st := by
  unfold lift1 at q
  split at q
  · rename_i ds
    rw [Gam] at hx
    split at q
    · rename_i es q1
      cases q
      obtain ⟨r, hr, e⟩ := optMap_mem q1 hx
      exact ⟨r, e, Post.here h (mk1_ok hr).1 (List.mem_singleton.mpr rfl)⟩
    · cases q
  · obtain ⟨l1, q1, q2⟩ := bindM_some q
    obtain ⟨s1, m1, h1⟩ := cases1_ok h hx q1
    obtain ⟨l2, q3, k⟩ := goM_mem q2 m1
    split at q3
    · rename_i e1 q4
      cases q3
      exact ⟨_, q4, Post.here (x := .c e1) h1 (by rw [Gam]) (k _ (List.mem_singleton.mpr rfl))⟩
    · cases q3
theorem lift2_ok (h : Rel2 W δ s g env st) (hx : Gam W g x d) (hy : Gam W g y e) {f : D → D → Option D} {l : List (SV × SS)} (q : lift2 f s x y = some l) : ∃ r, f d e = some r ∧ Post W δ l g env r st := by
  unfold lift2 at q
  split at q
  · rename_i ds _
    rw [Gam] at hx
    split at q
    · rename_i es q1
      have he := fin_ok h.h hy q1
      split at q
      · rename_i rs q2
        cases q
        obtain ⟨r, hr, e1⟩ := optMap_mem (a := (d, e)) q2 (List.mem_flatMap.mpr ⟨d, hx, List.mem_map.mpr ⟨e, he, rfl⟩⟩)
        exact ⟨r, e1, Post.here h (mk1_ok hr).1 (List.mem_singleton.mpr rfl)⟩
      · cases q
    · cases q
  · obtain ⟨l1, q1, q2⟩ := bindM_some q
    obtain ⟨s1, m1, h1⟩ := cases1_ok h hx q1
    obtain ⟨l2, q3, k⟩ := goM_mem q2 m1
    obtain ⟨r, e1, p⟩ := lift1_ok h1 hy q3
    exact ⟨r, e1, p.sub k⟩
/-- Wd of what is known -/
theorem Wd_of {r : Res D} {d : D} {P : D → Sto → Prop} (e : r = .ok d st) (h : P d st) : Wd r P := by rw [e]; exact h
end
end PL

set_option Elab.async false
set_option linter.all false
set_option maxRecDepth 100000
set_option maxHeartbeats 4000000
/-! SXJ: operations. -/
namespace PL
open PySem L2
section
variable {W : Wo} {g g' g2 : Gh} {δ : Nat} {s s' : SS} {st st' : Sto} {env : Env} {x y : SV} {d e : D}
theorem LC.all_ok (h : HRel W δ s g st) {c : LC} {ds : List D} (hc : LCG W g c ds) (q : c.all s y = true) : ∀ e ∈ ds, Gam W g y e := by
  intro e he
  cases c with
  | ex xs =>
    obtain ⟨x, hm, hx⟩ := Gams.mem hc he
    exact leU_ok h _ xs y q hm hx
  | of lo hi x => exact le_ok h _ x y q (hc.2 e he)
theorem LC.app_ok (h : HRel W δ s g st) {a b : LC} {ds es : List D} (ha : LCG W g a ds) (hb : LCG W g b es) (q : LC.okApp s a b = true) : LCG W g (a.app b) (ds ++ es) := by
  have la := lc_len ha
  have lb := lc_len hb
  have go : ∀ y, a.all s y = true → b.all s y = true → LCG W g (.of (a.least + b.least) (a.most + b.most) y) (ds ++ es) := fun y qa qb =>
    ⟨by rw [List.length_append]; omega, fun e he => by
      rcases List.mem_append.mp he with he | he
      · exact LC.all_ok h ha qa e he
      · exact LC.all_ok h hb qb e he⟩
  cases a with
  | ex xs =>
    cases b with
    | ex ys => exact Gams.append ha hb
    | of lo hi z =>
      unfold LC.okApp LC.app at q
      simp only [Bool.and_eq_true] at q
      exact go _ q.1 q.2
  | of lo hi z =>
    unfold LC.okApp LC.app at q
    simp only [Bool.and_eq_true] at q
    exact go _ q.1 q.2
theorem LC.tv_ok {c : LC} {ds : List D} (h : LCG W g c ds) : Gam W g c.tv (.tup ds) := by
  cases c with
  | ex xs => unfold LC.tv; simp only; rw [Gam]; exact ⟨ds, rfl, h⟩
  | of lo hi x => unfold LC.tv; simp only; rw [Gam]; exact ⟨ds, rfl, h⟩
theorem LC.ao_ok {c : LC} {ds : List D} (h : LCG W g c ds) : AOR W g c.ao (.lst ds) := by
  cases c with
  | ex xs => exact ⟨ds, rfl, h⟩
  | of lo hi x => exact ⟨ds, rfl, h⟩
theorem LC.len_ok {c : LC} {ds : List D} (h : LCG W g c ds) : Gam W g c.lenV (.int ds.length) := by
  cases c with
  | ex xs => unfold LC.lenV; simp only; rw [Gam, Gams.length h]
  | of lo hi x =>
    unfold LC.lenV
    have := h.1
    simp only
    split
    · rename_i z; rw [Gam]
      have : ds.length = lo := by omega
      rw [this]
    · rw [Gam]
      exact ⟨_, rfl, fun l hl => by cases hl; omega, fun l hl => by cases hl; omega⟩
theorem addO_lo {a b : Option Int} {n m : Int} (h1 : ∀ l, a = some l → l ≤ n) (h2 : ∀ l, b = some l → l ≤ m) : ∀ l, addO a b = some l → l ≤ n + m := by
  intro l hl; cases a <;> cases b <;> simp [addO] at hl
  have := h1 _ rfl; have := h2 _ rfl; omega
theorem addO_hi {a b : Option Int} {n m : Int} (h1 : ∀ l, a = some l → n ≤ l) (h2 : ∀ l, b = some l → m ≤ l) : ∀ l, addO a b = some l → n + m ≤ l := by
  intro l hl; cases a <;> cases b <;> simp [addO] at hl
  have := h1 _ rfl; have := h2 _ rfl; omega
theorem subO_lo {a b : Option Int} {n m : Int} (h1 : ∀ l, a = some l → l ≤ n) (h2 : ∀ l, b = some l → m ≤ l) : ∀ l, subO a b = some l → l ≤ n - m := by
  intro l hl; cases a <;> cases b <;> simp [subO] at hl
  have := h1 _ rfl; have := h2 _ rfl; omega
theorem subO_hi {a b : Option Int} {n m : Int} (h1 : ∀ l, a = some l → n ≤ l) (h2 : ∀ l, b = some l → l ≤ m) : ∀ l, subO a b = some l → n - m ≤ l := by
  intro l hl; cases a <;> cases b <;> simp [subO] at hl
  have := h1 _ rfl; have := h2 _ rfl; omega
theorem lim64_ok {a b : Option Int} {n : Int} (h : lim64 a b = true) (h1 : ∀ l, a = some l → l ≤ n) (h2 : ∀ l, b = some l → n ≤ l) : small64 n = true := by
  cases a <;> cases b <;> simp [lim64] at h
  have := h1 _ rfl; have := h2 _ rfl
  unfold small64; simp only [Bool.and_eq_true, decide_eq_true_eq]; omega
theorem gam_int {n : Int} : Gam W g (.int none none) (.int n) := by rw [Gam]; exact ⟨_, rfl, (fun _ z => by cases z), (fun _ z => by cases z)⟩
theorem gam_bnd {n a b : Int} (h1 : a ≤ n) (h2 : n ≤ b) : Gam W g (.int (some a) (some b)) (.int n) := by rw [Gam]; exact ⟨_, rfl, (fun _ z => by cases z; exact h1), (fun _ z => by cases z; exact h2)⟩
theorem binI_ok (h : Rel2 W δ s g env st) {op : Bop} {n m : Int} {p1 p2 q1 q2 : Option Int} {l : List (SV × SS)} (h1 : ∀ l, p1 = some l → l ≤ n) (h2 : ∀ l, p2 = some l → n ≤ l) (h3 : ∀ l, q1 = some l → l ≤ m) (h4 : ∀ l, q2 = some l → m ≤ l)
    (e : binI op s (p1, p2) (q1, q2) = some l) : ∃ r, binD op (.int n) (.int m) st = .ok r st ∧ Post W δ l g env r st := by
  cases op with
  | add =>
    unfold binI at e
    exact ⟨_, rfl, Post.ret1 h (by rw [Gam]; exact ⟨_, rfl, addO_lo h1 h3, addO_hi h2 h4⟩) e⟩
  | sub =>
    unfold binI at e
    exact ⟨_, rfl, Post.ret1 h (by rw [Gam]; exact ⟨_, rfl, subO_lo h1 h4, subO_hi h2 h3⟩) e⟩
  | mul =>
    unfold binI at e
    simp only at e
    split at e
    · rename_i hl
      have hs : (small64 n || small64 m) = true := by
        rw [Bool.or_eq_true] at hl ⊢
        rcases hl with hl | hl
        · exact .inl (lim64_ok hl h1 h2)
        · exact .inr (lim64_ok hl h3 h4)
      refine ⟨.int (n * m), by unfold binD; simp only [hs, if_true], ?_⟩
      split at e
      · rename_i a b c d z1 z2
        cases z1; cases z2
        have ha := h1 _ rfl; have hb := h2 _ rfl; have hc := h3 _ rfl; have hd := h4 _ rfl
        split at e
        · rename_i hac
          exact Post.ret1 h (gam_bnd (Int.mul_nonneg (by omega) (by omega)) (Int.mul_le_mul hb hd (by omega) (by omega))) e
        · exact Post.ret1 h gam_int e
      · exact Post.ret1 h gam_int e
    · cases e
  | md =>
    unfold binI at e
    simp only at e
    split at e
    · rename_i c d z
      cases z
      have := h3 _ rfl; have := h4 _ rfl
      split at e
      · rename_i hc
        refine ⟨.int (n % m), by unfold binD; simp only [decide_eq_true (show 0 < m by omega), if_true], Post.ret1 h (gam_bnd (Int.emod_nonneg _ (by omega)) ?_) e⟩
        have := Int.emod_lt_of_pos n (show 0 < m by omega); omega
      · cases e
    · cases e
  | fdiv =>
    unfold binI at e
    simp only at e
    split at e
    · rename_i c d z
      cases z
      have := h3 _ rfl; have := h4 _ rfl
      split at e
      · rename_i hc
        refine ⟨.int (n / m), by unfold binD; simp only [decide_eq_true (show 0 < m by omega), decide_eq_true (show m < 1073741824 by omega), Bool.and_self, if_true], ?_⟩
        split at e
        · rename_i a b z
          cases z
          have := h1 _ rfl; have := h2 _ rfl
          split at e
          · rename_i ha
            refine Post.ret1 h (gam_bnd (Int.ediv_nonneg (by omega) (by omega)) ?_) e
            have : n / m ≤ n := Int.ediv_le_self _ (by omega)
            omega
          · exact Post.ret1 h gam_int e
        · exact Post.ret1 h gam_int e
      · cases e
    · cases e
  | pow => unfold binI at e; cases e
theorem Gams.rep {xs : List SV} {ds : List D} (h : Gams W g xs ds) : ∀ k : Nat, Gams W g (List.replicate k xs).flatten (List.replicate k ds).flatten
  | 0 => rfl
  | k + 1 => by rw [List.replicate_succ, List.replicate_succ, List.flatten_cons, List.flatten_cons]; exact h.append (Gams.rep h k)
theorem Wd.okPost {r : Res D} {l : List (SV × SS)} (e : r = .ok d st) (h : Post W δ l g env d st) : Wd r (Post W δ l g env) := by rw [e]; exact h
theorem binS_ok (h : Rel2 W δ s g env st) (hx : Gam W g x d) (hy : Gam W g y e) {op : Bop} {l : List (SV × SS)} (q : binS op s x y = some l) : Wd (binD op d e st) (Post W δ l g env) := by
  unfold binS at q
  split at q
  · obtain ⟨r, a, k⟩ := lift2_ok h hx hy q
    exact Wd.okPost (binD_indep (pureD_some a).1) k
  · split at q
    · rename_i p p' q1 q2
      obtain ⟨n, rfl, h1, h2⟩ := rng_ok h.h hx q1
      obtain ⟨m, rfl, h3, h4⟩ := rng_ok h.h hy q2
      obtain ⟨r, a, k⟩ := binI_ok h h1 h2 h3 h4 q
      exact Wd.okPost a k
    · split at q
      · split at q
        · rename_i a b q1 q2
          split at q
          · rename_i hc
            obtain ⟨ds, rfl, ha⟩ := tcOf_ok h.h hx q1
            obtain ⟨es, rfl, hb⟩ := tcOf_ok h.h hy q2
            have := lc_len ha
            have := lc_len hb
            exact Wd.okPost (by unfold binD; simp only []; rw [if_pos (by omega)]) (Post.ret1 h (LC.tv_ok (LC.app_ok h.h ha hb hc.2)) q)
          · cases q
        · split at q
          · rename_i a b q1 q2
            split at q
            · rename_i hc
              obtain ⟨r1, ds, rfl, hr1, ha⟩ := lcOf_ok h.h hx q1
              obtain ⟨r2, es, rfl, hr2, hb⟩ := lcOf_ok h.h hy q2
              have := lc_len ha
              have := lc_len hb
              have e1 : binD .add (.ref r1) (.ref r2) st = .ok (.ref st.length) (st ++ [.lst (ds ++ es)]) := by
                unfold binD; simp only [hr1, hr2]; rw [if_pos (by omega)]
              rw [e1]
              exact Post.alloc h (LC.ao_ok (LC.app_ok h.h ha hb hc.2)) q
            · cases q
          · cases q
      · split at q
        · rename_i xs k q1 q2
          split at q
          · rename_i hc
            obtain ⟨r1, ds, rfl, hr1, ha⟩ := lcOf_ok h.h hx q1
            cases constOf_ok h.h y hy q2
            have hl := Gams.length ha
            have e1 : binD .mul (.ref r1) (.int k) st = .ok (.ref st.length) (st ++ [.lst (List.replicate k.toNat ds).flatten]) := by
              unfold binD; simp only [hr1]
              rw [if_pos]
              simp only [Bool.and_eq_true, decide_eq_true_eq]
              rw [← hl]
              exact ⟨hc.2.1, hc.1, hc.2.2⟩
            rw [e1]
            exact Post.alloc (o := .lst (List.replicate k.toNat xs).flatten) h ⟨_, rfl, Gams.rep ha _⟩ q
          · cases q
        · cases q
      · cases q
theorem negS_ok (h : Rel2 W δ s g env st) (hx : Gam W g x d) {l : List (SV × SS)} (q : negS s x = some l) : ∃ i, d = .int i ∧ Post W δ l g env (.int (-i)) st := by
  unfold negS at q
  split at q
  · obtain ⟨r, a, k⟩ := lift1_ok h hx q
    split at a
    · cases a; exact ⟨_, rfl, k⟩
    · cases a
  · split at q
    · rename_i a b q1
      obtain ⟨n, rfl, h1, h2⟩ := rng_ok h.h hx q1
      refine ⟨n, rfl, Post.ret1 h ?_ q⟩
      rw [Gam]
      refine ⟨_, rfl, fun l hl => ?_, fun l hl => ?_⟩
      · obtain ⟨z, e, rfl⟩ := Option.map_eq_some_iff.mp hl
        have := h2 z e; omega
      · obtain ⟨z, e, rfl⟩ := Option.map_eq_some_iff.mp hl
        have := h1 z e; omega
    · cases q

/-! ### items -/
mutual
theorem seqV_eq : ∀ {x y : SV}, seqV x y = true → x = y
  | .c _, .c _, h => by rw [seqV] at h; rw [deq_eq h]
  | .v _, .v _, h => by rw [seqV, decide_eq_true_eq] at h; rw [h]
  | .one _, .one _, h => by rw [seqV] at h; rw [deqs_eq h]
  | .int _ _, .int _ _, h => by simp only [seqV, Bool.and_eq_true, decide_eq_true_eq] at h; rw [h.1, h.2]
  | .tup _, .tup _, h => by rw [seqV] at h; rw [seqVs_eq h]
  | .tupOf _ _ _, .tupOf _ _ _, h => by simp only [seqV, Bool.and_eq_true, decide_eq_true_eq] at h; rw [h.1, h.2.1, seqV_eq h.2.2]
  | .lst _, .lst _, h => by rw [seqV] at h; rw [seqVs_eq h]
  | .lstOf _ _ _, .lstOf _ _ _, h => by simp only [seqV, Bool.and_eq_true, decide_eq_true_eq] at h; rw [h.1, h.2.1, seqV_eq h.2.2]
  | .own _, .own _, h => by rw [seqV, decide_eq_true_eq] at h; rw [h]
  | .un _, .un _, h => by rw [seqV] at h; rw [seqVs_eq h]
  | .bag, .bag, h => rfl
  | .pr _, .pr _, h => by rw [seqV, decide_eq_true_eq] at h; rw [h]
  | .any, .any, h => rfl
  | .rep _, _, h => by simp [seqV] at h
  | .c _, .v _, h | .c _, .one _, h | .c _, .int _ _, h | .c _, .tup _, h | .c _, .tupOf _ _ _, h | .c _, .lst _, h | .c _, .lstOf _ _ _, h | .c _, .own _, h | .c _, .un _, h | .c _, .rep _, h | .c _, .bag, h | .c _, .pr _, h | .c _, .any, h => by simp [seqV] at h
  | .v _, .c _, h | .v _, .one _, h | .v _, .int _ _, h | .v _, .tup _, h | .v _, .tupOf _ _ _, h | .v _, .lst _, h | .v _, .lstOf _ _ _, h | .v _, .own _, h | .v _, .un _, h | .v _, .rep _, h | .v _, .bag, h | .v _, .pr _, h | .v _, .any, h => by simp [seqV] at h
  | .one _, .c _, h | .one _, .v _, h | .one _, .int _ _, h | .one _, .tup _, h | .one _, .tupOf _ _ _, h | .one _, .lst _, h | .one _, .lstOf _ _ _, h | .one _, .own _, h | .one _, .un _, h | .one _, .rep _, h | .one _, .bag, h | .one _, .pr _, h | .one _, .any, h => by simp [seqV] at h
  | .int _ _, .c _, h | .int _ _, .v _, h | .int _ _, .one _, h | .int _ _, .tup _, h | .int _ _, .tupOf _ _ _, h | .int _ _, .lst _, h | .int _ _, .lstOf _ _ _, h | .int _ _, .own _, h | .int _ _, .un _, h | .int _ _, .rep _, h | .int _ _, .bag, h | .int _ _, .pr _, h | .int _ _, .any, h => by simp [seqV] at h
  | .tup _, .c _, h | .tup _, .v _, h | .tup _, .one _, h | .tup _, .int _ _, h | .tup _, .tupOf _ _ _, h | .tup _, .lst _, h | .tup _, .lstOf _ _ _, h | .tup _, .own _, h | .tup _, .un _, h | .tup _, .rep _, h | .tup _, .bag, h | .tup _, .pr _, h | .tup _, .any, h => by simp [seqV] at h
  | .tupOf _ _ _, .c _, h | .tupOf _ _ _, .v _, h | .tupOf _ _ _, .one _, h | .tupOf _ _ _, .int _ _, h | .tupOf _ _ _, .tup _, h | .tupOf _ _ _, .lst _, h | .tupOf _ _ _, .lstOf _ _ _, h | .tupOf _ _ _, .own _, h | .tupOf _ _ _, .un _, h | .tupOf _ _ _, .rep _, h | .tupOf _ _ _, .bag, h | .tupOf _ _ _, .pr _, h | .tupOf _ _ _, .any, h => by simp [seqV] at h
  | .lst _, .c _, h | .lst _, .v _, h | .lst _, .one _, h | .lst _, .int _ _, h | .lst _, .tup _, h | .lst _, .tupOf _ _ _, h | .lst _, .lstOf _ _ _, h | .lst _, .own _, h | .lst _, .un _, h | .lst _, .rep _, h | .lst _, .bag, h | .lst _, .pr _, h | .lst _, .any, h => by simp [seqV] at h
  | .lstOf _ _ _, .c _, h | .lstOf _ _ _, .v _, h | .lstOf _ _ _, .one _, h | .lstOf _ _ _, .int _ _, h | .lstOf _ _ _, .tup _, h | .lstOf _ _ _, .tupOf _ _ _, h | .lstOf _ _ _, .lst _, h | .lstOf _ _ _, .own _, h | .lstOf _ _ _, .un _, h | .lstOf _ _ _, .rep _, h | .lstOf _ _ _, .bag, h | .lstOf _ _ _, .pr _, h | .lstOf _ _ _, .any, h => by simp [seqV] at h
  | .own _, .c _, h | .own _, .v _, h | .own _, .one _, h | .own _, .int _ _, h | .own _, .tup _, h | .own _, .tupOf _ _ _, h | .own _, .lst _, h | .own _, .lstOf _ _ _, h | .own _, .un _, h | .own _, .rep _, h | .own _, .bag, h | .own _, .pr _, h | .own _, .any, h => by simp [seqV] at h
  | .un _, .c _, h | .un _, .v _, h | .un _, .one _, h | .un _, .int _ _, h | .un _, .tup _, h | .un _, .tupOf _ _ _, h | .un _, .lst _, h | .un _, .lstOf _ _ _, h | .un _, .own _, h | .un _, .rep _, h | .un _, .bag, h | .un _, .pr _, h | .un _, .any, h => by simp [seqV] at h
  | .bag, .c _, h | .bag, .v _, h | .bag, .one _, h | .bag, .int _ _, h | .bag, .tup _, h | .bag, .tupOf _ _ _, h | .bag, .lst _, h | .bag, .lstOf _ _ _, h | .bag, .own _, h | .bag, .un _, h | .bag, .rep _, h | .bag, .pr _, h | .bag, .any, h => by simp [seqV] at h
  | .pr _, .c _, h | .pr _, .v _, h | .pr _, .one _, h | .pr _, .int _ _, h | .pr _, .tup _, h | .pr _, .tupOf _ _ _, h | .pr _, .lst _, h | .pr _, .lstOf _ _ _, h | .pr _, .own _, h | .pr _, .un _, h | .pr _, .rep _, h | .pr _, .bag, h | .pr _, .any, h => by simp [seqV] at h
  | .any, .c _, h | .any, .v _, h | .any, .one _, h | .any, .int _ _, h | .any, .tup _, h | .any, .tupOf _ _ _, h | .any, .lst _, h | .any, .lstOf _ _ _, h | .any, .own _, h | .any, .un _, h | .any, .rep _, h | .any, .bag, h | .any, .pr _, h => by simp [seqV] at h
theorem seqVs_eq : ∀ {xs ys : List SV}, seqVs xs ys = true → xs = ys
  | [], [], _ => rfl
  | x :: xs, y :: ys, h => by rw [seqVs, Bool.and_eq_true] at h; rw [seqV_eq h.1, seqVs_eq h.2]
  | [], _ :: _, h => by simp [seqVs] at h
  | _ :: _, [], h => by simp [seqVs] at h
theorem deqs_eq : ∀ {a b : List D}, deqs a b = true → a = b
  | [], [], _ => rfl
  | x :: xs, y :: ys, h => by rw [deqs, Bool.and_eq_true] at h; rw [deq_eq h.1, deqs_eq h.2]
  | [], _ :: _, h => by simp [deqs] at h
  | _ :: _, [], h => by simp [deqs] at h
end
theorem addDs_mem : ∀ {b a : List D}, (d ∈ a ∨ d ∈ b) → d ∈ addDs a b
  | [], a, h => by rw [addDs]; rcases h with h | h; exact h; cases h
  | c :: r, a, h => by
    rw [addDs]
    apply addDs_mem
    rcases h with h | h
    · left; split
      · exact h
      · exact List.mem_append.mpr (.inl h)
    · rcases List.mem_cons.mp h with rfl | h
      · left; split
        · rename_i z; exact memD_mem z
        · exact List.mem_append.mpr (.inr (List.mem_singleton.mpr rfl))
      · exact .inr h
theorem addVs_mem : ∀ {b a : List SV}, (x ∈ a ∨ x ∈ b) → x ∈ addVs a b
  | [], a, h => by rw [addVs]; rcases h with h | h; exact h; cases h
  | c :: r, a, h => by
    rw [addVs]
    apply addVs_mem
    rcases h with h | h
    · left; split
      · exact h
      · exact List.mem_append.mpr (.inl h)
    · rcases List.mem_cons.mp h with rfl | h
      · left; split
        · rename_i z
          rw [List.any_eq_true] at z
          obtain ⟨w, hw, z⟩ := z
          rw [seqV_eq z]; exact hw
        · exact List.mem_append.mpr (.inr (List.mem_singleton.mpr rfl))
      · exact .inr h
theorem finV_ok (hx : Gam W g x d) {ds : List D} (q : finV x = some ds) : d ∈ ds := by
  unfold finV at q
  split at q
  · cases q; rw [Gam] at hx; simp [hx]
  · cases q; rw [Gam] at hx; exact hx
  · cases q
theorem finVs_mem : ∀ {xs : List SV} {ds : List D}, finVs xs = some ds → x ∈ xs → Gam W g x d → d ∈ ds
  | y :: xs, ds, q, hm, hx => by
    rw [finVs] at q
    split at q
    · rename_i a b q1 q2
      cases q
      rcases List.mem_cons.mp hm with rfl | hm
      · exact List.mem_append.mpr (.inl (finV_ok hx q1))
      · exact List.mem_append.mpr (.inr (finVs_mem q2 hm hx))
    · cases q
theorem someOf_ok (h : Rel2 W δ s g env st) {xs : List SV} (hm : x ∈ xs) (hx : Gam W g x d) {l : List (SV × SS)} (q : someOf xs s = some l) : Post W δ l g env d st := by
  unfold someOf at q
  split at q
  · rename_i ds q1
    exact Post.ret1 h (mk1_ok (addDs_mem (.inr (finVs_mem q1 hm hx)))).1 q
  · cases q
    exact Post.here h hx (List.mem_map.mpr ⟨x, addVs_mem (.inr hm), rfl⟩)
theorem atI_rel {xs : List SV} {ds : List D} (h : Gams W g xs ds) {k : Int} (q : atI xs k = some x) : ∃ d, atI ds k = some d ∧ Gam W g x d := by
  unfold atI at q ⊢
  rw [← h.length]
  obtain ⟨j, e1, e2⟩ := Option.bind_eq_some_iff.mp q
  obtain ⟨d, a, b⟩ := h.get e2
  exact ⟨d, by rw [e1]; exact a, b⟩
theorem optAll_ok {xs : List SV} : ∀ {ks : List D} {ys : List SV}, optAll xs ks = some ys → d ∈ ks → ∃ k y, d = .int k ∧ atI xs k = some y ∧ y ∈ ys
  | c :: ks, ys, q, hm => by
    unfold optAll at q
    split at q
    · rename_i z; cases z
    · rename_i k r z
      cases z
      split at q
      · rename_i x l q1 q2
        cases q
        rcases List.mem_cons.mp hm with rfl | hm
        · exact ⟨k, x, rfl, q1, List.mem_cons_self⟩
        · obtain ⟨k', y, a, b, c⟩ := optAll_ok q2 hm
          exact ⟨k', y, a, b, List.mem_cons_of_mem _ c⟩
      · cases q
    · cases q
theorem atI_at {α : Type} {xs : List α} {k : Int} (h0 : 0 ≤ k) (h1 : k < xs.length) : ∃ x, atI xs k = some x ∧ xs[k.toNat]? = some x := by
  have hk : k.toNat < xs.length := by omega
  refine ⟨xs[k.toNat], ?_, List.getElem?_eq_getElem hk⟩
  unfold atI ixN
  rw [if_pos h0, if_pos h1]
  simp [hk]
theorem atI_neg {α : Type} {xs : List α} {k : Int} (h0 : -(xs.length : Int) ≤ k) (h1 : k < xs.length) : ∃ x ∈ xs, atI xs k = some x := by
  by_cases hk : 0 ≤ k
  · obtain ⟨x, a, b⟩ := atI_at hk h1
    exact ⟨x, List.mem_of_getElem? b, a⟩
  · have hj : (k + xs.length).toNat < xs.length := by omega
    refine ⟨xs[(k + xs.length).toNat], List.getElem_mem hj, ?_⟩
    unfold atI ixN
    rw [if_neg hk, if_pos h0]
    simp [hj]
theorem idxC_ok (h : Rel2 W δ s g env st) {c : LC} {ds : List D} (hc : LCG W g c ds) (hy : Gam W g y e) {l : List (SV × SS)} (q : idxC s c y = some l) : ∃ k r, e = .int k ∧ atI ds k = some r ∧ Post W δ l g env r st := by
  unfold idxC at q
  split at q
  · rename_i xs ks
    rw [Gam] at hy
    split at q
    · rename_i ys q1
      obtain ⟨k, z, rfl, a, b⟩ := optAll_ok q1 hy
      obtain ⟨r, e1, e2⟩ := atI_rel hc a
      exact ⟨k, r, rfl, e1, someOf_ok h b e2 q⟩
    · cases q
  · rename_i xs _
    rcases orElse_some q with q | q
    · obtain ⟨l1, q1, q2⟩ := bindM_some q
      obtain ⟨s1, m1, h1⟩ := cases1_ok h hy q1
      obtain ⟨l2, q3, k⟩ := goM_mem q2 m1
      split at q3
      · rename_i j
        split at q3
        · rename_i z q4
          obtain ⟨r, e1, e2⟩ := atI_rel hc q4
          exact ⟨_, r, rfl, e1, (Post.ret1 h1 e2 q3).sub k⟩
        · cases q3
      · cases q3
    · split at q
      · rename_i a b q1
        obtain ⟨k, rfl, u, v⟩ := rng_ok h.h hy q1
        have u := u a rfl
        have v := v b rfl
        split at q
        · rename_i hab
          have hl := Gams.length hc
          obtain ⟨z, e1, e2⟩ := atI_at (xs := xs) (k := k) (by omega) (by omega)
          obtain ⟨r, e3, e4⟩ := atI_rel hc e1
          refine ⟨k, r, rfl, e3, someOf_ok h (x := z) ?_ e4 q⟩
          refine List.mem_of_getElem? (i := (k - a).toNat) ?_
          rw [List.getElem?_take_of_lt (by omega), List.getElem?_drop]
          have : a.toNat + (k - a).toNat = k.toNat := by omega
          rw [this]; exact e2
        · cases q
      · cases q
  · rename_i lo hi z _
    split at q
    · rename_i a b q1
      obtain ⟨k, rfl, u, v⟩ := rng_ok h.h hy q1
      have u := u a rfl
      have v := v b rfl
      split at q
      · rename_i hab
        have := hc.1
        obtain ⟨r, m, e1⟩ := atI_neg (xs := ds) (k := k) (by omega) (by omega)
        exact ⟨k, r, rfl, e1, Post.ret1 h (hc.2 r m) q⟩
      · cases q
    · cases q
theorem getS_ok : ∀ {kvs : List (Key × SV)} {ds : List D} {k : Key} {v : SV}, Gams W g (kvs.map (·.2)) ds → getS kvs k = some v → ∃ d, getKV ((kvs.map (·.1)).zip ds) k = some d ∧ Gam W g v d
  | [], ds, k, v, h, q => by simp [getS] at q
  | (k', v') :: kvs, ds, k, v, h, q => by
    rw [List.map_cons, Gams] at h
    obtain ⟨d, ds', rfl, h1, h2⟩ := h
    unfold getS at q
    unfold getKV
    simp only [List.map_cons, List.zip_cons_cons, List.find?_cons] at q ⊢
    by_cases hk : k' = k
    · simp only [hk, decide_true] at q ⊢
      cases q; exact ⟨d, rfl, h1⟩
    · simp only [hk, decide_false] at q ⊢
      exact getS_ok h2 q
theorem idxS_ok (h : Rel2 W δ s g env st) (hx : Gam W g x d) (hy : Gam W g y e) {l : List (SV × SS)} (q : idxS s x y = some l) : Wd (idxD d e st) (Post W δ l g env) := by
  unfold idxS at q
  split at q
  · rename_i c q1
    obtain ⟨ds, rfl, hc⟩ := tcOf_ok h.h hx q1
    obtain ⟨k, r, rfl, a, p⟩ := idxC_ok h hc hy q
    exact Wd.okPost (by unfold idxD; simp only [a]; rfl) p
  · split at q
    · rename_i c q1
      obtain ⟨r, ds, rfl, hr, hc⟩ := lcOf_ok h.h hx q1
      obtain ⟨k, z, rfl, a, p⟩ := idxC_ok h hc hy q
      exact Wd.okPost (by unfold idxD; simp only [hr, a]; rfl) p
    · split at q
      · rename_i k q1
        have hs := h.h.shG hx
        rw [q1, Gam] at hs
        obtain ⟨r, rfl, hr⟩ := hs
        split at q
        · rename_i kvs q2
          obtain ⟨c', h1, ds, rfl, h2⟩ := h.h.obs k _ r q2 hr
          obtain ⟨l1, q3, q4⟩ := bindM_some q
          obtain ⟨s1, m1, h3⟩ := cases1_ok h hy q3
          obtain ⟨l2, q5, kk⟩ := goM_mem q4 m1
          split at q5
          · rename_i key q6
            split at q5
            · rename_i v q7
              obtain ⟨z, e1, e2⟩ := getS_ok h2 q7
              refine Wd.okPost (d := z) ?_ ((Post.ret1 h3 e2 q5).sub kk)
              unfold idxD
              cases e <;> simp only [keyD] at q6 <;> first | (cases q6; simp only [h1, keyD, e1]; rfl) | (cases q6)
            · cases q5
          · cases q5
        · cases q
      · split at q
        · obtain ⟨r, a, k⟩ := lift2_ok h hx hy q
          exact Wd.okPost (idxD_indep (pureD_some a).1) k
        · cases q
end
end PL

set_option Elab.async false
set_option linter.all false
set_option maxRecDepth 100000
set_option maxHeartbeats 4000000
/-! SXK: operations, continued. -/
namespace PL
open PySem L2
section
variable {W : Wo} {g g' g2 : Gh} {δ : Nat} {s s' : SS} {st st' : Sto} {env : Env} {x y z : SV} {d e f : D}
theorem Gams.cut {xs : List SV} {ds : List D} (h : Gams W g xs ds) (a b : Option Int) : Gams W g (cutD xs a b) (cutD ds a b) := by
  unfold cutD
  rw [h.length]
  exact (h.drop _).take _
theorem cut_mem {α : Type} {ds : List α} {a b : Option Int} {e : α} (h : e ∈ cutD ds a b) : e ∈ ds := by
  unfold cutD at h
  exact List.mem_of_mem_drop (List.mem_of_mem_take h)
theorem cut_len {α : Type} {ds : List α} {a b : Option Int} : (cutD ds a b).length ≤ ds.length := by
  unfold cutD; simp only [List.length_take, List.length_drop]; omega
theorem slS_ok (h : Rel2 W δ s g env st) (hx : Gam W g x d) (hy : Gam W g y e) (hz : Gam W g z f) {l : List (SV × SS)} (q : slS s x y z = some l) : Wd (slD d e f st) (Post W δ l g env) := by
  unfold slS at q
  obtain ⟨l1, q1, q2⟩ := bindM_some q
  obtain ⟨s1, m1, h1⟩ := cases1_ok h hy q1
  obtain ⟨l2, q3, k⟩ := goM_mem q2 m1
  obtain ⟨l3, q4, q5⟩ := bindM_some q3
  obtain ⟨s2, m2, h2⟩ := cases1_ok h1 hz q4
  obtain ⟨l4, q6, k2⟩ := goM_mem q5 m2
  have kk : ∀ q ∈ l4, q ∈ l := fun p hp => k p (k2 p hp)
  split at q6
  · rename_i a b pa pb
    split at q6
    · rename_i xs q7
      obtain ⟨ds, rfl, hc⟩ := tcOf_ok h2.h hx q7
      exact Wd.okPost (d := .tup (cutD ds a b)) (by unfold slD; simp only [pa, pb]) ((Post.ret1 h2 (LC.tv_ok (c := .ex _) (Gams.cut hc a b)) q6).sub kk)
    · rename_i lo m w q7
      obtain ⟨ds, rfl, hc⟩ := tcOf_ok h2.h hx q7
      exact Wd.okPost (d := .tup (cutD ds a b)) (by unfold slD; simp only [pa, pb]) ((Post.ret1 h2 (LC.tv_ok (ds := cutD ds a b) (c := .of 0 m w) ⟨⟨Nat.zero_le _, Nat.le_trans cut_len hc.1.2⟩, fun e he => hc.2 e (cut_mem he)⟩) q6).sub kk)
    · split at q6
      · rename_i xs q7
        obtain ⟨r, ds, rfl, hr, hc⟩ := lcOf_ok h2.h hx q7
        have e1 : slD (.ref r) e f st = .ok (.ref st.length) (st ++ [.lst (cutD ds a b)]) := by unfold slD; simp only [pa, pb, hr]
        rw [e1]
        obtain ⟨p, a1, a2⟩ := Post.alloc (o := .lst (cutD xs a b)) h2 ⟨_, rfl, Gams.cut hc a b⟩ q6
        exact ⟨p, kk p a1, a2⟩
      · rename_i lo m w q7
        obtain ⟨r, ds, rfl, hr, hc⟩ := lcOf_ok h2.h hx q7
        have e1 : slD (.ref r) e f st = .ok (.ref st.length) (st ++ [.lst (cutD ds a b)]) := by unfold slD; simp only [pa, pb, hr]
        rw [e1]
        obtain ⟨p, a1, a2⟩ := Post.alloc (o := .lstOf 0 m w) h2 ⟨_, rfl, ⟨Nat.zero_le _, Nat.le_trans cut_len hc.1.2⟩, fun e he => hc.2 e (cut_mem he)⟩ q6
        exact ⟨p, kk p a1, a2⟩
      · obtain ⟨r, a1, a2⟩ := lift1_ok h2 hx q6
        exact Wd.okPost (slD_indep (pureD_some a1).1) (a2.sub kk)
  · cases q6
theorem revS_ok (h : Rel2 W δ s g env st) (hx : Gam W g x d) {l : List (SV × SS)} (q : revS s x = some l) : Wd (revD d st) (Post W δ l g env) := by
  unfold revS at q
  split at q
  · rename_i xs q1
    obtain ⟨r, ds, rfl, hr, hc⟩ := lcOf_ok h.h hx q1
    have e1 : revD (.ref r) st = .ok (.ref st.length) (st ++ [.lst ds.reverse]) := by unfold revD; simp only [hr]
    rw [e1]
    exact Post.alloc (o := .lst xs.reverse) h ⟨_, rfl, Gams.reverse hc⟩ q
  · rename_i a b w q1
    obtain ⟨r, ds, rfl, hr, hc⟩ := lcOf_ok h.h hx q1
    have e1 : revD (.ref r) st = .ok (.ref st.length) (st ++ [.lst ds.reverse]) := by unfold revD; simp only [hr]
    rw [e1]
    exact Post.alloc (o := .lstOf a b w) h ⟨_, rfl, by rw [List.length_reverse]; exact hc.1, fun e he => hc.2 e (List.mem_reverse.mp he)⟩ q
  · cases q
theorem ask_post {b : Bool} {l2 : List (Bool × SS)} (h : ∃ s', (b, s') ∈ l2 ∧ Rel2 W δ s' g env st) {l : List (SV × SS)} (q : sbV (some l2) = some l) : Post W δ l g env (.bl b) st := by
  unfold sbV at q
  cases q
  obtain ⟨s', hm, h⟩ := h
  exact Post.here (x := .c (.bl b)) h (by rw [Gam]) (List.mem_map.mpr ⟨(b, s'), hm, rfl⟩)
theorem sbV_some {m : Outs Bool} {l : List (SV × SS)} (q : sbV m = some l) : ∃ l2, m = some l2 ∧ sbV (some l2) = some l := by
  cases m with
  | none => cases q
  | some l2 => exact ⟨l2, rfl, q⟩
theorem minO_ok {a b : Option Int} {n m : Int} (h1 : ∀ l, a = some l → l ≤ n) (h2 : ∀ l, b = some l → l ≤ m) : ∀ l, minO a b = some l → l ≤ n ∧ l ≤ m := by
  intro l hl; cases a <;> cases b <;> simp [minO] at hl
  have := h1 _ rfl; have := h2 _ rfl
  split at hl <;> omega
theorem minU_ok {a b : Option Int} {n m : Int} (h1 : ∀ l, a = some l → n ≤ l) (h2 : ∀ l, b = some l → m ≤ l) : ∀ l, minU a b = some l → n ≤ l ∨ m ≤ l := by
  intro l hl; cases a <;> cases b <;> simp [minU] at hl
  · have := h2 _ rfl; omega
  · have := h1 _ rfl; omega
  · have := h1 _ rfl; have := h2 _ rfl
    split at hl <;> omega
theorem maxO_ok {a b : Option Int} {n m : Int} (h1 : ∀ l, a = some l → n ≤ l) (h2 : ∀ l, b = some l → m ≤ l) : ∀ l, maxO a b = some l → n ≤ l ∧ m ≤ l := by
  intro l hl; cases a <;> cases b <;> simp [maxO] at hl
  have := h1 _ rfl; have := h2 _ rfl
  split at hl <;> omega
theorem maxU_ok {a b : Option Int} {n m : Int} (h1 : ∀ l, a = some l → l ≤ n) (h2 : ∀ l, b = some l → l ≤ m) : ∀ l, maxU a b = some l → l ≤ n ∨ l ≤ m := by
  intro l hl; cases a <;> cases b <;> simp [maxU] at hl
  · have := h2 _ rfl; omega
  · have := h1 _ rfl; omega
  · have := h1 _ rfl; have := h2 _ rfl
    split at hl <;> omega
theorem tyS_ok (h : HRel W δ s g st) (hx : Gam W g x d) {t : Ty} (q : tyS s x = some t) : tyD st d = some t ∧ d ≠ .non := by
  have hs := h.shG hx
  unfold tyS at q
  split at q
  · rename_i z; rw [z, Gam] at hs; cases q; obtain ⟨n, rfl, _⟩ := hs; exact ⟨rfl, by simp⟩
  · rename_i z; rw [z, Gam] at hs; cases q; obtain ⟨n, rfl, _⟩ := hs; exact ⟨rfl, by simp⟩
  · rename_i z; rw [z, Gam] at hs; cases q; obtain ⟨n, rfl, _⟩ := hs; exact ⟨rfl, by simp⟩
  · rename_i z; rw [z, Gam] at hs; cases q; obtain ⟨r, ds, rfl, hp, _⟩ := hs; exact ⟨by unfold tyD; simp only [(h.ph _ _ hp).1], by simp⟩
  · rename_i z; rw [z, Gam] at hs; cases q; obtain ⟨r, ds, rfl, hp, _⟩ := hs; exact ⟨by unfold tyD; simp only [(h.ph _ _ hp).1], by simp⟩
  · rename_i z; rw [z, Gam] at hs; cases q; obtain ⟨n, rfl, _⟩ := hs; exact ⟨rfl, by simp⟩
  · rename_i k z; rw [z, Gam] at hs
    obtain ⟨r, rfl, hr⟩ := hs
    refine ⟨?_, by simp⟩
    split at q
    · rename_i q2; cases q
      obtain ⟨c, h1, ds, rfl, _⟩ := h.obs k _ r q2 hr
      unfold tyD; simp only [h1]
    · rename_i q2; cases q
      obtain ⟨c, h1, ds, rfl, _⟩ := h.obs k _ r q2 hr
      unfold tyD; simp only [h1]
    · rename_i q2; cases q
      obtain ⟨c, h1, ds, rfl, _⟩ := h.obs k _ r q2 hr
      unfold tyD; simp only [h1]
    · cases q
  · cases q
theorem bltS_ok (h : Rel2 W δ s g env st) {xs : List SV} {ds : List D} (hxs : Gams W g xs ds) {b : Blt} {l : List (SV × SS)} (q : bltS b s xs = some l) : Wd (bltD b ds st) (Post W δ l g env) := by
  have one : ∀ {x : SV} {ds : List D}, Gams W g [x] ds → ∃ d, ds = [d] ∧ Gam W g x d := by
    intro x ds hx
    obtain ⟨d, ds', rfl, h1, h2⟩ := hx
    have h2 : ds' = [] := h2
    subst h2; exact ⟨d, rfl, h1⟩
  have two : ∀ {x y : SV} {ds : List D}, Gams W g [x, y] ds → ∃ d e, ds = [d, e] ∧ Gam W g x d ∧ Gam W g y e := by
    intro x y ds hx
    obtain ⟨d, ds', rfl, h1, h2⟩ := hx
    obtain ⟨e, rfl, h3⟩ := one h2
    exact ⟨d, e, rfl, h1, h3⟩
  unfold bltS at q
  split at q
  · obtain ⟨d, rfl, hx⟩ := one hxs
    split at q
    · rename_i c q1
      obtain ⟨ds, rfl, hc⟩ := tcOf_ok h.h hx q1
      exact Wd.okPost (d := .int ds.length) rfl (Post.ret1 h (LC.len_ok hc) q)
    · split at q
      · rename_i c q1
        obtain ⟨r, ds, rfl, hr, hc⟩ := lcOf_ok h.h hx q1
        exact Wd.okPost (d := .int ds.length) (by unfold bltD; simp only [hr]) (Post.ret1 h (LC.len_ok hc) q)
      · obtain ⟨r, a, k⟩ := lift1_ok h hx q
        exact Wd.okPost (len_indep (pureD_some a).1) k
  · obtain ⟨d, rfl, hx⟩ := one hxs
    split at q
    · obtain ⟨r, a, k⟩ := lift1_ok h hx q
      exact Wd.okPost (abs_indep (pureD_some a).1) k
    · split at q
      · rename_i p q1
        obtain ⟨n, rfl, _⟩ := rng_ok h.h hx q1
        refine Wd.okPost (d := .int (if n < 0 then -n else n)) rfl (Post.ret1 h ?_ q)
        rw [Gam]
        refine ⟨_, rfl, fun l hl => ?_, fun l hl => by cases hl⟩
        cases hl; split <;> omega
      · cases q
  · obtain ⟨d, rfl, hx⟩ := one hxs
    split at q
    · obtain ⟨r, a, k⟩ := lift1_ok h hx q
      exact Wd.okPost (int_indep (pureD_some a).1) k
    · split at q
      · rename_i p q1
        obtain ⟨n, rfl, _⟩ := rng_ok h.h hx q1
        exact Wd.okPost (d := .int n) rfl (Post.ret1 h hx q)
      · cases q
  · obtain ⟨d, rfl, hx⟩ := one hxs
    split at q
    · rename_i c q1
      obtain ⟨ds, rfl, hc⟩ := tcOf_ok h.h hx q1
      exact Wd.okPost (d := .tup ds) rfl (Post.ret1 h (LC.tv_ok hc) q)
    · split at q
      · rename_i c q1
        obtain ⟨r, ds, rfl, hr, hc⟩ := lcOf_ok h.h hx q1
        exact Wd.okPost (d := .tup ds) (by unfold bltD; simp only [hr]) (Post.ret1 h (LC.tv_ok hc) q)
      · cases q
  · obtain ⟨d, rfl, hx⟩ := one hxs
    split at q
    · rename_i c q1
      obtain ⟨ds, rfl, hc⟩ := tcOf_ok h.h hx q1
      have e1 : bltD .list [.tup ds] st = .ok (.ref st.length) (st ++ [.lst ds]) := rfl
      rw [e1]; exact Post.alloc h (LC.ao_ok hc) q
    · split at q
      · rename_i c q1
        obtain ⟨r, ds, rfl, hr, hc⟩ := lcOf_ok h.h hx q1
        have e1 : bltD .list [.ref r] st = .ok (.ref st.length) (st ++ [.lst ds]) := by unfold bltD; simp only [hr]
        rw [e1]; exact Post.alloc h (LC.ao_ok hc) q
      · cases q
  · obtain ⟨d, e, rfl, hx, hy⟩ := two hxs
    split at q
    · obtain ⟨r, a, k⟩ := lift2_ok h hx hy q
      exact Wd.okPost (min_indep (pureD_some a).1) k
    · split at q
      · rename_i p p' q1 q2
        obtain ⟨n, rfl, h1, h2⟩ := rng_ok h.h hx q1
        obtain ⟨m, rfl, h3, h4⟩ := rng_ok h.h hy q2
        refine Wd.okPost (d := .int (if m < n then m else n)) rfl (Post.ret1 h ?_ q)
        rw [Gam]
        refine ⟨_, rfl, fun l hl => ?_, fun l hl => ?_⟩
        · have := minO_ok h1 h3 l hl; split <;> omega
        · have := minU_ok h2 h4 l hl; split <;> omega
      · cases q
  · obtain ⟨d, e, rfl, hx, hy⟩ := two hxs
    split at q
    · obtain ⟨r, a, k⟩ := lift2_ok h hx hy q
      exact Wd.okPost (max_indep (pureD_some a).1) k
    · split at q
      · rename_i p p' q1 q2
        obtain ⟨n, rfl, h1, h2⟩ := rng_ok h.h hx q1
        obtain ⟨m, rfl, h3, h4⟩ := rng_ok h.h hy q2
        refine Wd.okPost (d := .int (if m > n then m else n)) rfl (Post.ret1 h ?_ q)
        rw [Gam]
        refine ⟨_, rfl, fun l hl => ?_, fun l hl => ?_⟩
        · have := maxU_ok h1 h3 l hl; split <;> omega
        · have := maxO_ok h2 h4 l hl; split <;> omega
      · cases q
  · obtain ⟨d, rfl, hx⟩ := one hxs
    split at q
    · rename_i px q1
      split at q
      · rename_i n q2
        split at q
        · rename_i q3
          obtain ⟨p, a, b⟩ := repr_ok h.h hx q1 q2 q3
          exact Wd.okPost a (Post.ret1 (x := .rep px) h (by rw [Gam]; exact ⟨p, rfl, b⟩) q)
        · cases q
      · cases q
    · cases q
  · obtain ⟨d, rfl, hx⟩ := one hxs
    obtain ⟨r, a, k⟩ := lift1_ok h hx q
    exact Wd.okPost (strI_indep (pureD_some a).1) k
  · rename_i t x
    obtain ⟨d, rfl, hx⟩ := one hxs
    split at q
    · obtain ⟨l2, q1, q2⟩ := sbV_some q
      obtain ⟨b, a, k⟩ := ask1_ok h hx q1
      exact Wd.okPost (d := .bl b) (by unfold bltD; simp only [isiD_indep a]; rfl) (ask_post k q2)
    · split at q
      · rename_i u q1
        obtain ⟨a, hn⟩ := tyS_ok h.h hx q1
        have e2 : isiD st t d = some (decide (u = t) || (decide (u = .bool) && decide (t = .int))) := by
          unfold isiD
          split
          · exact absurd rfl hn
          · simp only [a]
        exact Wd.okPost (d := .bl (decide (u = t) || (decide (u = .bool) && decide (t = .int)))) (by unfold bltD; simp only [e2]; rfl) (Post.ret1 h (by unfold bV; rw [Gam]) q)
      · cases q
  · cases q
end
end PL

set_option Elab.async false
set_option linter.all false
set_option maxRecDepth 100000
set_option maxHeartbeats 4000000
/-! SXL: methods, stores by place. -/
namespace PL
open PySem L2
section
variable {W : Wo} {g g' g2 : Gh} {δ : Nat} {s s' : SS} {st st' : Sto} {env : Env} {x y z : SV} {d e f : D}
theorem gams1 {ds : List D} (hx : Gams W g [x] ds) : ∃ d, ds = [d] ∧ Gam W g x d := by
  obtain ⟨d, ds', rfl, h1, h2⟩ := hx
  have h2 : ds' = [] := h2
  subst h2; exact ⟨d, rfl, h1⟩
theorem gams2 {ds : List D} (hx : Gams W g [x, y] ds) : ∃ d e, ds = [d, e] ∧ Gam W g x d ∧ Gam W g y e := by
  obtain ⟨d, ds', rfl, h1, h2⟩ := hx
  obtain ⟨e, rfl, h3⟩ := gams1 h2
  exact ⟨d, e, rfl, h1, h3⟩
theorem gams0 {ds : List D} (hx : Gams W g [] ds) : ds = [] := hx
/-- an object is changed, and something told -/
theorem Post.write {l : List (SV × SS)} (h : Rel2 W δ s g env st) {k r : Nat} {o : AO} {c : Ob} (hk : g.ro[k]? = some r) (hng : s.heap[k]? ≠ some .gone) (ho : AOR W g o c) (hx : Gam W g x d) (q : PL.ret1 x (s.setH k o) = some l) : Post W δ l g env d (st.set r c) := by
  unfold PL.ret1 at q; cases q
  exact Post.here (h.setH hk hng ho) hx (List.mem_singleton.mpr rfl)
theorem methS_ok (h : Rel2 W δ s g env st) (hx : Gam W g x d) {xs : List SV} {ds : List D} (hxs : Gams W g xs ds) {m : Mt} {l : List (SV × SS)} (q : methS m s x xs = some l) : isLst d st = true ∧ Wd (methD m d ds st) (Post W δ l g env) := by
  unfold methS at q
  split at q
  · rename_i k q1
    have hs := h.h.shG hx
    rw [q1, Gam] at hs
    obtain ⟨r, rfl, hr⟩ := hs
    split at q
    · rename_i ys x q2
      obtain ⟨c', h1, es, rfl, hc⟩ := h.h.obs k _ r q2 hr
      obtain ⟨d, rfl, hx⟩ := gams1 hxs
      refine ⟨X_isLst h1, ?_⟩
      split at q
      · rename_i hl
        have hl' : es.length < sizeLine := by rw [← Gams.length hc]; exact hl
        rw [X_append h1 hl']
        exact Post.write (o := .lst (ys ++ [x])) h hr (by rw [q2]; simp) ⟨_, rfl, Gams.append hc (Gams.one hx)⟩ (by rw [Gam]) q
      · cases q
    · rename_i lo hi z x q2
      obtain ⟨c', h1, es, rfl, hc⟩ := h.h.obs k _ r q2 hr
      obtain ⟨d, rfl, hx⟩ := gams1 hxs
      refine ⟨X_isLst h1, ?_⟩
      simp only at q
      split at q
      · rename_i hl
        rw [Bool.and_eq_true] at hl
        have hl' : es.length < sizeLine := Nat.lt_of_le_of_lt hc.1.2 hl.1
        rw [X_append h1 hl']
        refine Post.write (o := .lstOf (lo + 1) (hi + 1) (jnV fuelJ z x)) h hr (by rw [q2]; simp) ⟨_, rfl, ?_, fun e he => ?_⟩ (by rw [Gam]) q
        · have := hc.1; simp; omega
        · rcases List.mem_append.mp he with he | he
          · exact le_ok h.h _ _ _ hl.2.1 (hc.2 e he)
          · rw [List.mem_singleton.mp he]; exact le_ok h.h _ _ _ hl.2.2 hx
      · cases q
    · rename_i ys q2
      obtain ⟨c', h1, es, rfl, hc⟩ := h.h.obs k _ r q2 hr
      have := gams0 hxs; subst this
      refine ⟨X_isLst h1, ?_⟩
      split at q
      · rename_i x q3
        have hl := Gams.length hc
        obtain ⟨d, e1, e2⟩ := Gams.get hc q3
        have e3 : methD .pop0 (.ref r) [] st = .ok d (st.set r (.lst es.dropLast)) := by
          unfold methD; simp only [h1]
          rw [← hl, e1]
        rw [e3]
        refine Post.write (o := .lst ys.dropLast) h hr (by rw [q2]; simp) ⟨_, rfl, ?_⟩ e2 q
        rw [List.dropLast_eq_take, List.dropLast_eq_take, hl]
        exact Gams.take _ hc
      · cases q
    · rename_i ys i q2
      obtain ⟨c', h1, es, rfl, hc⟩ := h.h.obs k _ r q2 hr
      obtain ⟨d, rfl, hx⟩ := gams1 hxs
      refine ⟨X_isLst h1, ?_⟩
      split at q
      · rename_i j q3
        cases constOf_ok h.h i hx q3
        split at q
        · rename_i hj
          split at q
          · rename_i x q4
            have hl := Gams.length hc
            obtain ⟨d, e1, e2⟩ := Gams.get hc q4
            have hlt : j.toNat < es.length := (List.getElem?_eq_some_iff.mp e1).1
            have e3 : methD .popAt (.ref r) [.int j] st = .ok d (st.set r (.lst (es.eraseIdx j.toNat))) := by
              unfold methD; simp only [h1]
              rw [if_pos (by simp only [Bool.and_eq_true, decide_eq_true_eq]; omega)]
              have : seqIndex? j es.length = some j.toNat := by
                unfold seqIndex?
                have h0 : ¬ j < 0 := by omega
                have h2 : ¬ (j ≥ (es.length : Int)) := by omega
                simp [h0, h2]
                try omega
              rw [this]; simp only [e1]
            rw [e3]
            refine Post.write (o := .lst (ys.eraseIdx j.toNat)) h hr (by rw [q2]; simp) ⟨_, rfl, ?_⟩ e2 q
            rw [List.eraseIdx_eq_take_drop_succ, List.eraseIdx_eq_take_drop_succ]
            exact (Gams.take _ hc).append (Gams.drop _ hc)
          · cases q
        · cases q
      · cases q
    · rename_i ys i x q2
      obtain ⟨c', h1, es, rfl, hc⟩ := h.h.obs k _ r q2 hr
      obtain ⟨d, e, rfl, hi, hx⟩ := gams2 hxs
      refine ⟨X_isLst h1, ?_⟩
      split at q
      · rename_i j q3
        cases constOf_ok h.h i hi q3
        split at q
        · rename_i hj
          have hl := Gams.length hc
          have e3 : methD .insert (.ref r) [.int j, e] st = .ok .non (st.set r (.lst (es.take j.toNat ++ [e] ++ es.drop j.toNat))) := by
            unfold methD; simp only [h1]
            rw [if_pos (by simp only [Bool.and_eq_true, decide_eq_true_eq]; omega)]
          rw [e3]
          exact Post.write (o := .lst (ys.take j.toNat ++ [x] ++ ys.drop j.toNat)) h hr (by rw [q2]; simp) ⟨_, rfl, ((Gams.take _ hc).append (Gams.one hx)).append (Gams.drop _ hc)⟩ (by rw [Gam]) q
        · cases q
      · cases q
    · rename_i ys x q2
      obtain ⟨c', h1, es, rfl, hc⟩ := h.h.obs k _ r q2 hr
      obtain ⟨d, rfl, hx⟩ := gams1 hxs
      refine ⟨X_isLst h1, ?_⟩
      split at q
      · rename_i b q3
        split at q
        · rename_i hl
          obtain ⟨r2, fs, rfl, hr2, hb⟩ := lcOf_ok h.h hx q3
          have := lc_len hb
          have := Gams.length hc
          rw [X_extend h1 hr2 (by omega)]
          exact Post.write (o := (LC.app (.ex ys) b).ao) h hr (by rw [q2]; simp) (LC.ao_ok (LC.app_ok h.h (a := .ex ys) hc hb hl.2)) (by rw [Gam]) q
        · cases q
      · cases q
    · rename_i lo hi z x q2
      obtain ⟨c', h1, es, rfl, hc⟩ := h.h.obs k _ r q2 hr
      obtain ⟨d, rfl, hx⟩ := gams1 hxs
      refine ⟨X_isLst h1, ?_⟩
      split at q
      · rename_i b q3
        split at q
        · rename_i hl
          obtain ⟨r2, fs, rfl, hr2, hb⟩ := lcOf_ok h.h hx q3
          have := lc_len hb
          have := hc.1
          rw [X_extend h1 hr2 (by omega)]
          exact Post.write (o := (LC.app (.of lo hi z) b).ao) h hr (by rw [q2]; simp) (LC.ao_ok (LC.app_ok h.h (a := .of lo hi z) hc hb hl.2)) (by rw [Gam]) q
        · cases q
      · cases q
    · cases q
  · cases q
theorem cases1_heap {l : List (D × SS)} (e : cases1 s x = some l) {s1 : SS} (hm : (d, s1) ∈ l) : s1.heap = s.heap := by
  unfold cases1 at e
  split at e
  · split at e
    · cases e; simp at hm; rw [hm.2]
    · cases e; obtain ⟨_, _, z⟩ := List.mem_map.mp hm; cases z; rfl
    · split at e
      · cases e; obtain ⟨_, _, z⟩ := List.mem_map.mp hm; cases z; rfl
      · cases e
    · cases e
  · cases e; simp at hm; rw [hm.2]
  · cases e; obtain ⟨_, _, z⟩ := List.mem_map.mp hm; cases z; rfl
  · cases e
theorem putS_fst {kvs : List (Key × SV)} {k : Key} {v : SV} : (putS kvs k v).map (·.1) = if (kvs.any fun kv => decide (kv.1 = k)) = true then kvs.map (·.1) else kvs.map (·.1) ++ [k] := by
  unfold putS
  split
  · rw [List.map_map]
    apply List.map_congr_left
    intro a _
    simp only [Function.comp]
    split <;> rfl
  · simp
theorem zip_any : ∀ {kvs : List (Key × SV)} {ds : List D} {k : Key}, kvs.length = ds.length → (((kvs.map (·.1)).zip ds).any fun kv => decide (kv.1 = k)) = (kvs.any fun kv => decide (kv.1 = k))
  | [], [], k, _ => rfl
  | a :: kvs, d :: ds, k, h => by simp only [List.map_cons, List.zip_cons_cons, List.any_cons]; rw [zip_any (by simpa using h)]
  | [], _ :: _, _, h => by simp at h
  | _ :: _, [], _, h => by simp at h
theorem put_map : ∀ {kvs : List (Key × SV)} {ds : List D} {k : Key} {v : SV} {d : D}, Gams W g (kvs.map (·.2)) ds → Gam W g v d →
    ∃ es, ((kvs.map (·.1)).zip ds).map (fun kv => if kv.1 = k then (kv.1, d) else kv) = (kvs.map (·.1)).zip es ∧ Gams W g ((kvs.map (fun kv => if kv.1 = k then (kv.1, v) else kv)).map (·.2)) es
  | [], ds, k, v, d, h, hv => ⟨[], rfl, rfl⟩
  | a :: kvs, ds, k, v, d, h, hv => by
    rw [List.map_cons, Gams] at h
    obtain ⟨e, ds', rfl, h1, h2⟩ := h
    obtain ⟨es, e1, e2⟩ := put_map (k := k) h2 hv
    simp only [List.map_cons, List.zip_cons_cons, e1]
    by_cases hk : a.1 = k
    · exact ⟨d :: es, by simp [hk], by simp only [hk, if_true]; exact ⟨d, es, rfl, hv, e2⟩⟩
    · exact ⟨e :: es, by simp [hk], by simp only [hk, if_false]; exact ⟨e, es, rfl, h1, e2⟩⟩
theorem zip_snoc {α β : Type} : ∀ {a : List α} {b : List β} {x : α} {y : β}, a.length = b.length → (a ++ [x]).zip (b ++ [y]) = a.zip b ++ [(x, y)]
  | [], [], x, y, _ => rfl
  | a :: l, b :: r, x, y, h => by simp only [List.cons_append, List.zip_cons_cons]; rw [zip_snoc (by simpa using h)]
  | [], _ :: _, _, _, h => by simp at h
  | _ :: _, [], _, _, h => by simp at h
theorem putS_ok {kvs : List (Key × SV)} {ds : List D} {k : Key} {v : SV} {d : D} (h : Gams W g (kvs.map (·.2)) ds) (hv : Gam W g v d) : AOR W g (.dct (putS kvs k v)) (.dct (putKV ((kvs.map (·.1)).zip ds) k d)) := by
  have hl : kvs.length = ds.length := by have := Gams.length h; simpa using this
  unfold AOR
  simp only
  rw [putS_fst]
  unfold putKV putS
  rw [zip_any hl]
  split
  · obtain ⟨es, e1, e2⟩ := put_map (k := k) h hv
    exact ⟨es, by rw [e1], e2⟩
  · refine ⟨ds ++ [d], by rw [zip_snoc (by simpa using hl)], ?_⟩
    rw [List.map_append]
    exact Gams.append h (Gams.one hv)
theorem okWk_ok (h : HRel W δ s g st) {xs ys : List SV} {ds : List D} (hc : Gams W g xs ds) (hv : Gam W g z d) : ∀ {ks : List D}, okWk s xs ys z ks = true → Gams W g ys ds ∧ ∀ k ∈ ks, ∃ j n, k = .int j ∧ ixN xs.length j = some n ∧ ∀ (n' : Nat), n' = n → Gams W g ys (ds.set n' d)
  | [], q => by
    rw [okWk] at q
    exact ⟨leP_ok h _ xs ys q hc, fun k hk => by cases hk⟩
  | c :: ks, q => by
    unfold okWk at q
    split at q
    · rename_i w; cases w
    · rename_i j r w
      cases w
      split at q
      · rename_i n q1
        split at q
        · rename_i y q2
          rw [Bool.and_eq_true] at q
          obtain ⟨a, b⟩ := okWk_ok h hc hv q.2
          refine ⟨a, fun k hk => ?_⟩
          rcases List.mem_cons.mp hk with rfl | hk
          · refine ⟨j, n, rfl, q1, fun n' e => ?_⟩
            subst e
            have hy := le_ok h _ z y q.1 hv
            have e1 : ys = ys.set n' y := by
              apply List.ext_getElem?
              intro i
              by_cases hi : n' = i
              · subst hi
                rw [List.getElem?_set_self (List.getElem?_eq_some_iff.mp q2).1]; exact q2
              · rw [List.getElem?_set_ne hi]
            rw [e1]
            exact Gams.set n' a hy
          · exact b k hk
        · cases q
      · cases q
    · cases q
theorem setS_ok (h : Rel2 W δ s g env st) (hx : Gam W g x d) (hy : Gam W g y e) (hz : Gam W g z f) {l : List (Unit × SS)} (q : setS s x y z = some l) : ∃ st', setD d e f st = some st' ∧ ∃ p ∈ l, Rel2 W δ p.2 g env st' := by
  unfold setS at q
  split at q
  · rename_i k q1
    have hs := h.h.shG hx
    rw [q1, Gam] at hs
    obtain ⟨r, rfl, hr⟩ := hs
    split at q
    · rename_i xs ks q2
      obtain ⟨c', h1, ds, rfl, hc⟩ := h.h.obs k _ r q2 hr
      rw [Gam] at hy
      simp only at q
      split at q
      · rename_i hw
        cases q
        obtain ⟨_, b⟩ := okWk_ok h.h hc hz hw
        obtain ⟨j, n, rfl, e1, e2⟩ := b e hy
        rw [Gams.length hc] at e1
        refine ⟨st.set r (.lst (ds.set n f)), by unfold setD; simp only [h1, e1, Option.map_some], _, List.mem_singleton.mpr rfl, ?_⟩
        exact h.setH (o := .lst (setWk xs z ks)) hr (by rw [q2]; simp) ⟨_, rfl, e2 n rfl⟩
      · cases q
    · rename_i xs q2 _
      obtain ⟨c', h1, ds, rfl, hc⟩ := h.h.obs k _ r q2 hr
      obtain ⟨l1, q3, q4⟩ := bindM_some q
      obtain ⟨s1, m1, h3⟩ := cases1_ok h hy q3
      obtain ⟨l2, q5, kk⟩ := goM_mem q4 m1
      split at q5
      · rename_i j
        split at q5
        · rename_i n e1
          cases q5
          rw [Gams.length hc] at e1
          refine ⟨st.set r (.lst (ds.set n f)), by unfold setD; simp only [h1, e1, Option.map_some], _, kk _ (List.mem_singleton.mpr rfl), ?_⟩
          exact h3.setH (o := .lst (xs.set n z)) hr (by rw [cases1_heap q3 m1, q2]; simp) ⟨_, rfl, Gams.set n hc hz⟩
        · cases q5
      · cases q5
    · rename_i kvs q2
      obtain ⟨c', h1, ds, rfl, hc⟩ := h.h.obs k _ r q2 hr
      have hl : kvs.length = ds.length := by have := Gams.length hc; simpa using this
      obtain ⟨l1, q3, q4⟩ := bindM_some q
      obtain ⟨s1, m1, h3⟩ := cases1_ok h hy q3
      obtain ⟨l2, q5, kk⟩ := goM_mem q4 m1
      split at q5
      · rename_i key q6
        split at q5
        · rename_i hz2
          cases q5
          refine ⟨st.set r (.dct (putKV ((kvs.map (·.1)).zip ds) key f)), ?_, _, kk _ (List.mem_singleton.mpr rfl), h3.setH hr (by rw [cases1_heap q3 m1, q2]; simp) (putS_ok hc hz)⟩
          unfold setD
          have hl2 : ((kvs.map (·.1)).zip ds).length < sizeLine := by rw [List.length_zip, List.length_map, ← hl, Nat.min_self]; exact hz2
          cases e <;> simp only [keyD] at q6 <;> first | (cases q6; simp only [h1, keyD]; rw [if_pos hl2]) | (cases q6)
        · cases q5
      · cases q5
    · cases q
  · cases q
end
end PL

set_option Elab.async false
set_option linter.all false
set_option maxRecDepth 100000
set_option maxHeartbeats 4000000
/-! SXM: ways joined. -/
namespace PL
open PySem L2
section
variable {W : Wo} {g g' g0 g2 : Gh} {δ : Nat} {s s' : SS} {st st' : Sto} {env : Env} {x y z : SV} {d e f : D}
structure Mv (n m : Nat) (g g' : Gh) : Prop where
  sg : ∀ (i : Nat) (d : D), i < n → g.sg[i]? = some d → g'.sg[i]? = some d
  ro : ∀ (k r : Nat), k < m → g.ro[k]? = some r → g'.ro[k]? = some r
  ph : ∀ (r : Nat) (o : Ob), g.ph r o → g'.ph r o
mutual
theorem GP.move {n m : Nat} (v : Mv n m g g') : ∀ (x : PX) (p : PyData), inQ n x = true → GP W g x p → GP W g' x p
  | .c d, p, _, h => by rw [GP] at h ⊢; exact h
  | .v i, p, q, h => by rw [inQ, decide_eq_true_eq] at q; rw [GP] at h ⊢; obtain ⟨d, a, b⟩ := h; exact ⟨d, v.sg i d q a, b⟩
  | .one ds, p, _, h => by rw [GP] at h ⊢; exact h
  | .int _ _, p, _, h => by rw [GP] at h ⊢; exact h
  | .tup xs, p, q, h => by rw [inQ] at q; rw [GP] at h ⊢; obtain ⟨ps, a, b⟩ := h; exact ⟨ps, a, GPs.move v xs ps q b⟩
  | .lst xs, p, q, h => by rw [inQ] at q; rw [GP] at h ⊢; obtain ⟨ps, a, b⟩ := h; exact ⟨ps, a, GPs.move v xs ps q b⟩
theorem GPs.move {n m : Nat} (v : Mv n m g g') : ∀ (xs : List PX) (ps : List PyData), inQs n xs = true → GPs W g xs ps → GPs W g' xs ps
  | [], _, _, h => by rw [GPs] at h ⊢; exact h
  | x :: xs, _, q, h => by rw [inQs, Bool.and_eq_true] at q; rw [GPs] at h ⊢; obtain ⟨p, ps, a, b, c⟩ := h; exact ⟨p, ps, a, GP.move v x p q.1 b, GPs.move v xs ps q.2 c⟩
end
mutual
theorem Gam.move {n m : Nat} (v : Mv n m g g') : ∀ (x : SV) (d : D), inR n m x = true → Gam W g x d → Gam W g' x d
  | .c _, _, _, h => by rw [Gam] at h ⊢; exact h
  | .v i, d, q, h => by rw [inR, decide_eq_true_eq] at q; rw [Gam] at h ⊢; exact v.sg i d q h
  | .one _, _, _, h => by rw [Gam] at h ⊢; exact h
  | .int _ _, _, _, h => by rw [Gam] at h ⊢; exact h
  | .tup xs, _, q, h => by rw [inR] at q; rw [Gam] at h ⊢; obtain ⟨ds, a, b⟩ := h; exact ⟨ds, a, Gams.move v xs ds q b⟩
  | .tupOf lo hi x, _, q, h => by rw [inR] at q; rw [Gam] at h ⊢; obtain ⟨ds, a, b, c⟩ := h; exact ⟨ds, a, b, fun e he => Gam.move v x e q (c e he)⟩
  | .lst xs, _, q, h => by rw [inR] at q; rw [Gam] at h ⊢; obtain ⟨r, ds, a, p, b⟩ := h; exact ⟨r, ds, a, v.ph _ _ p, Gams.move v xs ds q b⟩
  | .lstOf lo hi x, _, q, h => by rw [inR] at q; rw [Gam] at h ⊢; obtain ⟨r, ds, a, p, b, c⟩ := h; exact ⟨r, ds, a, v.ph _ _ p, b, fun e he => Gam.move v x e q (c e he)⟩
  | .own k, _, q, h => by rw [inR, decide_eq_true_eq] at q; rw [Gam] at h ⊢; obtain ⟨r, a, b⟩ := h; exact ⟨r, a, v.ro k r q b⟩
  | .un xs, d, q, h => by rw [inR] at q; rw [Gam] at h ⊢; exact GamU.move v xs d q h
  | .rep x, _, q, h => by rw [inR] at q; rw [Gam] at h ⊢; obtain ⟨p, a, b⟩ := h; exact ⟨p, a, GP.move v x p q b⟩
  | .bag, _, _, h => by rw [Gam] at h ⊢; exact h
  | .pr _, _, _, h => by rw [Gam] at h ⊢; exact h
  | .any, _, _, h => by rw [Gam]; trivial
theorem Gams.move {n m : Nat} (v : Mv n m g g') : ∀ (xs : List SV) (ds : List D), inRs n m xs = true → Gams W g xs ds → Gams W g' xs ds
  | [], _, _, h => by rw [Gams] at h ⊢; exact h
  | x :: xs, _, q, h => by rw [inRs, Bool.and_eq_true] at q; rw [Gams] at h ⊢; obtain ⟨p, ps, a, b, c⟩ := h; exact ⟨p, ps, a, Gam.move v x p q.1 b, Gams.move v xs ps q.2 c⟩
theorem GamU.move {n m : Nat} (v : Mv n m g g') : ∀ (xs : List SV) (d : D), inRs n m xs = true → GamU W g xs d → GamU W g' xs d
  | [], _, _, h => by rw [GamU] at h; exact h.elim
  | x :: xs, d, q, h => by
    rw [inRs, Bool.and_eq_true] at q
    rw [GamU] at h ⊢
    rcases h with h | h
    · exact .inl (Gam.move v x d q.1 h)
    · exact .inr (GamU.move v xs d q.2 h)
end
/-- what is known behind a trim -/
def gT (n0 m : Nat) (g : Gh) (st : Sto) : Gh := ⟨g.sg.take n0, g.ro.take m, fun r o => g.ph r o ∨ ∃ k, m ≤ k ∧ g.ro[k]? = some r ∧ st[r]? = some o⟩
theorem gT_mv {n0 m : Nat} : Mv n0 m g (gT n0 m g st) := ⟨fun i d hi h => by unfold gT; simp only; rw [List.getElem?_take_of_lt hi]; exact h, fun k r hk h => by unfold gT; simp only; rw [List.getElem?_take_of_lt hk]; exact h, fun r o h => .inl h⟩
theorem gT_mv0 {n0 m : Nat} : Mv 0 0 g (gT n0 m g st) := ⟨fun i d hi h => by omega, fun k r hk h => by omega, fun r o h => .inl h⟩
mutual
theorem trV_ok {n0 m : Nat} (h : HRel W δ s g st) : ∀ (n : Nat) (x : SV) {y : SV} {d : D}, trV n0 m s n x = some y → Gam W g x d → Gam W (gT n0 m g st) y d
  | 0, x, y, d, q, hx => by simp [trV] at q
  | n + 1, .v i, y, d, q, hx => by
    rw [trV] at q <;> try (exact fun z => by cases z)
    split at q
    · rename_i hi
      cases q
      exact Gam.move gT_mv _ _ (by rw [inR]; exact decide_eq_true hi) hx
    · rw [Gam] at hx
      obtain ⟨a, b⟩ := h.sd i d y hx q
      exact Gam.move gT_mv0 _ _ b a
  | n + 1, .own k, y, d, q, hx => by
    rw [trV] at q
    split at q
    · rename_i hk
      cases q
      exact Gam.move gT_mv _ _ (by rw [inR]; exact decide_eq_true hk) hx
    · rename_i hk
      rw [Gam] at hx
      obtain ⟨r, rfl, hr⟩ := hx
      split at q
      · rename_i xs q1
        obtain ⟨c, h1, ds, rfl, h2⟩ := h.obs k _ r q1 hr
        split at q
        · rename_i ys q2
          cases q
          rw [Gam]
          exact ⟨r, ds, rfl, .inr ⟨k, by omega, hr, h1⟩, trVs_ok h n xs q2 h2⟩
        · cases q
      · rename_i lo hi x q1
        obtain ⟨c, h1, ds, rfl, h2, h3⟩ := h.obs k _ r q1 hr
        split at q
        · rename_i y' q2
          cases q
          rw [Gam]
          exact ⟨r, ds, rfl, .inr ⟨k, by omega, hr, h1⟩, h2, fun e he => trV_ok h n x q2 (h3 e he)⟩
        · cases q
      · cases q
  | n + 1, .tup xs, y, d, q, hx => by
    rw [trV] at q
    rw [Gam] at hx
    obtain ⟨ds, rfl, hx⟩ := hx
    split at q
    · rename_i ys q2
      cases q
      rw [Gam]
      exact ⟨ds, rfl, trVs_ok h n xs q2 hx⟩
    · cases q
  | n + 1, .tupOf lo hi x, y, d, q, hx => by
    rw [trV] at q
    rw [Gam] at hx
    obtain ⟨ds, rfl, hl, hx⟩ := hx
    split at q
    · rename_i ys q2
      cases q
      rw [Gam]
      exact ⟨ds, rfl, hl, fun e he => trV_ok h n x q2 (hx e he)⟩
    · cases q
  | n + 1, .lst xs, y, d, q, hx => by
    rw [trV] at q
    rw [Gam] at hx
    obtain ⟨r, ds, rfl, hp, hx⟩ := hx
    split at q
    · rename_i ys q2
      cases q
      rw [Gam]
      exact ⟨r, ds, rfl, .inl hp, trVs_ok h n xs q2 hx⟩
    · cases q
  | n + 1, .lstOf lo hi x, y, d, q, hx => by
    rw [trV] at q
    rw [Gam] at hx
    obtain ⟨r, ds, rfl, hp, hl, hx⟩ := hx
    split at q
    · rename_i ys q2
      cases q
      rw [Gam]
      exact ⟨r, ds, rfl, .inl hp, hl, fun e he => trV_ok h n x q2 (hx e he)⟩
    · cases q
  | n + 1, .un xs, y, d, q, hx => by
    rw [trV] at q
    rw [Gam] at hx
    split at q
    · rename_i ys q2
      cases q
      rw [Gam]
      exact trU_ok h n xs q2 hx
    · cases q
  | n + 1, .rep p, y, d, q, hx => by
    rw [trV] at q <;> try (exact fun z => by cases z)
    split at q
    · rename_i hp
      cases q
      exact Gam.move gT_mv _ _ (by rw [inR]; exact hp) hx
    · cases q
  | n + 1, .c _, y, d, q, hx => by rw [trV] at q <;> first | (cases q; exact Gam.move gT_mv0 _ _ rfl hx) | (intros; contradiction) | (intros; simp_all; done)
  | n + 1, .one _, y, d, q, hx => by rw [trV] at q <;> first | (cases q; exact Gam.move gT_mv0 _ _ rfl hx) | (intros; contradiction) | (intros; simp_all; done)
  | n + 1, .int _ _, y, d, q, hx => by rw [trV] at q <;> first | (cases q; exact Gam.move gT_mv0 _ _ rfl hx) | (intros; contradiction) | (intros; simp_all; done)
  | n + 1, .bag, y, d, q, hx => by rw [trV] at q <;> first | (cases q; exact Gam.move gT_mv0 _ _ rfl hx) | (intros; contradiction) | (intros; simp_all; done)
  | n + 1, .pr _, y, d, q, hx => by rw [trV] at q <;> first | (cases q; exact Gam.move gT_mv0 _ _ rfl hx) | (intros; contradiction) | (intros; simp_all; done)
  | n + 1, .any, y, d, q, hx => by rw [trV] at q <;> first | (cases q; exact Gam.move gT_mv0 _ _ rfl hx) | (intros; contradiction) | (intros; simp_all; done)
theorem trVs_ok {n0 m : Nat} (h : HRel W δ s g st) : ∀ (n : Nat) (xs : List SV) {ys : List SV} {ds : List D}, trVs n0 m s n xs = some ys → Gams W g xs ds → Gams W (gT n0 m g st) ys ds
  | 0, xs, ys, ds, q, hx => by simp [trVs] at q
  | n + 1, [], ys, ds, q, hx => by
    rw [trVs] at q <;> try (exact fun z => by cases z)
    cases q; exact hx
  | n + 1, x :: xs, ys, ds, q, hx => by
    rw [trVs] at q
    rw [Gams] at hx
    obtain ⟨d, ds', rfl, h1, h2⟩ := hx
    split at q
    · rename_i y ys' q1 q2
      cases q
      exact ⟨d, ds', rfl, trV_ok h n x q1 h1, trVs_ok h n xs q2 h2⟩
    · cases q
theorem trU_ok {n0 m : Nat} (h : HRel W δ s g st) : ∀ (n : Nat) (xs : List SV) {ys : List SV} {d : D}, trVs n0 m s n xs = some ys → GamU W g xs d → GamU W (gT n0 m g st) ys d
  | 0, xs, ys, d, q, hx => by simp [trVs] at q
  | n + 1, [], ys, d, q, hx => by rw [GamU] at hx; exact hx.elim
  | n + 1, x :: xs, ys, d, q, hx => by
    rw [trVs] at q
    rw [GamU] at hx
    split at q
    · rename_i y ys' q1 q2
      cases q
      rw [GamU]
      rcases hx with hx | hx
      · exact .inl (trV_ok h n x q1 hx)
      · exact .inr (trU_ok h n xs q2 hx)
    · cases q
end
theorem trVs_len {n0 m : Nat} : ∀ (n : Nat) (xs : List SV) {ys : List SV}, trVs n0 m s n xs = some ys → ys.length = xs.length
  | 0, xs, ys, q => by simp [trVs] at q
  | n + 1, [], ys, q => by
    rw [trVs] at q <;> try (exact fun z => by cases z)
    cases q; rfl
  | n + 1, x :: xs, ys, q => by
    rw [trVs] at q
    split at q
    · rename_i y ys' q1 q2
      cases q
      simp [trVs_len n xs q2]
    · cases q
theorem trO_ok {n0 m : Nat} (h : HRel W δ s g st) {o : AO} {c : Ob} (ho : AOR W g o c) : AOR W (gT n0 m g st) (trO n0 m s o) c := by
  cases o with
  | lst xs =>
    obtain ⟨ds, rfl, h1⟩ := ho
    unfold trO; simp only
    split
    · rename_i ys q; exact ⟨ds, rfl, trVs_ok h _ xs q h1⟩
    · trivial
  | lstOf lo hi x =>
    obtain ⟨ds, rfl, h1, h2⟩ := ho
    unfold trO; simp only
    split
    · rename_i ys q; exact ⟨ds, rfl, h1, fun e he => trV_ok h _ x q (h2 e he)⟩
    · trivial
  | dct kvs =>
    obtain ⟨ds, rfl, h1⟩ := ho
    unfold trO; simp only
    split
    · rename_i ys q
      have hl := trVs_len _ _ q
      rw [List.length_map] at hl
      refine ⟨ds, ?_, ?_⟩
      · rw [List.map_fst_zip]; simp [hl]
      · rw [List.map_snd_zip]
        · exact trVs_ok h _ _ q h1
        · simp [hl]
    · trivial
  | gone => trivial
theorem trS_ok (n0 m : Nat) (h : Rel2 W δ s g env st) : Rel2 W δ (trS n0 m s) (gT n0 m g st) env st := by
  refine ⟨⟨?_, ?_, ?_, ?_, ?_, h.h.fr, ?_, ?_, h.h.bag, h.h.bas⟩, ?_, ?_⟩
  · unfold gT trS; simp [h.h.len]
  · intro k o r h1 h2
    unfold trS at h1
    simp only [List.getElem?_map] at h1
    obtain ⟨o', h3, h4⟩ := Option.map_eq_some_iff.mp h1
    subst h4
    have hk : k < m := by
      have := (List.getElem?_eq_some_iff.mp h3).1
      rw [List.length_take] at this; omega
    rw [List.getElem?_take_of_lt hk] at h3
    unfold gT at h2
    simp only at h2
    rw [List.getElem?_take_of_lt hk] at h2
    obtain ⟨c, a, b⟩ := h.h.obs k o' r h3 h2
    exact ⟨c, a, trO_ok h.h b⟩
  · exact (List.take_sublist _ _).nodup h.h.nd
  · intro j r hr
    unfold gT at hr
    simp only at hr
    have hj : j < m := by
      have := (List.getElem?_eq_some_iff.mp hr).1
      rw [List.length_take] at this; omega
    rw [List.getElem?_take_of_lt hj] at hr
    obtain ⟨a, d'⟩ := h.h.own j r hr
    refine ⟨a, fun o => ⟨fun hg hp => ?_, (d' o).2⟩⟩
    rcases hp with hp | ⟨k, hk, hp, _⟩
    · refine (d' o).1 (fun z => hg ?_) hp
      unfold trS; simp only [List.getElem?_map]
      rw [List.getElem?_take_of_lt hj, z]; rfl
    · obtain ⟨h3, h4⟩ := List.getElem?_eq_some_iff.mp hr
      obtain ⟨h5, h6⟩ := List.getElem?_eq_some_iff.mp hp
      have := (List.getElem_inj h.h.nd).mp (h4.trans h6.symm)
      omega
  · intro r o hp
    rcases hp with hp | ⟨k, hk, hp, e1⟩
    · exact h.h.ph r o hp
    · obtain ⟨⟨a, b, c⟩, _⟩ := h.h.own k r hp
      exact ⟨e1, b, .inr c⟩
  · unfold gT trS; simp [h.h.sl]
  · intro i d x h1 h2
    unfold gT at h1
    unfold trS at h2
    simp only at h1 h2
    have hi : i < n0 := by
      have := (List.getElem?_eq_some_iff.mp h1).1
      rw [List.length_take] at this; omega
    rw [List.getElem?_take_of_lt hi] at h1 h2
    obtain ⟨a, b⟩ := h.h.sd i d x h1 h2
    exact ⟨Gam.move gT_mv0 _ _ b a, b⟩
  · unfold trS; simp [h.e.1]
  · intro i x h1
    unfold trS at h1
    simp only [List.getElem?_map] at h1
    obtain ⟨o, h1, h2⟩ := Option.map_eq_some_iff.mp h1
    split at h2
    · rename_i z
      obtain ⟨d, a, b⟩ := h.e.2 i z h1
      exact ⟨d, a, trV_ok h.h _ z h2 b⟩
    · cases h2
theorem gT_le {n0 m : Nat} (l : g0.le g) (hn : g0.sg.length ≤ n0) (hm : g0.ro.length ≤ m) : g0.le (gT n0 m g st) :=
  ⟨fun i d h => gT_mv.sg i d (by have := (List.getElem?_eq_some_iff.mp h).1; omega) (l.sg i d h), fun k r h => gT_mv.ro k r (by have := (List.getElem?_eq_some_iff.mp h).1; omega) (l.ro k r h), fun r o h => .inl (l.ph r o h)⟩

/-! ### less or equal, of states -/
def gL (n m : Nat) (g : Gh) : Gh := ⟨g.sg.take n, g.ro.take m, g.ph⟩
theorem gL_mv {n m : Nat} : Mv n m g (gL n m g) := ⟨fun i d hi h => by unfold gL; simp only; rw [List.getElem?_take_of_lt hi]; exact h, fun k r hk h => by unfold gL; simp only; rw [List.getElem?_take_of_lt hk]; exact h, fun r o h => h⟩
theorem gL_mv0 {n m : Nat} : Mv 0 0 g (gL n m g) := ⟨fun i d hi h => by omega, fun k r hk h => by omega, fun r o h => h⟩
theorem gL_le {n m : Nat} (l : g0.le g) (hn : g0.sg.length ≤ n) (hm : g0.ro.length ≤ m) : g0.le (gL n m g) :=
  ⟨fun i d h => gL_mv.sg i d (by have := (List.getElem?_eq_some_iff.mp h).1; omega) (l.sg i d h), fun k r h => gL_mv.ro k r (by have := (List.getElem?_eq_some_iff.mp h).1; omega) (l.ro k r h), l.ph⟩
theorem leEnv_ok (h : HRel W δ s g st) {n m : Nat} : ∀ {a b : List (Option SV)} {i : Nat} {y : SV}, leEnv s n m a b = true → b[i]? = some (some y) → ∃ x, a[i]? = some (some x) ∧ le s fuelL x y = true ∧ inR n m y = true
  | [], [], i, y, q, e => by simp at e
  | _ :: r, none :: l, 0, y, q, e => by simp at e
  | _ :: r, none :: l, i + 1, y, q, e => by
    rw [leEnv] at q
    exact leEnv_ok h (i := i) q (by simpa using e)
  | some x :: r, some y' :: l, 0, y, q, e => by
    rw [leEnv, Bool.and_eq_true, Bool.and_eq_true] at q
    cases e
    exact ⟨x, rfl, q.1.1, q.1.2⟩
  | some x :: r, some y' :: l, i + 1, y, q, e => by
    rw [leEnv, Bool.and_eq_true] at q
    exact leEnv_ok h (i := i) q.2 (by simpa using e)
  | none :: r, some y' :: l, i, y, q, e => by simp [leEnv] at q
  | [], some _ :: l, i, y, q, e => by simp [leEnv] at q
  | [], none :: l, i, y, q, e => by simp [leEnv] at q
  | _ :: r, [], i, y, q, e => by simp at e
theorem leEnv_len {n m : Nat} : ∀ {a b : List (Option SV)}, leEnv s n m a b = true → a.length = b.length
  | [], [], _ => rfl
  | _ :: r, none :: l, q => by rw [leEnv] at q; simp [leEnv_len q]
  | some x :: r, some y' :: l, q => by rw [leEnv, Bool.and_eq_true] at q; simp [leEnv_len q.2]
  | none :: r, some y' :: l, q => by simp [leEnv] at q
  | [], some _ :: l, q => by simp [leEnv] at q
  | [], none :: l, q => by simp [leEnv] at q
  | none :: r, [], q => by simp [leEnv] at q
  | some _ :: r, [], q => by simp [leEnv] at q
theorem leHeap_ok {n m : Nat} : ∀ {a b : List AO} {k : Nat} {o : AO}, leHeap s n m a b = true → b[k]? = some o → ∃ o', a[k]? = some o' ∧ leO s o' o = true ∧ inO n m o = true
  | _, [], k, o, q, e => by simp at e
  | x :: r, y :: l, 0, o, q, e => by
    rw [leHeap, Bool.and_eq_true, Bool.and_eq_true] at q
    cases e; exact ⟨x, rfl, q.1.1, q.1.2⟩
  | x :: r, y :: l, k + 1, o, q, e => by
    rw [leHeap, Bool.and_eq_true] at q
    exact leHeap_ok (k := k) q.2 (by simpa using e)
  | [], _ :: _, k, o, q, e => by simp [leHeap] at q
theorem leDoms_ok : ∀ {a b : List SV} {k : Nat} {o : SV}, leDoms s a b = true → b[k]? = some o → ∃ o', a[k]? = some o' ∧ le s fuelL o' o = true ∧ inR 0 0 o = true
  | _, [], k, o, q, e => by simp at e
  | x :: r, y :: l, 0, o, q, e => by
    rw [leDoms, Bool.and_eq_true, Bool.and_eq_true] at q
    cases e; exact ⟨x, rfl, q.1.1, q.1.2⟩
  | x :: r, y :: l, k + 1, o, q, e => by
    rw [leDoms, Bool.and_eq_true] at q
    exact leDoms_ok (k := k) q.2 (by simpa using e)
  | [], _ :: _, k, o, q, e => by simp [leDoms] at q
theorem leHeap_len {n m : Nat} : ∀ {a b : List AO}, leHeap s n m a b = true → b.length ≤ a.length
  | _, [], _ => Nat.zero_le _
  | x :: r, y :: l, q => by rw [leHeap, Bool.and_eq_true] at q; have := leHeap_len q.2; simp; omega
  | [], _ :: _, q => by simp [leHeap] at q
theorem leDoms_len : ∀ {a b : List SV}, leDoms s a b = true → b.length ≤ a.length
  | _, [], _ => Nat.zero_le _
  | x :: r, y :: l, q => by rw [leDoms, Bool.and_eq_true] at q; have := leDoms_len q.2; simp; omega
  | [], _ :: _, q => by simp [leDoms] at q
theorem leO_ok (h : HRel W δ s g st) {n m : Nat} {a b : AO} {c : Ob} (ha : AOR W g a c) (q : leO s a b = true) (q2 : inO n m b = true) : AOR W (gL n m g) b c := by
  unfold leO at q
  split at q
  · trivial
  · obtain ⟨ds, rfl, h1⟩ := ha
    exact ⟨ds, rfl, Gams.move gL_mv _ _ q2 (leP_ok h _ _ _ q h1)⟩
  · obtain ⟨ds, rfl, h1⟩ := ha
    simp only [Bool.and_eq_true, decide_eq_true_eq] at q
    rw [Gams.length h1] at q
    refine ⟨ds, rfl, q.1, fun e he => ?_⟩
    obtain ⟨x, hm, hx⟩ := Gams.mem h1 he
    exact Gam.move gL_mv _ _ q2 (leU_ok h _ _ _ q.2 hm hx)
  · obtain ⟨ds, rfl, h1, h2⟩ := ha
    simp only [Bool.and_eq_true, decide_eq_true_eq] at q
    exact ⟨ds, rfl, by omega, fun e he => Gam.move gL_mv _ _ q2 (le_ok h _ _ _ q.2 (h2 e he))⟩
  · obtain ⟨ds, rfl, h1⟩ := ha
    rw [Bool.and_eq_true, decide_eq_true_eq] at q
    exact ⟨ds, by rw [q.1], Gams.move gL_mv _ _ q2 (leP_ok h _ _ _ q.2 h1)⟩
  · cases q
theorem leS_ok {n0 m0 : Nat} {t : SS} (h : Rel2 W δ s g env st) (q : leS n0 m0 s t = true) : Rel2 W δ t (gL t.doms.length t.heap.length g) env st ∧ n0 ≤ t.doms.length ∧ m0 ≤ t.heap.length := by
  unfold leS at q
  simp only [Bool.and_eq_true, decide_eq_true_eq] at q
  obtain ⟨⟨q1, q2⟩, q3, q4, q5, q6⟩ := q
  have hl := leHeap_len q4
  have hd := leDoms_len q5
  refine ⟨⟨⟨?_, ?_, ?_, ?_, h.h.ph, h.h.fr, ?_, ?_, ?_, h.h.bas⟩, ?_, ?_⟩, q1, q2⟩
  · unfold gL; simp [h.h.len]; omega
  · intro k o r h1 h2
    obtain ⟨o', e1, e2, e3⟩ := leHeap_ok q4 h1
    have hk := (List.getElem?_eq_some_iff.mp h1).1
    unfold gL at h2
    simp only at h2
    rw [List.getElem?_take_of_lt hk] at h2
    obtain ⟨c, a, b⟩ := h.h.obs k o' r e1 h2
    exact ⟨c, a, leO_ok h.h b e2 e3⟩
  · exact (List.take_sublist _ _).nodup h.h.nd
  · intro j r hr
    unfold gL at hr
    simp only at hr
    have hj : j < t.heap.length := by
      have := (List.getElem?_eq_some_iff.mp hr).1
      rw [List.length_take] at this; omega
    rw [List.getElem?_take_of_lt hj] at hr
    obtain ⟨a, d'⟩ := h.h.own j r hr
    refine ⟨a, fun o => ⟨fun hg => (d' o).1 fun z => hg ?_, (d' o).2⟩⟩
    obtain ⟨o', e1, e2, e3⟩ := leHeap_ok q4 (List.getElem?_eq_getElem hj)
    rw [z] at e1; cases e1
    rw [List.getElem?_eq_getElem hj]
    unfold leO at e2
    split at e2
    · rename_i z2; rw [z2]
    · rename_i z1 _; cases z1
    · rename_i z1 _; cases z1
    · rename_i z1 _; cases z1
    · rename_i z1 _; cases z1
    · cases e2
  · unfold gL; simp [h.h.sl]; omega
  · intro i d x h1 h2
    obtain ⟨o', e1, e2, e3⟩ := leDoms_ok q5 h2
    have hi := (List.getElem?_eq_some_iff.mp h2).1
    unfold gL at h1
    simp only at h1
    rw [List.getElem?_take_of_lt hi] at h1
    exact ⟨Gam.move gL_mv0 _ _ e3 (le_ok h.h _ _ _ e2 (h.h.sd i d o' h1 e1).1), e3⟩
  · exact W.Bmono _ _ _ (by omega) h.h.bag
  · rw [← leEnv_len q3]; exact h.e.1
  · intro i y h1
    obtain ⟨x, e1, e2, e3⟩ := leEnv_ok h.h q3 h1
    obtain ⟨d, a, b⟩ := h.e.2 i x e1
    exact ⟨d, a, Gam.move gL_mv _ _ e3 (le_ok h.h _ _ _ e2 b)⟩

/-! ### joins -/
theorem LCG.move {n m : Nat} (v : Mv n m g g') {c : LC} {ds : List D} (q : inC n m c = true) (h : LCG W g c ds) : LCG W g' c ds := by
  cases c with
  | ex xs => exact Gams.move v xs ds q h
  | of lo hi x => exact ⟨h.1, fun e he => Gam.move v x e q (h.2 e he)⟩
theorem leC_ok (h : HRel W δ s g st) {a b : LC} {ds : List D} (ha : LCG W g a ds) (q : leC s a b = true) : LCG W g b ds := by
  unfold leC at q
  split at q
  · exact leP_ok h _ _ _ q ha
  · simp only [Bool.and_eq_true, decide_eq_true_eq] at q
    rw [Gams.length ha] at q
    refine ⟨q.1, fun e he => ?_⟩
    obtain ⟨x, hm, hx⟩ := Gams.mem ha he
    exact leU_ok h _ _ _ q.2 hm hx
  · simp only [Bool.and_eq_true, decide_eq_true_eq] at q
    have := ha.1
    exact ⟨by omega, fun e he => le_ok h _ _ _ q.2 (ha.2 e he)⟩
  · cases q
theorem trC_ok {n0 m : Nat} (h : HRel W δ s g st) {c c' : LC} {ds : List D} (hc : LCG W g c ds) (q : trC n0 m s c = some c') : LCG W (gT n0 m g st) c' ds := by
  unfold trC at q
  split at q
  · split at q
    · rename_i ys q1; cases q; exact trVs_ok h _ _ q1 hc
    · cases q
  · split at q
    · rename_i y q1; cases q; exact ⟨hc.1, fun e he => trV_ok h _ _ q1 (hc.2 e he)⟩
    · cases q
theorem trL_mem {n0 m : Nat} : ∀ {l l' : List (LC × SS)} {c : LC} {s : SS}, trL n0 m l = some l' → (c, s) ∈ l → ∃ c', trC n0 m s c = some c' ∧ (c', trS n0 m s) ∈ l'
  | (c1, s1) :: r, l', c, s, q, hm => by
    rw [trL] at q
    split at q
    · rename_i d l2 q1 q2
      cases q
      rcases List.mem_cons.mp hm with z | hm
      · cases z; exact ⟨d, q1, List.mem_cons_self⟩
      · obtain ⟨c', a, b⟩ := trL_mem q2 hm
        exact ⟨c', a, List.mem_cons_of_mem _ b⟩
    · cases q
/-- one of the ways is right, with what has come together -/
def PostC (W : Wo) (δ : Nat) (l : List (LC × SS)) (g : Gh) (env : Env) (ds : List D) (st : Sto) : Prop := ∃ p ∈ l, ∃ g', g.le g' ∧ Rel2 W δ p.2 g' env st ∧ LCG W g' p.1 ds
theorem joinL_ok {l : List (LC × SS)} {n0 m0 : Nat} {ds : List D} (hn : g.sg.length = n0) (hm : g.ro.length = m0) (h : PostC W δ l g env ds st) : PostC W δ (joinL n0 m0 l) g env ds st := by
  unfold joinL
  split
  · exact h
  · exact h
  · split
    · rename_i c0 s0 r q1
      simp only
      split
      · rename_i q2
        obtain ⟨⟨c, s⟩, hmem, g1, l1, h1, h2⟩ := h
        simp only at h1 h2
        obtain ⟨c', e1, e2⟩ := trL_mem q1 hmem
        rw [List.all_eq_true] at q2
        have q3 := q2 _ e2
        simp only [Bool.and_eq_true] at q3
        obtain ⟨q3, q4, q5⟩ := q3
        have k1 := trS_ok n0 m0 h1
        obtain ⟨k2, k3, k4⟩ := leS_ok k1 q3
        have lT : g.le (gT n0 m0 g1 st) := gT_le l1 (by omega) (by omega)
        exact ⟨_, List.mem_singleton.mpr rfl, _, gL_le lT (by omega) (by omega), k2, LCG.move gL_mv q5 (leC_ok k1.h (trC_ok h1.h h2 e1) q4)⟩
      · exact h
    · exact h
end
end PL

set_option Elab.async false
set_option linter.all false
set_option maxRecDepth 100000
set_option maxHeartbeats 4000000
/-! SXN: names, joins, what is walked, loops. -/
namespace PL
open PySem L2
section
variable {α β γ : Type}
theorem bindX_ok {m : SX α} {f : α → SS → SX β} {l : List (β × SS)} (h : bindX m f = .ok l) : ∃ l1, m = .ok l1 ∧ goX f l1 = .ok l := by
  unfold bindX at h
  split at h
  · cases h
  · rename_i l1; exact ⟨l1, rfl, h⟩
theorem goX_mem {f : α → SS → SX β} : ∀ {l1 : List (α × SS)} {l : List (β × SS)} {a : α} {s : SS}, goX f l1 = .ok l → (a, s) ∈ l1 → ∃ l2, f a s = .ok l2 ∧ ∀ q ∈ l2, q ∈ l
  | [], _, _, _, _, hm => by cases hm
  | (b, t) :: r, l, a, s, h, hm => by
    rw [goX] at h
    split at h
    · cases h
    · rename_i x e
      split at h
      · cases h
      · rename_i y e2
        cases h
        rcases List.mem_cons.mp hm with z | hm
        · cases z; exact ⟨x, e, fun q hq => List.mem_append.mpr (.inl hq)⟩
        · obtain ⟨l2, e3, k⟩ := goX_mem e2 hm
          exact ⟨l2, e3, fun q hq => List.mem_append.mpr (.inr (k q hq))⟩
theorem upX_ok {n : Nat} {m : Outs α} {l : List (α × SS)} (h : upX n m = .ok l) : m = some l := by
  unfold upX at h
  split at h
  · cases h
  · cases h; rfl
/-- one of the ways is right -/
def PostG (W : Wo) (δ : Nat) (R : Gh → α → β → Prop) (l : List (α × SS)) (g : Gh) (env : Env) (b : β) (st : Sto) : Prop := ∃ p ∈ l, ∃ g', g.le g' ∧ Rel2 W δ p.2 g' env st ∧ R g' p.1 b
variable {W : Wo} {g g' g0 g2 : Gh} {δ : Nat} {s s' : SS} {st st' : Sto} {env : Env} {x y z : SV} {d e f : D} {R : Gh → α → β → Prop}
theorem PostG.up {l l' : List (α × SS)} {b : β} (h : PostG W δ R l' g' env b st) (l1 : g.le g') (k : ∀ q ∈ l', q ∈ l) : PostG W δ R l g env b st := let ⟨p, a, g2, b, c⟩ := h; ⟨p, k p a, g2, l1.trans b, c⟩
theorem PostG.here {l : List (α × SS)} {a : α} {b : β} (h : Rel2 W δ s g env st) (hx : R g a b) (hm : (a, s) ∈ l) : PostG W δ R l g env b st := ⟨(a, s), hm, g, Gh.le.refl, h, hx⟩
theorem PostG.one {l : List (α × SS)} {a : α} {b : β} (h : Rel2 W δ s g env st) (hx : R g a b) (q : okX a s = .ok l) : PostG W δ R l g env b st := by
  unfold okX at q; cases q
  exact PostG.here h hx (List.mem_singleton.mpr rfl)
theorem Wd.bindG {r : Res β} {l1 : List (α × SS)} (h : Wd r (PostG W δ R l1 g env)) {P : β → Sto → Prop} (k : ∀ (a : α) (s : SS) (b : β) (st' : Sto) (g' : Gh), (a, s) ∈ l1 → g.le g' → Rel2 W δ s g' env st' → R g' a b → P b st') : Wd r P :=
  h.mono fun b st' ⟨p, hm, g', l, h, r⟩ => k p.1 p.2 b st' g' hm l h r
theorem Wd.upG {r : Res β} {l l' : List (α × SS)} (h : Wd r (PostG W δ R l' g' env)) (l1 : g.le g') (k : ∀ q ∈ l', q ∈ l) : Wd r (PostG W δ R l g env) := h.mono fun _ _ h => h.up l1 k
end
section
variable {W : Wo} {g g' g0 g2 : Gh} {δ : Nat} {s s' : SS} {st st' : Sto} {env : Env} {x y z : SV} {d e f : D}
theorem Rel2.sgl (h : Rel2 W δ s g env st) : g.sg.length = s.doms.length := h.h.sl
/-! ### names -/
theorem HRel.pushD (h : HRel W δ s g st) (hx : Gam W g x d) (hin : inR 0 0 x = true) : HRel W δ { s with doms := s.doms ++ [x] } { g with sg := g.sg ++ [d] } st ∧ g.le { g with sg := g.sg ++ [d] } := by
  have l : g.le { g with sg := g.sg ++ [d] } := ⟨fun i d' h => by simp only; rw [List.getElem?_append_left (List.getElem?_eq_some_iff.mp h).1]; exact h, fun _ _ h => h, fun _ _ h => h⟩
  refine ⟨⟨h.len, fun k o r h1 h2 => ?_, h.nd, h.own, h.ph, h.fr, ?_, ?_, h.bag, h.bas⟩, l⟩
  · obtain ⟨c, a, b⟩ := h.obs k o r h1 h2
    exact ⟨c, a, b.mono l⟩
  · simp [h.sl]
  · intro i e y h1 h2
    simp only at h1 h2
    rcases get_snoc h1 with h1 | ⟨e1, e2⟩ <;> rcases get_snoc h2 with h2 | ⟨e3, e4⟩
    · obtain ⟨a, b⟩ := h.sd i e y h1 h2
      exact ⟨Gam.mono l _ _ a, b⟩
    · have := (List.getElem?_eq_some_iff.mp h1).1; rw [h.sl] at this; omega
    · have := (List.getElem?_eq_some_iff.mp h2).1; rw [← h.sl] at this; omega
    · subst e2; subst e4; exact ⟨Gam.mono l _ _ hx, hin⟩
mutual
theorem nameV_ok : ∀ (x : SV) {s : SS} {g : Gh} {y : SV} {ds : List SV} {d : D}, HRel W δ s g st → Gam W g x d → nameV s.doms x = (y, ds) → ∃ g', g.le g' ∧ HRel W δ { s with doms := ds } g' st ∧ Gam W g' y d
  | .one ks, s, g, y, ds, d, h, hx, q => by
    rw [nameV] at q; cases q
    obtain ⟨a, b⟩ := h.pushD hx (by rfl)
    exact ⟨_, b, a, by rw [Gam]; simp only; rw [← h.sl]; simp⟩
  | .int lo hi, s, g, y, ds, d, h, hx, q => by
    rw [nameV] at q; cases q
    obtain ⟨a, b⟩ := h.pushD hx (by rfl)
    exact ⟨_, b, a, by rw [Gam]; simp only; rw [← h.sl]; simp⟩
  | .tup xs, s, g, y, ds, d, h, hx, q => by
    rw [nameV] at q
    rw [Gam] at hx
    obtain ⟨es, rfl, hx⟩ := hx
    cases e : nameVs s.doms xs with
    | mk ys ds' =>
      rw [e] at q
      cases q
      obtain ⟨g', a, b, c⟩ := nameVs_ok xs h hx e
      exact ⟨g', a, b, by rw [Gam]; exact ⟨es, rfl, c⟩⟩
  | .c _, s, g, y, ds, d, h, hx, q => by rw [nameV] at q; cases q; exact ⟨g, Gh.le.refl, h, hx⟩; all_goals (intros; contradiction)
  | .v _, s, g, y, ds, d, h, hx, q => by rw [nameV] at q; cases q; exact ⟨g, Gh.le.refl, h, hx⟩; all_goals (intros; contradiction)
  | .tupOf _ _ _, s, g, y, ds, d, h, hx, q => by rw [nameV] at q; cases q; exact ⟨g, Gh.le.refl, h, hx⟩; all_goals (intros; contradiction)
  | .lst _, s, g, y, ds, d, h, hx, q => by rw [nameV] at q; cases q; exact ⟨g, Gh.le.refl, h, hx⟩; all_goals (intros; contradiction)
  | .lstOf _ _ _, s, g, y, ds, d, h, hx, q => by rw [nameV] at q; cases q; exact ⟨g, Gh.le.refl, h, hx⟩; all_goals (intros; contradiction)
  | .own _, s, g, y, ds, d, h, hx, q => by rw [nameV] at q; cases q; exact ⟨g, Gh.le.refl, h, hx⟩; all_goals (intros; contradiction)
  | .un _, s, g, y, ds, d, h, hx, q => by rw [nameV] at q; cases q; exact ⟨g, Gh.le.refl, h, hx⟩; all_goals (intros; contradiction)
  | .rep _, s, g, y, ds, d, h, hx, q => by rw [nameV] at q; cases q; exact ⟨g, Gh.le.refl, h, hx⟩; all_goals (intros; contradiction)
  | .bag, s, g, y, ds, d, h, hx, q => by rw [nameV] at q; cases q; exact ⟨g, Gh.le.refl, h, hx⟩; all_goals (intros; contradiction)
  | .pr p, s, g, y, ds, d, h, hx, q => by
    rw [nameV] at q; cases q
    obtain ⟨a, b⟩ := h.pushD hx (by rfl)
    exact ⟨_, b, a, by rw [Gam]; simp only; rw [← h.sl]; simp⟩
  | .any, s, g, y, ds, d, h, hx, q => by rw [nameV] at q; cases q; exact ⟨g, Gh.le.refl, h, hx⟩; all_goals (intros; contradiction)
theorem nameVs_ok : ∀ (xs : List SV) {s : SS} {g : Gh} {ys : List SV} {ds : List SV} {es : List D}, HRel W δ s g st → Gams W g xs es → nameVs s.doms xs = (ys, ds) → ∃ g', g.le g' ∧ HRel W δ { s with doms := ds } g' st ∧ Gams W g' ys es
  | [], s, g, ys, ds, es, h, hx, q => by rw [nameVs] at q; cases q; exact ⟨g, Gh.le.refl, h, hx⟩
  | x :: xs, s, g, ys, ds, es, h, hx, q => by
    rw [nameVs] at q
    rw [Gams] at hx
    obtain ⟨d, es', rfl, h1, h2⟩ := hx
    cases e : nameV s.doms x with
    | mk y ds1 =>
      rw [e] at q
      simp only at q
      cases e2 : nameVs ds1 xs with
      | mk ys2 ds2 =>
        rw [e2] at q
        cases q
        obtain ⟨g1, a, b, c⟩ := nameV_ok x h h1 e
        obtain ⟨g2, a', b', c'⟩ := nameVs_ok xs (s := { s with doms := ds1 }) b (Gams.mono a _ _ h2) e2
        exact ⟨g2, a.trans a', b', ⟨d, es', rfl, Gam.mono a' _ _ c, c'⟩⟩
end
theorem EnvR.set {se : List (Option SV)} (h : EnvR W g se env) {i : Nat} (hx : Gam W g x d) : EnvR W g (se.set i (some x)) (env.set i (some d)) := by
  refine ⟨by rw [List.length_set, List.length_set]; exact h.1, fun j y e => ?_⟩
  by_cases hj : i = j
  · subst hj
    by_cases hi : i < se.length
    · rw [List.getElem?_set_self hi] at e
      cases e
      exact ⟨d, by rw [List.getElem?_set_self (by rw [← h.1]; exact hi)], hx⟩
    · rw [List.getElem?_eq_none (by simpa using hi)] at e; cases e
  · rw [List.getElem?_set_ne hj] at e
    obtain ⟨d', a, b⟩ := h.2 j y e
    exact ⟨d', by rw [List.getElem?_set_ne hj]; exact a, b⟩
/-- a name's value is told better -/
theorem EnvR.set' {se : List (Option SV)} (h : EnvR W g se env) {i : Nat} (he : env[i]? = some (some d)) (hx : Gam W g x d) : EnvR W g (se.set i (some x)) env := by
  have : env = env.set i (some d) := by
    apply List.ext_getElem?
    intro j
    by_cases hj : i = j
    · subst hj
      rw [List.getElem?_set_self (List.getElem?_eq_some_iff.mp he).1]; exact he
    · rw [List.getElem?_set_ne hj]
  rw [this]; exact h.set hx
theorem Rel2.setE (h : Rel2 W δ s g env st) {i : Nat} (hx : Gam W g x d) : Rel2 W δ (s.setE i x) g (env.set i (some d)) st := ⟨⟨h.h.len, h.h.obs, h.h.nd, h.h.own, h.h.ph, h.h.fr, h.h.sl, h.h.sd, h.h.bag, h.h.bas⟩, h.e.set hx⟩
theorem Rel2.setE' (h : Rel2 W δ s g env st) {i : Nat} (he : env[i]? = some (some d)) (hx : Gam W g x d) : Rel2 W δ (s.setE i x) g env st := ⟨⟨h.h.len, h.h.obs, h.h.nd, h.h.own, h.h.ph, h.h.fr, h.h.sl, h.h.sd, h.h.bag, h.h.bas⟩, h.e.set' he hx⟩
theorem Rel2.withEnv (h : HRel W δ s g st) {se : List (Option SV)} (he : EnvR W g se env) : Rel2 W δ { s with env := se } g env st := ⟨⟨h.len, h.obs, h.nd, h.own, h.ph, h.fr, h.sl, h.sd, h.bag, h.bas⟩, he⟩
theorem nameE_ok (h : Rel2 W δ s g env st) {nm : Bool} {i : Nat} (he : env[i]? = some (some d)) (hx : Gam W g x d) : ∃ g', g.le g' ∧ Rel2 W δ (nameE nm i x s).2 g' env st ∧ Gam W g' (nameE nm i x s).1 d := by
  unfold nameE
  split
  · cases e : nameV s.doms x with
    | mk y ds =>
      obtain ⟨g', a, b, c⟩ := nameV_ok x h.h hx e
      exact ⟨g', a, Rel2.withEnv b ((h.e.mono a).set' he c), c⟩
  · exact ⟨g, Gh.le.refl, h, hx⟩
theorem varS_ok (h : Rel2 W δ s g env st) {md : Md} {i : Nat} {l : List (SV × SS)} (q : varS md i s = .ok l) : ∃ d, env[i]? = some (some d) ∧ PostG W δ (Gam W) l g env d st := by
  unfold varS at q
  split at q
  · rename_i x q1
    obtain ⟨d, he, hx⟩ := h.e.2 i x q1
    refine ⟨d, he, ?_⟩
    split at q
    · rename_i ys q2
      cases q
      have hs := h.h.shG hx
      unfold altsV at q2
      split at q2
      · rename_i z; cases q2
        rw [z, Gam] at hs
        obtain ⟨y, hm, hy⟩ := hs.mem
        obtain ⟨g', a, b, c⟩ := nameE_ok (h.setE' he hy) (nm := md.nm) he hy
        exact ⟨_, List.mem_map.mpr ⟨y, hm, rfl⟩, g', a, b, c⟩
      · cases q2
    · cases q
      exact PostG.here h hx (List.mem_singleton.mpr rfl)
  · cases q

/-! ### joins -/
theorem joinV_ok {b : Bool} {s0 : SS} {l l' : List (SV × SS)} (hn : g.sg.length = s0.doms.length) (hm : g.ro.length = s0.heap.length) (h : PostG W δ (Gam W) l g env d st) (q : joinV b s0 (.ok l) = .ok l') : PostG W δ (Gam W) l' g env d st := by
  unfold joinV at q
  split at q
  · rename_i l1 z
    cases z
    split at q
    · cases q; exact h
    · cases q; exact h
    · split at q
      · rename_i x s1 q1
        cases q
        obtain ⟨p, hp, g1, l1, h1, h2⟩ := h
        have : PostC W δ (l.map fun p => (.ex [p.1], p.2)) g env [d] st := ⟨_, List.mem_map.mpr ⟨p, hp, rfl⟩, g1, l1, h1, Gams.one h2⟩
        have k := joinL_ok (n0 := s0.doms.length) (m0 := s0.heap.length) hn hm this
        rw [q1] at k
        obtain ⟨p2, hp2, g2, l2, h3, h4⟩ := k
        rw [List.mem_singleton.mp hp2] at h3 h4
        obtain ⟨d', e1, e2⟩ := gams1 h4
        cases e1
        exact ⟨_, List.mem_singleton.mpr rfl, g2, l2, h3, e2⟩
      · cases q; exact h
  · cases q; exact h
theorem joinV_some {b : Bool} {s0 : SS} {m : SX SV} {l' : List (SV × SS)} (q : joinV b s0 m = .ok l') : ∃ l, m = .ok l := by
  cases m with
  | ok l => exact ⟨l, rfl⟩
  | err n => unfold joinV at q; split at q <;> first | (rename_i z; cases z) | cases q
/-- what a statement comes to -/
def OutR (W : Wo) (δ : Nat) (g : Gh) (so : SO) (s : SS) (o : Out) (st : Sto) : Prop := match so, o with
  | .next, .next env => Rel2 W δ s g env st
  | .brk, .brk env => Rel2 W δ s g env st
  | .cnt, .cnt env => Rel2 W δ s g env st
  | .ret x, .ret d => HRel W δ s g st ∧ Gam W g x d
  | _, _ => False
def PostS (W : Wo) (δ : Nat) (l : List (SO × SS)) (g : Gh) (o : Out) (st : Sto) : Prop := ∃ p ∈ l, ∃ g', g.le g' ∧ OutR W δ g' p.1 p.2 o st
theorem PostS.up {l l' : List (SO × SS)} {o : Out} (h : PostS W δ l' g' o st) (l1 : g.le g') (k : ∀ q ∈ l', q ∈ l) : PostS W δ l g o st := let ⟨p, a, g2, b, c⟩ := h; ⟨p, k p a, g2, l1.trans b, c⟩
theorem PostS.next {l : List (SO × SS)} (h : Rel2 W δ s g env st) (hm : (SO.next, s) ∈ l) : PostS W δ l g (.next env) st := ⟨_, hm, g, Gh.le.refl, h⟩
theorem Wd.upS {r : Res Out} {l l' : List (SO × SS)} (h : Wd r (PostS W δ l' g')) (l1 : g.le g') (k : ∀ q ∈ l', q ∈ l) : Wd r (PostS W δ l g) := h.mono fun _ _ h => h.up l1 k
theorem nexts_mem : ∀ {l : List (SO × SS)}, (SO.next, s) ∈ l → (LC.ex [], s) ∈ nexts l
  | (.next, t) :: r, h => by
    rw [nexts]
    rcases List.mem_cons.mp h with z | h
    · cases z; exact List.mem_cons_self
    · exact List.mem_cons_of_mem _ (nexts_mem h)
  | (.brk, t) :: r, h => by
    rw [nexts]
    rcases List.mem_cons.mp h with z | h
    · cases z
    · exact nexts_mem h
    all_goals (intro _ z; cases z)
  | (.cnt, t) :: r, h => by
    rw [nexts]
    rcases List.mem_cons.mp h with z | h
    · cases z
    · exact nexts_mem h
    all_goals (intro _ z; cases z)
  | (.ret x, t) :: r, h => by
    rw [nexts]
    rcases List.mem_cons.mp h with z | h
    · cases z
    · exact nexts_mem h
    all_goals (intro _ z; cases z)
theorem others_mem : ∀ {l : List (SO × SS)} {o : SO}, o ≠ .next → (o, s) ∈ l → (o, s) ∈ others l
  | (.next, t) :: r, o, hn, h => by
    rw [others]
    rcases List.mem_cons.mp h with z | h
    · cases z; exact absurd rfl hn
    · exact others_mem hn h
  | (.brk, t) :: r, o, hn, h => by
    rw [others]
    rcases List.mem_cons.mp h with z | h
    · cases z; exact List.mem_cons_self
    · exact List.mem_cons_of_mem _ (others_mem hn h)
    all_goals (intro _ z; cases z)
  | (.cnt, t) :: r, o, hn, h => by
    rw [others]
    rcases List.mem_cons.mp h with z | h
    · cases z; exact List.mem_cons_self
    · exact List.mem_cons_of_mem _ (others_mem hn h)
    all_goals (intro _ z; cases z)
  | (.ret x, t) :: r, o, hn, h => by
    rw [others]
    rcases List.mem_cons.mp h with z | h
    · cases z; exact List.mem_cons_self
    · exact List.mem_cons_of_mem _ (others_mem hn h)
    all_goals (intro _ z; cases z)
theorem joinO_ok {b : Bool} {s0 : SS} {l l' : List (SO × SS)} {o : Out} (hn : g.sg.length = s0.doms.length) (hm : g.ro.length = s0.heap.length) (h : PostS W δ l g o st) (q : joinO b s0 (.ok l) = .ok l') : PostS W δ l' g o st := by
  unfold joinO at q
  split at q
  · rename_i l1 z
    cases z
    cases q
    obtain ⟨⟨so, s⟩, hp, g1, l1, h1⟩ := h
    cases so with
    | next =>
      cases o with
      | next env =>
        have : PostC W δ (nexts l) g env [] st := ⟨_, nexts_mem hp, g1, l1, h1, rfl⟩
        obtain ⟨p2, hp2, g2, l2, h3, h4⟩ := joinL_ok (n0 := s0.doms.length) (m0 := s0.heap.length) hn hm this
        exact ⟨(.next, p2.2), List.mem_append.mpr (.inl (List.mem_map.mpr ⟨p2, hp2, rfl⟩)), g2, l2, h3⟩
      | _ => exact h1.elim
    | brk => exact ⟨_, List.mem_append.mpr (.inr (others_mem (by simp) hp)), g1, l1, h1⟩
    | cnt => exact ⟨_, List.mem_append.mpr (.inr (others_mem (by simp) hp)), g1, l1, h1⟩
    | ret x => exact ⟨_, List.mem_append.mpr (.inr (others_mem (by simp) hp)), g1, l1, h1⟩
  · cases q; exact h
theorem joinO_some {b : Bool} {s0 : SS} {m : SX SO} {l' : List (SO × SS)} (q : joinO b s0 m = .ok l') : ∃ l, m = .ok l := by
  cases m with
  | ok l => exact ⟨l, rfl⟩
  | err n => unfold joinO at q; split at q <;> first | (rename_i z; cases z) | cases q
def toN : Out → Out
  | .cnt env => .next env
  | o => o
theorem toNext_ok {l : List (SO × SS)} {o : Out} (h : PostS W δ l g o st) : PostS W δ (toNext l) g (toN o) st := by
  obtain ⟨⟨so, s⟩, hp, g1, l1, h1⟩ := h
  refine ⟨_, List.mem_map.mpr ⟨_, hp, rfl⟩, g1, l1, ?_⟩
  cases so <;> cases o <;> first | exact h1.elim | exact h1

/-! ### what is walked -/
def SrG (W : Wo) (g : Gh) : Sr → Src → Nat → Prop
  | .ex xs, .fix ds, L => Gams W g xs ds ∧ L = ds.length
  | .ex xs, .live r, L => ∃ ds, g.ph r (.lst ds) ∧ Gams W g xs ds ∧ L = ds.length
  | .of lo hi x, .fix ds, L => ((lo ≤ ds.length ∧ ds.length ≤ hi) ∧ ∀ e ∈ ds, Gam W g x e) ∧ L = ds.length
  | .of lo hi x, .live r, L => ∃ ds, g.ph r (.lst ds) ∧ ((lo ≤ ds.length ∧ ds.length ≤ hi) ∧ ∀ e ∈ ds, Gam W g x e) ∧ L = ds.length
  | .own k n, .live r, L => g.ro[k]? = some r ∧ L = n
  | .enum t, .enum u, L => SrG W g t u L
  | .zip t v, .zip u w, L => ∃ a b, SrG W g t u a ∧ SrG W g v w b ∧ L = min a b
  | _, _, _ => False
theorem SrG.mono (l : g.le g') : ∀ (sr : Sr) {src : Src} {L : Nat}, SrG W g sr src L → SrG W g' sr src L
  | .ex xs, .fix ds, L, h => ⟨Gams.mono l _ _ h.1, h.2⟩
  | .ex xs, .live r, L, h => let ⟨ds, a, b, c⟩ := h; ⟨ds, l.ph _ _ a, Gams.mono l _ _ b, c⟩
  | .of lo hi x, .fix ds, L, h => ⟨⟨h.1.1, fun e he => Gam.mono l _ _ (h.1.2 e he)⟩, h.2⟩
  | .of lo hi x, .live r, L, h => let ⟨ds, a, b, c⟩ := h; ⟨ds, l.ph _ _ a, ⟨b.1, fun e he => Gam.mono l _ _ (b.2 e he)⟩, c⟩
  | .own k n, .live r, L, h => ⟨l.ro _ _ h.1, h.2⟩
  | .enum t, .enum u, L, h => SrG.mono l t (src := u) h
  | .zip t v, .zip u w, L, h => let ⟨a, b, h1, h2, h3⟩ := h; ⟨a, b, SrG.mono l t h1, SrG.mono l v h2, h3⟩
  | .ex _, .enum _, _, h => h.elim
  | .ex _, .zip _ _, _, h => h.elim
  | .of _ _ _, .enum _, _, h => h.elim
  | .of _ _ _, .zip _ _, _, h => h.elim
  | .own _ _, .fix _, _, h => h.elim
  | .own _ _, .enum _, _, h => h.elim
  | .own _ _, .zip _ _, _, h => h.elim
  | .enum _, .fix _, _, h => h.elim
  | .enum _, .live _, _, h => h.elim
  | .enum _, .zip _ _, _, h => h.elim
  | .zip _ _, .fix _, _, h => h.elim
  | .zip _ _, .live _, _, h => h.elim
  | .zip _ _, .enum _, _, h => h.elim
/-- the item of a turn -/
def ItR (W : Wo) (g : Gh) (l : List (Option SV)) (L i : Nat) (o : Option D) : Prop := match o with
  | none => none ∈ l ∧ L ≤ i
  | some d => i < L ∧ ∃ x, some x ∈ l ∧ Gam W g x d
theorem sat_of {lo hi i : Nat} {ds : List D} (hl : lo ≤ ds.length ∧ ds.length ≤ hi) (hx : ∀ e ∈ ds, Gam W g x e) {l : List (Option SV)} (q : (if i < lo then some [some x] else if i < hi then some [none, some x] else some [none]) = some l) (hi2 : i ≤ ds.length) : ItR W g l ds.length i ds[i]? := by
  by_cases h : i < ds.length
  · rw [List.getElem?_eq_getElem h]
    refine ⟨h, x, ?_, hx _ (List.getElem_mem h)⟩
    split at q
    · cases q; simp
    · split at q
      · cases q; simp
      · omega
  · rw [List.getElem?_eq_none (by omega)]
    refine ⟨?_, by omega⟩
    split at q
    · omega
    · split at q
      · cases q; simp
      · cases q; simp
theorem sat_ex {xs : List SV} {ds : List D} (h : Gams W g xs ds) (i : Nat) : ItR W g [xs[i]?] ds.length i ds[i]? := by
  by_cases hi : i < ds.length
  · rw [List.getElem?_eq_getElem hi]
    obtain ⟨x, a, b⟩ := Gams.getD h (List.getElem?_eq_getElem hi)
    exact ⟨hi, x, by rw [a]; simp, b⟩
  · rw [List.getElem?_eq_none (l := ds) (by omega), List.getElem?_eq_none (l := xs) (by rw [Gams.length h]; omega)]
    exact ⟨by simp, by omega⟩
theorem sat_ok (h : HRel W δ s g st) : ∀ (sr : Sr) {src : Src} {L i : Nat} {l : List (Option SV)}, SrG W g sr src L → i ≤ L → sat sr s i = some l → ∃ o, src.at st i = some o ∧ ItR W g l L i o
  | .ex xs, .fix ds, L, i, l, hs, hi, q => by
    obtain ⟨h1, rfl⟩ := hs
    rw [sat] at q
    split at q
    · cases q
      exact ⟨_, by rw [Src.at, if_pos hi], sat_ex h1 i⟩
    · cases q
  | .ex xs, .live r, L, i, l, hs, hi, q => by
    obtain ⟨ds, hp, h1, rfl⟩ := hs
    rw [sat] at q
    split at q
    · cases q
      exact ⟨_, by rw [Src.at, (h.ph _ _ hp).1]; simp only; rw [if_pos hi], sat_ex h1 i⟩
    · cases q
  | .of lo hi' x, .fix ds, L, i, l, hs, hi, q => by
    obtain ⟨⟨h1, h2⟩, rfl⟩ := hs
    rw [sat] at q
    exact ⟨_, by rw [Src.at, if_pos hi], sat_of h1 h2 q hi⟩
  | .of lo hi' x, .live r, L, i, l, hs, hi, q => by
    obtain ⟨ds, hp, ⟨h1, h2⟩, rfl⟩ := hs
    rw [sat] at q
    exact ⟨_, by rw [Src.at, (h.ph _ _ hp).1]; simp only; rw [if_pos hi], sat_of h1 h2 q hi⟩
  | .own k n, .live r, L, i, l, hs, hi, q => by
    obtain ⟨hr, rfl⟩ := hs
    rw [sat] at q
    split at q
    · rename_i xs q1
      obtain ⟨c, h1, ds, rfl, h2⟩ := h.obs k _ r q1 hr
      split at q
      · rename_i hc
        cases q
        have hl := Gams.length h2
        have : ds.length = L := by omega
        subst this
        exact ⟨_, by rw [Src.at, h1]; simp only; rw [if_pos hi], sat_ex h2 i⟩
      · cases q
    · cases q
  | .enum t, .enum u, L, i, l, hs, hi, q => by
    rw [sat] at q
    split at q
    · rename_i l1 q1
      cases q
      obtain ⟨o, a, b⟩ := sat_ok h t (src := u) hs hi q1
      cases o with
      | none => exact ⟨none, by rw [Src.at, a], List.mem_map.mpr ⟨none, b.1, rfl⟩, b.2⟩
      | some d =>
        obtain ⟨b1, x, b2, b3⟩ := b
        exact ⟨some (.tup [.int (i : Int), d]), by rw [Src.at, a], b1, _, List.mem_map.mpr ⟨some x, b2, rfl⟩, by rw [Gam]; exact ⟨_, rfl, Gams.two (by rw [Gam]) b3⟩⟩
    · cases q
  | .zip t v, .zip u w, L, i, l, hs, hi, q => by
    obtain ⟨a, b, h1, h2, rfl⟩ := hs
    rw [sat] at q
    split at q
    · rename_i l1 l2 q1 q2
      cases q
      obtain ⟨o1, a1, b1⟩ := sat_ok h t h1 (by omega) q1
      obtain ⟨o2, a2, b2⟩ := sat_ok h v h2 (by omega) q2
      cases o1 with
      | none =>
        refine ⟨none, by rw [Src.at, a1, a2] <;> (cases o2 <;> rfl), ?_, by have := b1.2; omega⟩
        cases o2 with
        | none => exact List.mem_flatMap.mpr ⟨none, b1.1, List.mem_map.mpr ⟨none, b2.1, rfl⟩⟩
        | some d => obtain ⟨_, x, e1, _⟩ := b2; exact List.mem_flatMap.mpr ⟨none, b1.1, List.mem_map.mpr ⟨some x, e1, rfl⟩⟩
      | some d =>
        obtain ⟨c1, x, c2, c3⟩ := b1
        cases o2 with
        | none => exact ⟨none, by rw [Src.at, a1, a2], List.mem_flatMap.mpr ⟨some x, c2, List.mem_map.mpr ⟨none, b2.1, rfl⟩⟩, by have := b2.2; omega⟩
        | some e =>
          obtain ⟨e1, y, e2, e3⟩ := b2
          exact ⟨some (.tup [d, e]), by rw [Src.at, a1, a2], by omega, _, List.mem_flatMap.mpr ⟨some x, c2, List.mem_map.mpr ⟨some y, e2, rfl⟩⟩, by rw [Gam]; exact ⟨_, rfl, Gams.two c3 e3⟩⟩
    · cases q
  | .ex _, .enum _, _, _, _, h, _, _ => h.elim
  | .ex _, .zip _ _, _, _, _, h, _, _ => h.elim
  | .of _ _ _, .enum _, _, _, _, h, _, _ => h.elim
  | .of _ _ _, .zip _ _, _, _, _, h, _, _ => h.elim
  | .own _ _, .fix _, _, _, _, h, _, _ => h.elim
  | .own _ _, .enum _, _, _, _, h, _, _ => h.elim
  | .own _ _, .zip _ _, _, _, _, h, _, _ => h.elim
  | .enum _, .fix _, _, _, _, h, _, _ => h.elim
  | .enum _, .live _, _, _, _, h, _, _ => h.elim
  | .enum _, .zip _ _, _, _, _, h, _, _ => h.elim
  | .zip _ _, .fix _, _, _, _, h, _, _ => h.elim
  | .zip _ _, .live _, _, _, _, h, _, _ => h.elim
  | .zip _ _, .enum _, _, _, _, h, _, _ => h.elim
end
end PL

set_option Elab.async false
set_option linter.all false
set_option maxRecDepth 100000
set_option maxHeartbeats 4000000
/-! SXO: loops. -/
namespace PL
open PySem L2
section
variable {W : Wo} {g g' g0 g2 : Gh} {δ : Nat} {s s' : SS} {st st' : Sto} {env : Env} {x y z : SV} {d e f : D}
/-- what is walked, found -/
def PostR (W : Wo) (δ : Nat) (l : List (Sr × SS)) (g : Gh) (env : Env) (src : Src) (st : Sto) : Prop := ∃ p ∈ l, ∃ g', g.le g' ∧ Rel2 W δ p.2 g' env st ∧ ∃ L, SrG W g' p.1 src L ∧ src.len st = L
theorem PostR.ret1 {l : List (Sr × SS)} {sr : Sr} {src : Src} {L : Nat} (h : Rel2 W δ s g env st) (hs : SrG W g sr src L) (hl : src.len st = L) (q : PL.ret1 sr s = some l) : PostR W δ l g env src st := by
  unfold PL.ret1 at q; cases q
  exact ⟨_, List.mem_singleton.mpr rfl, g, Gh.le.refl, h, L, hs, hl⟩
theorem PostR.up {l l' : List (Sr × SS)} {src : Src} (h : PostR W δ l' g' env src st) (l1 : g.le g') (k : ∀ q ∈ l', q ∈ l) : PostR W δ l g env src st := let ⟨p, a, g2, b, c⟩ := h; ⟨p, k p a, g2, l1.trans b, c⟩
theorem seqS_ok (h : Rel2 W δ s g env st) (hx : Gam W g x d) {l : List (Sr × SS)} (q : seqS s x = some l) : ∃ src, seqD d st = some src ∧ PostR W δ l g env src st := by
  unfold seqS at q
  split at q
  · rename_i xs q1
    obtain ⟨ds, rfl, hc⟩ := tcOf_ok h.h hx q1
    exact ⟨.fix ds, rfl, PostR.ret1 (sr := .ex xs) (src := .fix ds) h ⟨hc, rfl⟩ rfl q⟩
  · rename_i lo hi z q1
    obtain ⟨ds, rfl, hc⟩ := tcOf_ok h.h hx q1
    exact ⟨.fix ds, rfl, PostR.ret1 (sr := .of lo hi z) (src := .fix ds) h ⟨hc, rfl⟩ rfl q⟩
  · have hs := h.h.shG hx
    split at q
    · rename_i xs z
      rw [z, Gam] at hs
      obtain ⟨r, ds, rfl, hp, hc⟩ := hs
      have hp1 := (h.h.ph _ _ hp).1
      exact ⟨.live r, by unfold seqD; simp only [hp1], PostR.ret1 (sr := .ex xs) (src := .live r) h ⟨ds, hp, hc, rfl⟩ (by rw [Src.len, hp1]) q⟩
    · rename_i lo hi z0 z
      rw [z, Gam] at hs
      obtain ⟨r, ds, rfl, hp, hc⟩ := hs
      have hp1 := (h.h.ph _ _ hp).1
      exact ⟨.live r, by unfold seqD; simp only [hp1], PostR.ret1 (sr := .of lo hi z0) (src := .live r) h ⟨ds, hp, hc, rfl⟩ (by rw [Src.len, hp1]) q⟩
    · rename_i k z
      rw [z, Gam] at hs
      obtain ⟨r, rfl, hr⟩ := hs
      split at q
      · rename_i xs q1
        obtain ⟨c, h1, ds, rfl, h2⟩ := h.h.obs k _ r q1 hr
        exact ⟨.live r, by unfold seqD; simp only [h1], PostR.ret1 (sr := .own k xs.length) (src := .live r) h ⟨hr, rfl⟩ (by rw [Src.len, h1]; simp only; rw [Gams.length h2]) q⟩
      · rename_i lo hi z0 q1
        obtain ⟨c, h1, ds, rfl, h2⟩ := h.h.obs k _ r q1 hr
        have hf := h.h.freeze hr h1
        have l1 : g.le { g with ph := fun q o => g.ph q o ∨ (q = r ∧ o = .lst ds) } := ⟨fun _ _ h => h, fun _ _ h => h, fun _ _ h => .inl h⟩
        refine ⟨.live r, by unfold seqD; simp only [h1], ?_⟩
        unfold PL.ret1 at q; cases q
        exact ⟨_, List.mem_singleton.mpr rfl, _, l1, ⟨hf, h.e.mono l1⟩, ds.length, ⟨ds, .inr ⟨rfl, rfl⟩, ⟨h2.1, fun e he => Gam.mono l1 _ _ (h2.2 e he)⟩, rfl⟩, by rw [Src.len, h1]⟩
      · cases q
    · cases q
theorem casesI_ok (h : Rel2 W δ s g env st) (hx : Gam W g x d) {l : List (D × SS)} (e : casesI s x = some l) : ∃ s', (d, s') ∈ l ∧ Rel2 W δ s' g env st := by
  unfold casesI at e
  rcases orElse_some e with e | e
  · exact cases1_ok h hx e
  · split at e
    · rename_i a b q
      obtain ⟨n, rfl, u, v⟩ := rng_ok h.h hx q
      have u := u a rfl
      have v := v b rfl
      split at e
      · cases e
        refine ⟨s, List.mem_map.mpr ⟨(n - a).toNat, List.mem_range.mpr (by omega), ?_⟩, h⟩
        have : a + ((n - a).toNat : Int) = n := by omega
        rw [this]
      · cases e
    · cases e
theorem gams_range {lo c : Int} {n : Nat} : Gams W g ((rangeD lo c n).map .c) (rangeD lo c n) := by
  generalize rangeD lo c n = ds
  induction ds with
  | nil => rfl
  | cons d ds ih => exact ⟨d, ds, rfl, by rw [Gam], ih⟩
theorem gams_consts {ds : List D} : Gams W g (ds.map .c) ds := by
  induction ds with
  | nil => rfl
  | cons d ds ih => exact ⟨d, ds, rfl, by rw [Gam], ih⟩
theorem rangeG {a c : Int} {n : Nat} : SrG W g (rangeS a c n) (.fix (rangeD a c n)) (rangeD a c n).length := ⟨gams_range, rfl⟩
theorem srcS_ok (h : Rel2 W δ s g env st) {xs : List SV} {ds : List D} (hxs : Gams W g xs ds) {k : ItK} {l : List (Sr × SS)} (q : srcS k s xs = some l) : ∃ src, srcD k ds st = some src ∧ PostR W δ l g env src st := by
  unfold srcS at q
  split at q
  · rename_i x
    obtain ⟨d, rfl, hx⟩ := gams1 hxs
    rcases orElse_some q with q | q
    · obtain ⟨src, a, b⟩ := seqS_ok h hx q
      refine ⟨src, ?_, b⟩
      cases d <;> first | exact a | (simp [seqD] at a)
    · split at q
      · rename_i y q1
        cases constOf_ok h.h x hx q1
        exact ⟨.fix (signsD y), rfl, PostR.ret1 (sr := .ex ((signsD y).map .c)) (src := .fix (signsD y)) h ⟨gams_consts, rfl⟩ rfl q⟩
      · cases q
  · rename_i x
    obtain ⟨d, rfl, hx⟩ := gams1 hxs
    obtain ⟨l1, q1, q2⟩ := bindM_some q
    obtain ⟨s1, m1, h1⟩ := casesI_ok h hx q1
    obtain ⟨l2, q3, k⟩ := goM_mem q2 m1
    split at q3
    · rename_i n
      split at q3
      · rename_i hb
        refine ⟨.fix (rangeD 0 1 n.toNat), by unfold srcD; simp only [hb, if_true], ?_⟩
        exact (PostR.ret1 (src := .fix (rangeD 0 1 n.toNat)) h1 rangeG rfl q3).up Gh.le.refl k
      · cases q3
    · cases q3
  · rename_i x y
    obtain ⟨d, e, rfl, hx, hy⟩ := gams2 hxs
    obtain ⟨l1, q1, q2⟩ := bindM_some q
    obtain ⟨s1, m1, h1⟩ := casesI_ok h hx q1
    obtain ⟨l2, q3, k⟩ := goM_mem q2 m1
    obtain ⟨l3, q4, q5⟩ := bindM_some q3
    obtain ⟨s2, m2, h2⟩ := casesI_ok h1 hy q4
    obtain ⟨l4, q6, k2⟩ := goM_mem q5 m2
    split at q6
    · rename_i a b
      split at q6
      · rename_i hb
        refine ⟨.fix (rangeD a 1 (b - a).toNat), by unfold srcD; simp only [hb, if_true], ?_⟩
        exact (PostR.ret1 (src := .fix (rangeD a 1 (b - a).toNat)) h2 rangeG rfl q6).up Gh.le.refl fun p hp => k p (k2 p hp)
      · cases q6
    · cases q6
  · rename_i x y z
    obtain ⟨d, ds', rfl, hx, hxs⟩ := hxs
    obtain ⟨e, f, rfl, hy, hz⟩ := gams2 hxs
    obtain ⟨l1, q1, q2⟩ := bindM_some q
    obtain ⟨s1, m1, h1⟩ := casesI_ok h hx q1
    obtain ⟨l2, q3, k⟩ := goM_mem q2 m1
    obtain ⟨l3, q4, q5⟩ := bindM_some q3
    obtain ⟨s2, m2, h2⟩ := casesI_ok h1 hy q4
    obtain ⟨l4, q6, k2⟩ := goM_mem q5 m2
    split at q6
    · rename_i a b q7
      cases constOf_ok h2.h z hz q7
      split at q6
      · rename_i hb
        refine ⟨.fix (rangeD a (-1) (a - b).toNat), by unfold srcD; simp only [hb, decide_true, Bool.and_self, if_true], ?_⟩
        exact (PostR.ret1 (src := .fix (rangeD a (-1) (a - b).toNat)) h2 rangeG rfl q6).up Gh.le.refl fun p hp => k p (k2 p hp)
      · cases q6
    · cases q6
  · rename_i x
    obtain ⟨d, rfl, hx⟩ := gams1 hxs
    obtain ⟨l1, q1, q2⟩ := bindM_some q
    obtain ⟨src, a, p, hp, g1, l1', h1, L, hs, hL⟩ := seqS_ok h hx q1
    obtain ⟨l2, q3, k⟩ := goM_mem q2 (a := p.1) (s := p.2) hp
    refine ⟨.enum src, by unfold srcD; simp only [a, Option.map_some], ?_⟩
    exact (PostR.ret1 (sr := .enum p.1) (src := .enum src) h1 hs (by rw [Src.len]; exact hL) q3).up l1' k
  · rename_i x y
    obtain ⟨d, e, rfl, hx, hy⟩ := gams2 hxs
    obtain ⟨l1, q1, q2⟩ := bindM_some q
    obtain ⟨src, a, p, hp, g1, l1', h1, L, hs, hL⟩ := seqS_ok h hx q1
    obtain ⟨l2, q3, k⟩ := goM_mem q2 (a := p.1) (s := p.2) hp
    obtain ⟨l3, q4, q5⟩ := bindM_some q3
    obtain ⟨src2, a2, p2, hp2, g2, l2', h2, L2, hs2, hL2⟩ := seqS_ok h1 (Gam.mono l1' _ _ hy) q4
    obtain ⟨l4, q6, k2⟩ := goM_mem q5 (a := p2.1) (s := p2.2) hp2
    refine ⟨.zip src src2, by unfold srcD; simp only [a, a2], ?_⟩
    exact (PostR.ret1 (sr := .zip p.1 p2.1) (src := .zip src src2) h2 ⟨L, L2, hs.mono l2' _, hs2, rfl⟩ (by rw [Src.len, hL, hL2]) q6).up (l1'.trans l2') fun p hp => k p (k2 p hp)
  · cases q

/-! ### comprehensions -/
def ROpt (W : Wo) (g : Gh) (o : Option SV) (o' : Option D) : Prop := match o, o' with
  | none, none => True
  | some x, some d => Gam W g x d
  | _, _ => False
theorem LC.snoc_ok (h : HRel W δ s g st) {c c' : LC} {ds : List D} (hc : LCG W g c ds) (hy : Gam W g y d) (q : c.snoc s y = some c') : LCG W g c' (ds ++ [d]) ∧ ds.length < sizeLine := by
  unfold LC.snoc at q
  split at q
  · rename_i xs
    split at q
    · rename_i hl; cases q
      exact ⟨Gams.append hc (Gams.one hy), by rw [← Gams.length hc]; exact hl⟩
    · cases q
  · rename_i lo hi z
    simp only at q
    split at q
    · rename_i hl; cases q
      rw [Bool.and_eq_true] at hl
      have := hc.1
      refine ⟨⟨by simp; omega, fun e he => ?_⟩, by omega⟩
      rcases List.mem_append.mp he with he | he
      · exact le_ok h _ _ _ hl.2.1 (hc.2 e he)
      · rw [List.mem_singleton.mp he]; exact le_ok h _ _ _ hl.2.2 hy
    · cases q
def accO (ds : List D) : Option D → List D
  | none => ds
  | some d => ds ++ [d]
theorem lcTurn_ok {acc : LC} {ds : List D} {o : Option D} (hacc : LCG W g acc ds) : ∀ {l : List (Option SV × SS)} {l2 : List (LC × SS)}, lcTurn acc l = some l2 → PostG W δ (ROpt W) l g env o st → PostC W δ l2 g env (accO ds o) st ∧ (o ≠ none → ds.length < sizeLine)
  | [], l2, q, h => by obtain ⟨p, hp, _⟩ := h; cases hp
  | (none, s) :: r, l2, q, h => by
    rw [lcTurn] at q
    split at q
    · rename_i l3 q1
      cases q
      obtain ⟨p, hp, g1, l1, h1, h2⟩ := h
      rcases List.mem_cons.mp hp with z | hp
      · subst z
        cases o with
        | none => exact ⟨⟨_, List.mem_cons_self, g1, l1, h1, LCG.mono l1 hacc⟩, fun z => absurd rfl z⟩
        | some d => exact h2.elim
      · obtain ⟨⟨p2, a, b⟩, c⟩ := lcTurn_ok hacc q1 ⟨p, hp, g1, l1, h1, h2⟩
        exact ⟨⟨p2, List.mem_cons_of_mem _ a, b⟩, c⟩
    · cases q
  | (some y, s) :: r, l2, q, h => by
    rw [lcTurn] at q
    split at q
    · rename_i c l3 q1 q2
      cases q
      obtain ⟨p, hp, g1, l1, h1, h2⟩ := h
      rcases List.mem_cons.mp hp with z | hp
      · subst z
        cases o with
        | none => exact h2.elim
        | some d =>
          obtain ⟨a, b⟩ := LC.snoc_ok h1.h (LCG.mono l1 hacc) h2 q1
          exact ⟨⟨_, List.mem_cons_self, g1, l1, h1, a⟩, fun _ => b⟩
      · obtain ⟨⟨p2, a, b⟩, c⟩ := lcTurn_ok hacc q2 ⟨p, hp, g1, l1, h1, h2⟩
        exact ⟨⟨p2, List.mem_cons_of_mem _ a, b⟩, c⟩
    · cases q
theorem lcS_ok {sr : Sr} {src : Src} {step : SV → SS → SX (Option SV)} {cstep : D → Sto → Res (Option D)} {jt : Bool} {L : Nat}
    (hstep : ∀ (x : SV) (s : SS) (g : Gh) (d : D) (st : Sto) (l : List (Option SV × SS)), Rel2 W δ s g env st → Gam W g x d → step x s = .ok l → Wd (cstep d st) (PostG W δ (ROpt W) l g env)) :
    ∀ (n nc i : Nat) (acc : LC) (s : SS) (g : Gh) (ds : List D) (st : Sto) (l : List (SV × SS)), Rel2 W δ s g env st → SrG W g sr src L → LCG W g acc ds → i ≤ L → i + nc = L + 1 → lcS sr step jt n i acc s = .ok l → Wd (lcLoop src cstep nc i ds st) (PostG W δ (Gam W) l g env)
  | 0, nc, i, acc, s, g, ds, st, l, h, hs, hacc, hi, hn, q => by rw [lcS] at q; cases q
  | n + 1, nc, i, acc, s, g, ds, st, l, h, hs, hacc, hi, hn, q => by
    rw [lcS] at q
    split at q
    · cases q
    · rename_i alts q1
      obtain ⟨o, e1, e2⟩ := sat_ok h.h sr hs hi q1
      cases nc with
      | zero => omega
      | succ nc =>
        rw [lcLoop, e1]
        cases o with
        | none =>
          obtain ⟨m1, hL⟩ := e2
          obtain ⟨l2, q2, k⟩ := goX_mem q (a := none) (s := s) (List.mem_map.mpr ⟨none, m1, rfl⟩)
          obtain ⟨a, b⟩ := h.alloc (LC.ao_ok hacc)
          exact (PostG.one (R := Gam W) a b q2).up Gh.le_push k
        | some d =>
          obtain ⟨hlt, x, m1, hx⟩ := e2
          obtain ⟨l2, q2, k⟩ := goX_mem q (a := some x) (s := s) (List.mem_map.mpr ⟨some x, m1, rfl⟩)
          simp only at q2
          split at q2
          · cases q2
          · rename_i lst q3
            split at q2
            · cases q2
            · rename_i l3 q4
              simp only [Wd_bind]
              refine (hstep x s g d st lst h hx q3).mono fun o st1 hp => ?_
              obtain ⟨hc, hsz⟩ := lcTurn_ok hacc q4 hp
              have hj : PostC W δ (if jt then joinL s.doms.length s.heap.length l3 else l3) g env (accO ds o) st1 := by
                split
                · exact joinL_ok h.h.sl h.h.len hc
                · exact hc
              obtain ⟨p, hpm, g1, l1, h1, h2⟩ := hj
              obtain ⟨l4, q5, k2⟩ := goX_mem q2 (a := p.1) (s := p.2) hpm
              have ih := lcS_ok hstep n nc (i + 1) p.1 p.2 g1 (accO ds o) st1 l4 h1 (hs.mono l1 _) h2 (by omega) (by omega) q5
              have ih := ih.upG (g := g) l1 (fun q hq => k q (k2 q hq))
              cases o with
              | none => exact ih
              | some y =>
                simp only
                rw [if_pos (hsz (by simp))]
                exact ih

/-! ### for, while -/
theorem forS_ok {sr : Sr} {src : Src} {step : SV → SS → SX SO} {cstep : D → Env → Sto → Res Out} {jt : Bool} {L : Nat}
    (hstep : ∀ (x : SV) (s : SS) (g : Gh) (d : D) (env : Env) (st : Sto) (l : List (SO × SS)), Rel2 W δ s g env st → Gam W g x d → step x s = .ok l → Wd (cstep d env st) (PostS W δ l g)) :
    ∀ (n nc i : Nat) (s : SS) (g : Gh) (env : Env) (st : Sto) (l : List (SO × SS)), Rel2 W δ s g env st → SrG W g sr src L → i ≤ L → i + nc = L + 1 → forS sr step jt n i s = .ok l → Wd (forLoop src cstep nc i env st) (PostS W δ l g)
  | 0, nc, i, s, g, env, st, l, h, hs, hi, hn, q => by rw [forS] at q; cases q
  | n + 1, nc, i, s, g, env, st, l, h, hs, hi, hn, q => by
    rw [forS] at q
    split at q
    · cases q
    · rename_i alts q1
      obtain ⟨o, e1, e2⟩ := sat_ok h.h sr hs hi q1
      cases nc with
      | zero => omega
      | succ nc =>
        rw [forLoop, e1]
        cases o with
        | none =>
          obtain ⟨m1, hL⟩ := e2
          obtain ⟨l2, q2, k⟩ := goX_mem q (a := none) (s := s) (List.mem_map.mpr ⟨none, m1, rfl⟩)
          unfold okX at q2; cases q2
          exact PostS.next h (k _ (List.mem_singleton.mpr rfl))
        | some d =>
          obtain ⟨hlt, x, m1, hx⟩ := e2
          obtain ⟨l2, q2, k⟩ := goX_mem q (a := some x) (s := s) (List.mem_map.mpr ⟨some x, m1, rfl⟩)
          simp only at q2
          split at q2
          · cases q2
          · rename_i lst q3
            obtain ⟨l3, q4, q5⟩ := bindX_ok q2
            simp only [Wd_bind]
            refine (hstep x s g d env st lst h hx q3).mono fun o st1 hp => ?_
            obtain ⟨p, hpm, g1, l1, h1⟩ := joinO_ok h.h.sl h.h.len (toNext_ok hp) q4
            obtain ⟨l4, q6, k2⟩ := goX_mem q5 (a := p.1) (s := p.2) hpm
            have kk : ∀ q ∈ l4, q ∈ l := fun q hq => k q (k2 q hq)
            obtain ⟨so, s1⟩ := p
            cases o with
            | next env1 =>
              cases so <;> first | exact h1.elim | skip
              exact (forS_ok hstep n nc (i + 1) s1 g1 env1 st1 l4 h1 (hs.mono l1 _) (by omega) (by omega) q6).upS l1 kk
            | cnt env1 =>
              cases so <;> first | exact h1.elim | skip
              exact (forS_ok hstep n nc (i + 1) s1 g1 env1 st1 l4 h1 (hs.mono l1 _) (by omega) (by omega) q6).upS l1 kk
            | brk env1 =>
              cases so <;> first | exact h1.elim | skip
              simp only at q6
              unfold okX at q6; cases q6
              exact (PostS.next h1 (List.mem_singleton.mpr rfl)).up l1 kk
            | ret d =>
              cases so <;> first | exact h1.elim | skip
              simp only at q6
              unfold okX at q6; cases q6
              exact ⟨_, kk _ (List.mem_singleton.mpr rfl), g1, l1, h1⟩
theorem whlS_ok {test : SS → SX Bool} {step : SS → SX SO} {ct : Env → Sto → Res Bool} {cb : Env → Sto → Res Out} {jt : Bool}
    (ht : ∀ (s : SS) (g : Gh) (env : Env) (st : Sto) (l : List (Bool × SS)), Rel2 W δ s g env st → test s = .ok l → Wd (ct env st) (PostG W δ (fun _ a b => a = b) l g env))
    (hb : ∀ (s : SS) (g : Gh) (env : Env) (st : Sto) (l : List (SO × SS)), Rel2 W δ s g env st → step s = .ok l → Wd (cb env st) (PostS W δ l g)) :
    ∀ (n nc : Nat) (s : SS) (g : Gh) (env : Env) (st : Sto) (l : List (SO × SS)), n ≤ nc → Rel2 W δ s g env st → whlS test step jt n s = .ok l → Wd (whlLoop ct cb nc env st) (PostS W δ l g)
  | 0, nc, s, g, env, st, l, hn, h, q => by rw [whlS] at q; cases q
  | n + 1, nc, s, g, env, st, l, hn, h, q => by
    cases nc with
    | zero => omega
    | succ nc =>
      rw [whlS] at q
      rw [whlLoop]
      obtain ⟨l1, q1, q2⟩ := bindX_ok q
      simp only [Wd_bind]
      refine (ht s g env st l1 h q1).bindG fun b s1 b' st1 g1 m1 le1 h1 hb' => ?_
      subst hb'
      obtain ⟨l2, q3, k⟩ := goX_mem q2 m1
      cases b with
      | false =>
        simp only [Bool.false_eq_true, if_false] at q3 ⊢
        unfold okX at q3; cases q3
        exact (PostS.next h1 (List.mem_singleton.mpr rfl)).up le1 k
      | true =>
        simp only [if_true] at q3 ⊢
        split at q3
        · cases q3
        · rename_i lst q4
          obtain ⟨l3, q5, q6⟩ := bindX_ok q3
          simp only [Wd_bind]
          refine (hb s1 g1 env st1 lst h1 q4).mono fun o st2 hp => ?_
          have hp' := toNext_ok hp
          obtain ⟨p0, hp0, g0', le0, h0⟩ := hp'
          have hpg : PostS W δ (toNext lst) g (toN o) st2 := ⟨p0, hp0, g0', le1.trans le0, h0⟩
          obtain ⟨p, hpm, g2, le2, h2⟩ := joinO_ok h.h.sl h.h.len hpg q5
          obtain ⟨l4, q7, k2⟩ := goX_mem q6 (a := p.1) (s := p.2) hpm
          have kk : ∀ q ∈ l4, q ∈ l := fun q hq => k q (k2 q hq)
          obtain ⟨so, s2⟩ := p
          cases o with
          | next env1 =>
            cases so <;> first | exact h2.elim | skip
            exact (whlS_ok ht hb n nc s2 g2 env1 st2 l4 (by omega) h2 q7).upS le2 kk
          | cnt env1 =>
            cases so <;> first | exact h2.elim | skip
            exact (whlS_ok ht hb n nc s2 g2 env1 st2 l4 (by omega) h2 q7).upS le2 kk
          | brk env1 =>
            cases so <;> first | exact h2.elim | skip
            simp only at q7
            unfold okX at q7; cases q7
            exact (PostS.next h2 (List.mem_singleton.mpr rfl)).up le2 kk
          | ret d =>
            cases so <;> first | exact h2.elim | skip
            simp only at q7
            unfold okX at q7; cases q7
            exact ⟨_, kk _ (List.mem_singleton.mpr rfl), g2, le2, h2⟩
end
end PL

set_option Elab.async false
set_option linter.all false
set_option maxRecDepth 100000
set_option maxHeartbeats 4000000
/-! SXP: a loop by what stays. -/
namespace PL
open PySem L2
section
variable {W : Wo} {g g' g0 g2 : Gh} {δ : Nat} {s s' : SS} {st st' : Sto} {env : Env} {x y z : SV} {d e f : D}
theorem most_ok : ∀ (sr : Sr) {src : Src} {L : Nat}, SrG W g sr src L → L ≤ sr.most s
  | .ex xs, .fix ds, L, h => by obtain ⟨a, rfl⟩ := h; rw [Sr.most, Gams.length a]; exact Nat.le_refl _
  | .ex xs, .live r, L, h => by obtain ⟨ds, _, a, rfl⟩ := h; rw [Sr.most, Gams.length a]; exact Nat.le_refl _
  | .of lo hi x, .fix ds, L, h => by obtain ⟨⟨a, _⟩, rfl⟩ := h; rw [Sr.most]; exact a.2
  | .of lo hi x, .live r, L, h => by obtain ⟨ds, _, ⟨a, _⟩, rfl⟩ := h; rw [Sr.most]; exact a.2
  | .own k n, .live r, L, h => by rw [Sr.most, h.2]; exact Nat.le_refl _
  | .enum t, .enum u, L, h => by rw [Sr.most]; exact most_ok t (src := u) h
  | .zip t v, .zip u w, L, h => by
    obtain ⟨a, b, h1, h2, rfl⟩ := h
    rw [Sr.most]
    have := most_ok t h1
    have := most_ok v h2
    omega
  | .ex _, .enum _, _, h => h.elim
  | .ex _, .zip _ _, _, h => h.elim
  | .of _ _ _, .enum _, _, h => h.elim
  | .of _ _ _, .zip _ _, _, h => h.elim
  | .own _ _, .fix _, _, h => h.elim
  | .own _ _, .enum _, _, h => h.elim
  | .own _ _, .zip _ _, _, h => h.elim
  | .enum _, .fix _, _, h => h.elim
  | .enum _, .live _, _, h => h.elim
  | .enum _, .zip _ _, _, h => h.elim
  | .zip _ _, .fix _, _, h => h.elim
  | .zip _ _, .live _, _, h => h.elim
  | .zip _ _, .enum _, _, h => h.elim
theorem item_ok (h : HRel W δ s g st) : ∀ (sr : Sr) {src : Src} {L i : Nat} {y : SV}, SrG W g sr src L → i ≤ L → sr.itemOk s y = true → ∃ o, src.at st i = some o ∧ (o = none → L ≤ i) ∧ ∀ d, o = some d → i < L ∧ Gam W g y d
  | .ex xs, .fix ds, L, i, y, hs, hi, q => by
    obtain ⟨h1, rfl⟩ := hs
    rw [Sr.itemOk] at q
    refine ⟨ds[i]?, by rw [Src.at, if_pos hi], fun z => by simpa using z, fun d e => ?_⟩
    obtain ⟨x, a, b⟩ := Gams.getD h1 e
    exact ⟨(List.getElem?_eq_some_iff.mp e).1, leU_ok h _ _ _ q (List.mem_of_getElem? a) b⟩
  | .ex xs, .live r, L, i, y, hs, hi, q => by
    obtain ⟨ds, hp, h1, rfl⟩ := hs
    rw [Sr.itemOk] at q
    refine ⟨ds[i]?, by rw [Src.at, (h.ph _ _ hp).1]; simp only; rw [if_pos hi], fun z => by simpa using z, fun d e => ?_⟩
    obtain ⟨x, a, b⟩ := Gams.getD h1 e
    exact ⟨(List.getElem?_eq_some_iff.mp e).1, leU_ok h _ _ _ q (List.mem_of_getElem? a) b⟩
  | .of lo hi' x, .fix ds, L, i, y, hs, hi, q => by
    obtain ⟨⟨h1, h2⟩, rfl⟩ := hs
    rw [Sr.itemOk] at q
    exact ⟨ds[i]?, by rw [Src.at, if_pos hi], fun z => by simpa using z, fun d e => ⟨(List.getElem?_eq_some_iff.mp e).1, le_ok h _ _ _ q (h2 d (List.mem_of_getElem? e))⟩⟩
  | .of lo hi' x, .live r, L, i, y, hs, hi, q => by
    obtain ⟨ds, hp, ⟨h1, h2⟩, rfl⟩ := hs
    rw [Sr.itemOk] at q
    exact ⟨ds[i]?, by rw [Src.at, (h.ph _ _ hp).1]; simp only; rw [if_pos hi], fun z => by simpa using z, fun d e => ⟨(List.getElem?_eq_some_iff.mp e).1, le_ok h _ _ _ q (h2 d (List.mem_of_getElem? e))⟩⟩
  | .own k n, .live r, L, i, y, hs, hi, q => by
    obtain ⟨hr, rfl⟩ := hs
    rw [Sr.itemOk] at q
    split at q
    · rename_i xs q1
      obtain ⟨c, h1, ds, rfl, h2⟩ := h.obs k _ r q1 hr
      rw [Bool.and_eq_true, decide_eq_true_eq] at q
      have hl := Gams.length h2
      have : ds.length = L := by omega
      subst this
      refine ⟨ds[i]?, by rw [Src.at, h1]; simp only; rw [if_pos hi], fun z => by simpa using z, fun d e => ?_⟩
      obtain ⟨x, a, b⟩ := Gams.getD h2 e
      exact ⟨(List.getElem?_eq_some_iff.mp e).1, leU_ok h _ _ _ q.2 (List.mem_of_getElem? a) b⟩
    · cases q
  | .enum t, .enum u, L, i, y, hs, hi, q => by
    unfold Sr.itemOk at q
    split at q
    · rename_i z; cases z
    · rename_i z; cases z
    · rename_i z; cases z
    · rename_i t' b y' z
      cases z
      rw [Bool.and_eq_true, decide_eq_true_eq] at q
      obtain ⟨o, a, b1, c⟩ := item_ok h t (src := u) hs hi q.2
      have hm := most_ok (s := s) t (src := u) hs
      cases o with
      | none => exact ⟨none, by rw [Src.at, a], b1, fun d z => by cases z⟩
      | some d =>
        refine ⟨some (.tup [.int (i : Int), d]), by rw [Src.at, a], (fun z => by cases z), fun d' z => ?_⟩
        cases z
        obtain ⟨c1, c2⟩ := c d rfl
        exact ⟨c1, by rw [Gam]; exact ⟨_, rfl, Gams.two (gam_bnd (by omega) (by omega)) c2⟩⟩
    · rename_i z; cases z
    · cases q
  | .zip t v, .zip u w, L, i, y, hs, hi, q => by
    obtain ⟨a, b, h1, h2, rfl⟩ := hs
    unfold Sr.itemOk at q
    split at q
    · rename_i z; cases z
    · rename_i z; cases z
    · rename_i z; cases z
    · rename_i z; cases z
    · rename_i t' v' x y z
      cases z
      rw [Bool.and_eq_true] at q
      obtain ⟨o1, a1, b1, c1⟩ := item_ok h t (L := a) (i := i) h1 (by omega) q.1
      obtain ⟨o2, a2, b2, c2⟩ := item_ok h v (L := b) (i := i) h2 (by omega) q.2
      cases o1 with
      | none => exact ⟨none, by rw [Src.at, a1, a2] <;> (cases o2 <;> rfl), (fun _ => by have := b1 rfl; omega), fun d z => by cases z⟩
      | some d =>
        obtain ⟨c3, c4⟩ := c1 d rfl
        cases o2 with
        | none => exact ⟨none, by rw [Src.at, a1, a2], (fun _ => by have := b2 rfl; omega), fun d z => by cases z⟩
        | some e =>
          obtain ⟨c5, c6⟩ := c2 e rfl
          refine ⟨some (.tup [d, e]), by rw [Src.at, a1, a2], (fun z => by cases z), fun d' z => ?_⟩
          cases z
          exact ⟨by omega, by rw [Gam]; exact ⟨_, rfl, Gams.two c4 c6⟩⟩
    · cases q
  | .ex _, .enum _, _, _, _, h, _, _ => h.elim
  | .ex _, .zip _ _, _, _, _, h, _, _ => h.elim
  | .of _ _ _, .enum _, _, _, _, h, _, _ => h.elim
  | .of _ _ _, .zip _ _, _, _, _, h, _, _ => h.elim
  | .own _ _, .fix _, _, _, _, h, _, _ => h.elim
  | .own _ _, .enum _, _, _, _, h, _, _ => h.elim
  | .own _ _, .zip _ _, _, _, _, h, _, _ => h.elim
  | .enum _, .fix _, _, _, _, h, _, _ => h.elim
  | .enum _, .live _, _, _, _, h, _, _ => h.elim
  | .enum _, .zip _ _, _, _, _, h, _, _ => h.elim
  | .zip _ _, .fix _, _, _, _, h, _, _ => h.elim
  | .zip _ _, .live _, _, _, _, h, _, _ => h.elim
  | .zip _ _, .enum _, _, _, _, h, _, _ => h.elim
theorem minL_mem : ∀ {l : List (SO × SS)} {m : Nat}, minL m l ≤ m ∧ ∀ p ∈ l, minL m l ≤ p.2.lim
  | [], m => ⟨Nat.le_refl _, fun p hp => by cases hp⟩
  | (o, s) :: r, m => by
    rw [minL]
    obtain ⟨a, b⟩ := minL_mem (l := r) (m := if s.lim < m then s.lim else m)
    refine ⟨?_, fun p hp => ?_⟩
    · split at a <;> rename_i h <;> simp only [h, if_true, if_false] at a ⊢ <;> omega
    · rcases List.mem_cons.mp hp with z | hp
      · subst z
        simp only
        split at a <;> rename_i h <;> simp only [h, if_true, if_false] at a ⊢ <;> omega
      · exact b p hp
theorem allLe_mem {n0 m0 : Nat} {t : SS} : ∀ {l : List (LC × SS)} {c : LC}, allLe n0 m0 t l = true → (c, s) ∈ l → leS n0 m0 (trS n0 m0 s) { t with lim := 0 } = true
  | (c1, s1) :: r, c, q, h => by
    rw [allLe, Bool.and_eq_true] at q
    rcases List.mem_cons.mp h with z | h
    · cases z; exact q.1
    · exact allLe_mem q.2 h
theorem fixI_some {sr : Sr} {step : SV → SS → SX SO} : ∀ (k : Nat) {t0 : SS} {r : List ((SV × List (SO × SS)) × SS)}, fixI sr step k t0 = .ok r → ∃ x l0 t, r = [((x, toNext l0), t)] ∧ step x t = .ok l0 ∧ allLe t.doms.length t.heap.length t (nexts (toNext l0)) = true ∧ t.lim = t0.lim
  | 0, t0, r, q => by rw [fixI] at q; cases q
  | k + 1, t0, r, q => by
    rw [fixI] at q
    split at q
    · cases q
    · rename_i l q1
      simp only at q
      split at q
      · rename_i q2
        cases q
        exact ⟨_, l, t0, rfl, q1, q2, rfl⟩
      · obtain ⟨x, l0, t, a, b, c, e⟩ := fixI_some k q
        exact ⟨x, l0, t, a, b, c, e⟩
theorem HRel.lim (h : HRel W δ s g st) {n δ' : Nat} (hb : W.B (n + δ') st) : HRel W δ' { s with lim := n } g st := ⟨h.len, h.obs, h.nd, h.own, h.ph, h.fr, h.sl, h.sd, hb, h.bas⟩
theorem Rel2.lim (h : Rel2 W δ s g env st) {n δ' : Nat} (hb : W.B (n + δ') st) : Rel2 W δ' { s with lim := n } g env st := ⟨h.h.lim hb, h.e⟩
theorem brks_mem : ∀ {l : List (SO × SS)} {so : SO}, (so, s) ∈ l → ((match so with | .brk => SO.next | o => o), s) ∈ brks l
  | (o, t) :: r, so, h => by
    rcases List.mem_cons.mp h with z | h
    · cases z
      cases o <;> rw [brks] <;> first | exact List.mem_cons_self | (intros; contradiction) | (intro _ z; cases z)
    · have := brks_mem h
      cases o <;> rw [brks] <;> first | exact List.mem_cons_of_mem _ this | (intros; contradiction) | (intro _ z; cases z)
theorem forI_ok {sr : Sr} {src : Src} {step : SV → SS → SX SO} {cstep : D → Env → Sto → Res Out} {Lc : Nat}
    (hstep : ∀ (δ : Nat) (x : SV) (s : SS) (g : Gh) (d : D) (env : Env) (st : Sto) (l : List (SO × SS)), Rel2 W δ s g env st → Gam W g x d → step x s = .ok l → Wd (cstep d env st) (PostS W δ l g))
    (h : Rel2 W δ s g env st) (hs : SrG W g sr src Lc) {l : List (SO × SS)} (q : forI sr step s = .ok l) : Wd (forLoop src cstep (Lc + 1) 0 env st) (PostS W δ l g) := by
  unfold forI at q
  simp only at q
  generalize hn : sr.most s = n at q
  generalize hL : s.lim / (n + 1) = L at q
  have hLs : (n + 1) * L ≤ s.lim := by rw [← hL]; exact Nat.mul_div_le _ _
  split at q
  · cases q
  · rename_i x lt t q1
    split at q
    · rename_i q2
      cases q
      obtain ⟨x', l0, t', e1, e2, e3, e4⟩ := fixI_some _ q1
      cases e1
      simp only [Bool.and_eq_true, decide_eq_true_eq] at q2
      obtain ⟨q3, q4, q5⟩ := q2
      simp only at e4
      generalize hc : L - minL L (toNext l0) = c
      have hcL : c ≤ L := by omega
      have hmin : L - c ≤ minL L (toNext l0) := by omega
      have hLcn : Lc ≤ n := by rw [← hn]; exact most_ok sr hs
      have big : n * c + L ≤ s.lim := by
        have : n * c ≤ n * L := Nat.mul_le_mul_left _ hcL
        have : (n + 1) * L = n * L + L := by rw [Nat.add_mul, Nat.one_mul]
        omega
      have le1 : L ≤ s.lim := by omega
      have le2 : n * c ≤ s.lim := by omega
      -- the turns
      have turns : ∀ (nc i : Nat) (g1 : Gh) (env1 : Env) (st1 : Sto), i + nc = Lc + 1 → i ≤ Lc → g.le g1 → Rel2 W (δ + s.lim - i * c - L) t g1 env1 st1 →
          Wd (forLoop src cstep nc i env1 st1) (PostS W δ ((.next, { t with lim := s.lim - n * c }) :: limO (s.lim - n * c) (brks (others (toNext l0)))) g) := by
        intro nc
        induction nc with
        | zero => intro i g1 env1 st1 e hi; omega
        | succ nc ih =>
          intro i g1 env1 st1 hnc hi lg h1
          have hic : i * c ≤ n * c := Nat.mul_le_mul_right _ (by omega)
          obtain ⟨o, a1, a2, a3⟩ := item_ok h1.h sr (hs.mono lg _) hi q4
          rw [forLoop, a1]
          cases o with
          | none =>
            refine ⟨_, List.mem_cons_self, g1, lg, ?_⟩
            refine h1.lim (W.Bmono _ _ _ ?_ h1.h.bag)
            rw [e4]; omega
          | some d =>
            obtain ⟨hlt, hx⟩ := a3 d rfl
            have hic1 : (i + 1) * c ≤ n * c := Nat.mul_le_mul_right _ (by omega)
            have hi1 : (i + 1) * c = i * c + c := by rw [Nat.add_mul, Nat.one_mul]
            simp only [Wd_bind]
            refine (hstep _ x t g1 d env1 st1 l0 h1 hx e2).mono fun o st2 hp => ?_
            obtain ⟨p, hpm, g2, lg2, h2⟩ := toNext_ok hp
            obtain ⟨so, s2⟩ := p
            have hlim : L - c ≤ s2.lim := Nat.le_trans hmin (minL_mem.2 (so, s2) hpm)
            have nxt : ∀ env2, Rel2 W (δ + s.lim - i * c - L) s2 g2 env2 st2 → so = .next → Wd (forLoop src cstep nc (i + 1) env2 st2) (PostS W δ ((.next, { t with lim := s.lim - n * c }) :: limO (s.lim - n * c) (brks (others (toNext l0)))) g) := by
              intro env2 h3 hso
              subst hso
              have k1 := allLe_mem e3 (nexts_mem hpm)
              have k2 := trS_ok t.doms.length t.heap.length h3
              obtain ⟨k3, _, _⟩ := leS_ok k2 k1
              have lgT : g1.le (gT t.doms.length t.heap.length g2 st2) := gT_le lg2 (by rw [h1.h.sl]; exact Nat.le_refl _) (by rw [h1.h.len]; exact Nat.le_refl _)
              have lgL : g1.le (gL t.doms.length t.heap.length (gT t.doms.length t.heap.length g2 st2)) := gL_le lgT (by rw [h1.h.sl]; exact Nat.le_refl _) (by rw [h1.h.len]; exact Nat.le_refl _)
              refine ih (i + 1) _ env2 st2 (by omega) (by omega) (lg.trans lgL) ?_
              have kb : W.B (L + (δ + s.lim - (i + 1) * c - L)) st2 := W.Bmono _ _ _ (by omega) h3.h.bag
              have k4 := k3.lim (n := L) (δ' := δ + s.lim - (i + 1) * c - L) kb
              have : ({ ({ t with lim := 0 } : SS) with lim := L } : SS) = t := by
                rw [← e4]
              rw [this] at k4
              exact k4
            have oth : so ≠ .next → ∀ so', so' = (match so with | .brk => SO.next | o => o) → (so', ({ s2 with lim := s.lim - n * c } : SS)) ∈ ((.next, { t with lim := s.lim - n * c }) :: limO (s.lim - n * c) (brks (others (toNext l0)))) := by
              intro hso so' e
              refine List.mem_cons_of_mem _ (List.mem_map.mpr ⟨_, brks_mem (others_mem hso hpm), ?_⟩)
              subst e
              cases so <;> rfl
            have bg : W.B (s2.lim + (δ + s.lim - i * c - L)) st2 → W.B (s.lim - n * c + δ) st2 := fun hb => W.Bmono _ _ _ (by omega) hb
            cases o with
            | next env2 =>
              cases so <;> first | exact h2.elim | skip
              exact nxt env2 h2 rfl
            | cnt env2 =>
              cases so <;> first | exact h2.elim | skip
              exact nxt env2 h2 rfl
            | brk env2 =>
              cases so <;> first | exact h2.elim | skip
              have h2 : Rel2 W _ s2 g2 env2 st2 := h2
              exact ⟨_, oth (by simp) _ rfl, g2, lg.trans lg2, h2.lim (bg h2.h.bag)⟩
            | ret d =>
              cases so <;> first | exact h2.elim | skip
              obtain ⟨h2, h3⟩ := h2
              exact ⟨_, oth (by simp) _ rfl, g2, lg.trans lg2, h2.lim (bg h2.bag), h3⟩
      have hb0 : W.B (L + (δ + s.lim - 0 * c - L)) st := W.Bmono _ _ _ (by omega) h.h.bag
      obtain ⟨k1, k2, k3⟩ := leS_ok (h.lim hb0) q3
      refine turns (Lc + 1) 0 _ env st (by omega) (Nat.zero_le _) (gL_le Gh.le.refl (by rw [h.h.sl]; exact k2) (by rw [h.h.len]; exact k3)) k1
    · cases q
  · cases q
end
end PL

set_option Elab.async false
set_option linter.all false
set_option maxRecDepth 100000
set_option maxHeartbeats 4000000
/-! SXQ: the symbolic runner is sound. -/
namespace PL
open PySem L2
section
variable {W : Wo} {g g' g0 g2 : Gh} {δ : Nat} {s s' : SS} {st st' : Sto} {env : Env} {x y z : SV} {d e f : D}
theorem wipeS_eq : ∀ (vs : List Nat) (e : List (Option SV)), e.length = env.length → EnvR W g e env → EnvR W g (vs.foldr (fun v e => e.set v none) e) (wipeE env vs)
  | [], e, _, h => h
  | v :: vs, e, hl, h => by
    have ih := wipeS_eq vs e hl h
    rw [List.foldr_cons, wipeE]
    refine ⟨by rw [List.length_set, List.length_set]; exact ih.1, fun j y q => ?_⟩
    by_cases hj : v = j
    · subst hj
      by_cases hi : v < (vs.foldr (fun v e => e.set v none) e).length
      · rw [List.getElem?_set_self hi] at q; cases q
      · rw [List.getElem?_eq_none (by simpa using hi)] at q; cases q
    · rw [List.getElem?_set_ne hj] at q ⊢
      exact ih.2 j y q
theorem Rel2.wipe (h : Rel2 W δ s g env st) (vs : List Nat) : Rel2 W δ (wipeS s vs) g (wipeE env vs) st := Rel2.withEnv h.h (wipeS_eq vs s.env h.e.1 h.e)
theorem setAllS_ok : ∀ (is : List Nat) (xs : List SV) (ds : List D) {s : SS} {env : Env}, Rel2 W δ s g env st → Gams W g xs ds → Rel2 W δ (setAllS s is xs) g (setAll env is ds) st
  | [], xs, ds, s, env, h, hx => by cases xs <;> cases ds <;> exact h
  | i :: is, [], ds, s, env, h, hx => by rw [Gams] at hx; subst hx; exact h
  | i :: is, x :: xs, ds, s, env, h, hx => by
    rw [Gams] at hx
    obtain ⟨d, ds', rfl, h1, h2⟩ := hx
    rw [setAllS, setAll]
    exact setAllS_ok is xs ds' (h.setE h1) h2
theorem partsS_ok (h : HRel W δ s g st) (hx : Gam W g x d) {n : Nat} {xs : List SV} (q : partsS s x n = some xs) : ∃ ds, partsOf d st = some ds ∧ Gams W g xs ds := by
  unfold partsS at q
  have go : ∀ {lo hi : Nat} {z : SV} {ds : List D}, LCG W g (.of lo hi z) ds → (if lo = n ∧ hi = n then some (List.replicate n z) else none) = some xs → Gams W g xs ds := by
    intro lo hi z ds hc q
    split at q
    · rename_i hh; cases q
      exact Gams.replicate (by have := hc.1; omega) hc.2
    · cases q
  split at q
  · rename_i ys q1
    cases q
    obtain ⟨ds, rfl, hc⟩ := tcOf_ok h hx q1
    exact ⟨ds, rfl, hc⟩
  · rename_i lo hi z q1
    obtain ⟨ds, rfl, hc⟩ := tcOf_ok h hx q1
    exact ⟨ds, rfl, go hc q⟩
  · split at q
    · rename_i ys q1
      cases q
      obtain ⟨r, ds, rfl, hr, hc⟩ := lcOf_ok h hx q1
      exact ⟨ds, by unfold partsOf; simp only [hr], hc⟩
    · rename_i lo hi z q1
      obtain ⟨r, ds, rfl, hr, hc⟩ := lcOf_ok h hx q1
      exact ⟨ds, by unfold partsOf; simp only [hr], go hc q⟩
    · cases q
theorem cmpE_ok (h : Rel2 W δ s g env st) {ji : Bool} {m : Outs Bool} {b : Bool} (hm : ∀ l1, m = some l1 → Asks W δ g env st l1 b) {l : List (SV × SS)} (q : cmpE ji s m = .ok l) : PostG W δ (Gam W) l g env (.bl b) st := by
  unfold cmpE at q
  split at q
  · exact PostG.one h (by unfold bU; rw [Gam]; cases b <;> simp) q
  · have q1 := upX_ok q
    obtain ⟨l2, e1, e2⟩ := sbV_some q1
    exact ask_post (hm l2 e1) e2
theorem asks_post {l1 : List (Bool × SS)} {b : Bool} (h : Asks W δ g env st l1 b) : PostG W δ (fun _ a b => a = b) l1 g env b st := by
  obtain ⟨s', hm, h⟩ := h
  exact ⟨_, hm, g, Gh.le.refl, h, rfl⟩
def PostA (W : Wo) (δ : Nat) (l : List (Unit × SS)) (g : Gh) (env : Env) (st : Sto) : Prop := ∃ p ∈ l, ∃ g', g.le g' ∧ Rel2 W δ p.2 g' env st
theorem PostA.up {l l' : List (Unit × SS)} (h : PostA W δ l' g' env st) (l1 : g.le g') (k : ∀ q ∈ l', q ∈ l) : PostA W δ l g env st := let ⟨p, a, g2, b, c⟩ := h; ⟨p, k p a, g2, l1.trans b, c⟩
theorem ofKV {ks : List Key} {xs : List SV} {ds : List D} : ∀ (hl : ks.length = xs.length) (hx : Gams W g xs ds) (acc : List (Key × SV)) (acc' : List (Key × D)), AOR W g (.dct acc) (.dct acc') → AOR W g (.dct ((ks.zip xs).foldl (fun acc kv => putS acc kv.1 kv.2) acc)) (.dct ((ks.zip ds).foldl (fun acc kv => putKV acc kv.1 kv.2) acc')) := by
  induction ks generalizing xs ds with
  | nil => intro hl hx acc acc' h; exact h
  | cons k ks ih =>
    intro hl hx acc acc' h
    cases xs with
    | nil => cases hl
    | cons x xs =>
      rw [Gams] at hx
      obtain ⟨d, ds', rfl, h1, h2⟩ := hx
      simp only [List.zip_cons_cons, List.foldl_cons]
      refine ih (by simpa using hl) h2 _ _ ?_
      obtain ⟨es, e1, e2⟩ := h
      cases e1
      exact putS_ok e2 h1
end
section
variable {W : Wo} {F : Nat → List D → Sto → Res D} {G : List D} {call : Nat → List SV → SS → SX SV} {md : Md}
/-- what is asked of calls -/
def CallOk (W : Wo) (F : Nat → List D → Sto → Res D) (call : Nat → List SV → SS → SX SV) : Prop := ∀ (f : Nat) (xs : List SV) (s : SS) (δ : Nat) (g : Gh) (env : Env) (st : Sto) (ds : List D) (l : List (SV × SS)), Rel2 W δ s g env st → Gams W g xs ds → call f xs s = .ok l → Wd (F f ds st) (PostG W δ (Gam W) l g env)
theorem gam_getD {g : Gh} {xs : List SV} {ds : List D} (h : Gams W g xs ds) (j : Nat) : Gam W g (xs.getD j (.c .non)) (ds.getD j .non) := by
  by_cases hj : j < xs.length
  · obtain ⟨d, a, b⟩ := h.get (List.getElem?_eq_getElem hj)
    rw [List.getD_eq_getElem?_getD, List.getD_eq_getElem?_getD, List.getElem?_eq_getElem hj, a]
    exact b
  · rw [List.getD_eq_getElem?_getD, List.getD_eq_getElem?_getD, List.getElem?_eq_none (by omega), List.getElem?_eq_none (by rw [← h.length]; omega)]
    show Gam W g (.c .non) .non
    rw [Gam]
theorem gams_perm {g : Gh} {xs : List SV} {ds : List D} (h : Gams W g xs ds) : ∀ ix : List Nat, Gams W g (ix.map fun j => xs.getD j (.c .non)) (ix.map fun j => ds.getD j .non)
  | [] => rfl
  | j :: ix => ⟨_, _, rfl, gam_getD h j, gams_perm h ix⟩
mutual
theorem xE (HC : CallOk W F call) : ∀ (e : E) {δ : Nat} {s : SS} {g : Gh} {env : Env} {st : Sto} {l : List (SV × SS)}, Rel2 W δ s g env st → sxE call G md e s = .ok l → Wd (ev F G e env st) (PostG W δ (Gam W) l g env)
  | .var i, δ, s, g, env, st, l, h, q => by
    rw [sxE] at q
    obtain ⟨d, a, b⟩ := varS_ok h q
    exact W_var.mpr ⟨d, a, b⟩
  | .cI i, δ, s, g, env, st, l, h, q => by rw [sxE] at q; exact W_cI.mpr (PostG.one h (by rw [Gam]) q)
  | .cB i, δ, s, g, env, st, l, h, q => by rw [sxE] at q; exact W_cB.mpr (PostG.one h (by rw [Gam]) q)
  | .cS i, δ, s, g, env, st, l, h, q => by rw [sxE] at q; exact W_cS.mpr (PostG.one h (by rw [Gam]) q)
  | .cN, δ, s, g, env, st, l, h, q => by rw [sxE] at q; exact W_cN.mpr (PostG.one h (by rw [Gam]) q)
  | .gcon i, δ, s, g, env, st, l, h, q => by
    rw [sxE] at q
    split at q
    · rename_i d q1
      split at q
      · rename_i x q2
        exact W_gcon.mpr ⟨d, q1, PostG.one h (ofD_ok d q2).1 q⟩
      · cases q
    · cases q
  | .bin op a b, δ, s, g, env, st, l, h, q => by
    rw [sxE] at q
    obtain ⟨l1, q1, q2⟩ := bindX_ok q
    refine W_bin.mpr ((xE HC a h q1).bindG fun x s1 d st1 g1 m1 le1 h1 hx => ?_)
    obtain ⟨l2, q3, k2⟩ := goX_mem q2 m1
    obtain ⟨l3, q4, q5⟩ := bindX_ok q3
    refine (xE HC b h1 q4).bindG fun y s2 e st2 g2 m2 le2 h2 hy => ?_
    obtain ⟨l4, q6, k4⟩ := goX_mem q5 m2
    exact Wd.upG (R := Gam W) (binS_ok h2 (Gam.mono le2 _ _ hx) hy (upX_ok q6)) (le1.trans le2) fun p hp => k2 p (k4 p hp)
  | .neg a, δ, s, g, env, st, l, h, q => by
    rw [sxE] at q
    obtain ⟨l1, q1, q2⟩ := bindX_ok q
    refine W_neg.mpr ((xE HC a h q1).bindG fun x s1 d st1 g1 m1 le1 h1 hx => ?_)
    obtain ⟨l2, q3, k2⟩ := goX_mem q2 m1
    obtain ⟨i, e1, p⟩ := negS_ok h1 hx (upX_ok q3)
    exact ⟨i, e1, PostG.up (R := Gam W) p le1 k2⟩
  | .notE a, δ, s, g, env, st, l, h, q => by
    rw [sxE] at q
    obtain ⟨l1, q1, q2⟩ := bindX_ok q
    refine W_notE.mpr ((xE HC a h q1).bindG fun x s1 d st1 g1 m1 le1 h1 hx => ?_)
    obtain ⟨l2, q3, k2⟩ := goX_mem q2 m1
    have : ∃ l0, truS s1 x = some l0 := by
      cases e : truS s1 x with
      | some l0 => exact ⟨l0, rfl⟩
      | none => rw [e] at q3; unfold neg bindM cmpE at q3; split at q3 <;> first | (rename_i z; cases z) | (unfold sbV upX at q3; simp at q3)
    obtain ⟨l0, e0⟩ := this
    obtain ⟨b, e1, k⟩ := truS_ok h1 hx e0
    refine ⟨b, e1, (cmpE_ok h1 (b := !b) (fun l3 e3 => neg_ok (l1 := l0) e3 fun l4 e4 => by rw [e0] at e4; cases e4; exact k) q3).up le1 k2⟩
  | .and1 a, δ, s, g, env, st, l, h, q => by rw [sxE] at q; exact W_and1.mpr (xE HC a h q)
  | .or1 a, δ, s, g, env, st, l, h, q => by rw [sxE] at q; exact W_or1.mpr (xE HC a h q)
  | .and2 a r, δ, s, g, env, st, l, h, q => by
    rw [sxE] at q
    obtain ⟨l1, q1, q2⟩ := bindX_ok q
    refine W_and2.mpr ((xE HC a h q1).bindG fun x s1 d st1 g1 m1 le1 h1 hx => ?_)
    obtain ⟨l2, q3, k2⟩ := goX_mem q2 m1
    obtain ⟨l3, q4, q5⟩ := bindX_ok q3
    obtain ⟨b, e1, s2, m2, h2⟩ := truS_ok h1 hx (upX_ok q4)
    obtain ⟨l4, q6, k4⟩ := goX_mem q5 m2
    refine ⟨b, e1, ?_⟩
    cases b with
    | true =>
      simp only [if_true] at q6 ⊢
      exact (xE HC r h2 q6).upG le1 fun p hp => k2 p (k4 p hp)
    | false =>
      simp only [Bool.false_eq_true, if_false] at q6 ⊢
      exact (PostG.one (R := Gam W) h2 hx q6).up le1 fun p hp => k2 p (k4 p hp)
  | .or2 a r, δ, s, g, env, st, l, h, q => by
    rw [sxE] at q
    obtain ⟨l1, q1, q2⟩ := bindX_ok q
    refine W_or2.mpr ((xE HC a h q1).bindG fun x s1 d st1 g1 m1 le1 h1 hx => ?_)
    obtain ⟨l2, q3, k2⟩ := goX_mem q2 m1
    obtain ⟨l3, q4, q5⟩ := bindX_ok q3
    obtain ⟨b, e1, s2, m2, h2⟩ := truS_ok h1 hx (upX_ok q4)
    obtain ⟨l4, q6, k4⟩ := goX_mem q5 m2
    refine ⟨b, e1, ?_⟩
    cases b with
    | true =>
      simp only [if_true] at q6 ⊢
      exact (PostG.one (R := Gam W) h2 hx q6).up le1 fun p hp => k2 p (k4 p hp)
    | false =>
      simp only [Bool.false_eq_true, if_false] at q6 ⊢
      exact (xE HC r h2 q6).upG le1 fun p hp => k2 p (k4 p hp)
  | .cmp op a b, δ, s, g, env, st, l, h, q => by
    rw [sxE] at q
    obtain ⟨l1, q1, q2⟩ := bindX_ok q
    refine W_cmp.mpr ((xE HC a h q1).bindG fun x s1 d st1 g1 m1 le1 h1 hx => ?_)
    obtain ⟨l2, q3, k2⟩ := goX_mem q2 m1
    obtain ⟨l3, q4, q5⟩ := bindX_ok q3
    refine (xE HC b h1 q4).bindG fun y s2 e st2 g2 m2 le2 h2 hy => ?_
    obtain ⟨l4, q6, k4⟩ := goX_mem q5 m2
    have : ∃ l0, cmpX op s2 x y = some l0 := by
      cases e : cmpX op s2 x y with
      | some l0 => exact ⟨l0, rfl⟩
      | none => rw [e] at q6; unfold cmpE at q6; split at q6 <;> first | (rename_i z; cases z) | (unfold sbV upX at q6; simp at q6)
    obtain ⟨l0, e0⟩ := this
    obtain ⟨b, e1, k⟩ := cmpX_ok h2 (Gam.mono le2 _ _ hx) hy e0
    exact ⟨b, e1, (cmpE_ok h2 (b := b) (fun l4 e4 => by rw [e0] at e4; cases e4; exact k) q6).up (le1.trans le2) fun p hp => k2 p (k4 p hp)⟩
  | .cmp2 op op' a b c, δ, s, g, env, st, l, h, q => by
    rw [sxE] at q
    obtain ⟨l1, q1, q2⟩ := bindX_ok q
    rw [ev]
    simp only [Wd_bind]
    refine ((xE HC a h q1).bindG fun x s1 d st1 g1 m1 le1 h1 hx => ?_)
    obtain ⟨l2, q3, k2⟩ := goX_mem q2 m1
    obtain ⟨l3, q4, q5⟩ := bindX_ok q3
    refine (xE HC b h1 q4).bindG fun y s2 e st2 g2 m2 le2 h2 hy => ?_
    obtain ⟨l4, q6, k4⟩ := goX_mem q5 m2
    obtain ⟨l5, q7, q8⟩ := bindX_ok q6
    obtain ⟨b, e1, s3, m3, h3⟩ := cmpX_ok h2 (Gam.mono le2 _ _ hx) hy (upX_ok q7)
    obtain ⟨l6, q9, k6⟩ := goX_mem q8 m3
    simp only [e1]
    cases b with
    | false =>
      simp only [Bool.false_eq_true, if_false] at q9 ⊢
      exact (PostG.one (R := Gam W) h3 (by unfold bF; rw [Gam]) q9).up (le1.trans le2) fun p hp => k2 p (k4 p (k6 p hp))
    | true =>
      simp only [if_true] at q9 ⊢
      obtain ⟨l7, q10, q11⟩ := bindX_ok q9
      simp only [Wd_bind]
      refine (xE HC c h3 q10).bindG fun z s4 f st4 g4 m4 le4 h4 hz => ?_
      obtain ⟨l8, q12, k8⟩ := goX_mem q11 m4
      obtain ⟨l9, e9, e10⟩ := sbV_some (upX_ok q12)
      obtain ⟨b, e2, k⟩ := cmpX_ok h4 (Gam.mono le4 _ _ hy) hz e9
      exact Wd_lift.mpr ⟨.bl b, by rw [e2]; rfl, PostG.up (R := Gam W) (ask_post k e10) ((le1.trans le2).trans le4) fun p hp => k2 p (k4 p (k6 p (k8 p hp)))⟩
  | .ife c a b, δ, s, g, env, st, l, h, q => by
    rw [sxE] at q
    obtain ⟨l0, q0⟩ := joinV_some q
    rw [q0] at q
    obtain ⟨l1, q1, q2⟩ := bindX_ok q0
    have : Wd (ev F G (.ife c a b) env st) (PostG W δ (Gam W) l0 g env) := by
      refine W_ife.mpr ((xT HC c h q1).bindG fun k s1 k' st1 g1 m1 le1 h1 hk => ?_)
      subst hk
      obtain ⟨l2, q3, k2⟩ := goX_mem q2 m1
      cases k with
      | true =>
        simp only [if_true] at q3 ⊢
        exact (xE HC a h1 q3).upG le1 k2
      | false =>
        simp only [Bool.false_eq_true, if_false] at q3 ⊢
        exact (xE HC b h1 q3).upG le1 k2
    exact this.mono fun d st' hp => joinV_ok h.h.sl h.h.len hp q
  | .tup es, δ, s, g, env, st, l, h, q => by
    rw [sxE] at q
    obtain ⟨l1, q1, q2⟩ := bindX_ok q
    refine W_tup.mpr ((xEs HC es h q1).bindG fun xs s1 ds st1 g1 m1 le1 h1 hx => ?_)
    obtain ⟨l2, q3, k2⟩ := goX_mem q2 m1
    split at q3
    · rename_i hl
      exact ⟨by rw [← hx.length]; exact hl, (PostG.one (R := Gam W) h1 (by rw [Gam]; exact ⟨ds, rfl, hx⟩) q3).up le1 k2⟩
    · cases q3
  | .lst es, δ, s, g, env, st, l, h, q => by
    rw [sxE] at q
    obtain ⟨l1, q1, q2⟩ := bindX_ok q
    refine W_lst.mpr ((xEs HC es h q1).bindG fun xs s1 ds st1 g1 m1 le1 h1 hx => ?_)
    obtain ⟨l2, q3, k2⟩ := goX_mem q2 m1
    split at q3
    · rename_i hl
      cases q3
      obtain ⟨a, b⟩ := h1.alloc (o := .lst xs) (c := .lst ds) ⟨ds, rfl, hx⟩
      exact ⟨by rw [← hx.length]; exact hl, _, k2 _ (List.mem_singleton.mpr rfl), _, le1.trans Gh.le_push, a, b⟩
    · cases q3
  | .dic ks es, δ, s, g, env, st, l, h, q => by
    rw [sxE] at q
    obtain ⟨l1, q1, q2⟩ := bindX_ok q
    refine W_dic.mpr ((xEs HC es h q1).bindG fun xs s1 ds st1 g1 m1 le1 h1 hx => ?_)
    obtain ⟨l2, q3, k2⟩ := goX_mem q2 m1
    split at q3
    · rename_i hl
      cases q3
      obtain ⟨a, b⟩ := h1.alloc (ofKV hl.1 hx [] [] ⟨[], rfl, rfl⟩)
      exact ⟨by rw [← hx.length]; exact hl, _, k2 _ (List.mem_singleton.mpr rfl), _, le1.trans Gh.le_push, a, b⟩
    · cases q3
  | .call f es, δ, s, g, env, st, l, h, q => by
    rw [sxE] at q
    obtain ⟨l1, q1, q2⟩ := bindX_ok q
    refine W_call.mpr ((xEs HC es h q1).bindG fun xs s1 ds st1 g1 m1 le1 h1 hx => ?_)
    obtain ⟨l2, q3, k2⟩ := goX_mem q2 m1
    obtain ⟨l0, q0⟩ := joinV_some q3
    rw [q0] at q3
    refine (HC f xs s1 δ g1 env st1 ds l0 h1 hx q0).mono fun d st' hp => ?_
    exact (joinV_ok h.h.sl h.h.len (hp.up le1 fun _ hp => hp) q3).up Gh.le.refl k2
  | .callK f es ks ix, δ, s, g, env, st, l, h, q => by
    rw [sxE] at q
    obtain ⟨l1, q1, q2⟩ := bindX_ok q
    refine W_callK.mpr ((xEs HC es h q1).bindG fun xs s1 ds st1 g1 m1 le1 h1 hx => ?_)
    obtain ⟨l2, q3, k2⟩ := goX_mem q2 m1
    obtain ⟨l3, q4, q5⟩ := bindX_ok q3
    refine (xEs HC ks h1 q4).bindG fun ys s2 es' st2 g2 m2 le2 h2 hy => ?_
    obtain ⟨l4, q6, k4⟩ := goX_mem q5 m2
    obtain ⟨l0, q0⟩ := joinV_some q6
    rw [q0] at q6
    refine (HC f _ s2 δ g2 env st2 _ l0 h2 (gams_perm (Gams.append (Gams.mono le2 _ _ hx) hy) ix) q0).mono fun d st' hp => ?_
    exact (joinV_ok h.h.sl h.h.len (hp.up (le1.trans le2) fun _ hp => hp) q6).up Gh.le.refl fun p hp => k2 p (k4 p hp)
  | .blt b es, δ, s, g, env, st, l, h, q => by
    rw [sxE] at q
    obtain ⟨l1, q1, q2⟩ := bindX_ok q
    refine W_blt.mpr ((xEs HC es h q1).bindG fun xs s1 ds st1 g1 m1 le1 h1 hx => ?_)
    obtain ⟨l2, q3, k2⟩ := goX_mem q2 m1
    exact Wd.upG (R := Gam W) (bltS_ok h1 hx (upX_ok q3)) le1 k2
  | .meth m o es, δ, s, g, env, st, l, h, q => by
    rw [sxE] at q
    obtain ⟨l1, q1, q2⟩ := bindX_ok q
    rw [ev]
    simp only [Wd_bind]
    refine ((xE HC o h q1).bindG fun x s1 d st1 g1 m1 le1 h1 hx => ?_)
    obtain ⟨l2, q3, k2⟩ := goX_mem q2 m1
    split at q3
    · cases q3
    rename_i c0 q0
    obtain ⟨l3, q4, q5⟩ := bindX_ok q3
    have hl : isLst d st1 = true := by
      obtain ⟨r, ds, rfl, hr, _⟩ := lcOf_ok h1.h hx q0
      exact X_isLst hr
    rw [if_pos hl, Wd_bind]
    refine (xEs HC es h1 q4).bindG fun ys s2 es' st2 g2 m2 le2 h2 hy => ?_
    obtain ⟨l4, q6, k4⟩ := goX_mem q5 m2
    exact Wd.upG (R := Gam W) (methS_ok h2 (Gam.mono le2 _ _ hx) hy (upX_ok q6)).2 (le1.trans le2) fun p hp => k2 p (k4 p hp)
  | .idx a b, δ, s, g, env, st, l, h, q => by
    rw [sxE] at q
    obtain ⟨l1, q1, q2⟩ := bindX_ok q
    refine W_idx.mpr ((xE HC a h q1).bindG fun x s1 d st1 g1 m1 le1 h1 hx => ?_)
    obtain ⟨l2, q3, k2⟩ := goX_mem q2 m1
    obtain ⟨l3, q4, q5⟩ := bindX_ok q3
    refine (xE HC b h1 q4).bindG fun y s2 e st2 g2 m2 le2 h2 hy => ?_
    obtain ⟨l4, q6, k4⟩ := goX_mem q5 m2
    exact Wd.upG (R := Gam W) (idxS_ok h2 (Gam.mono le2 _ _ hx) hy (upX_ok q6)) (le1.trans le2) fun p hp => k2 p (k4 p hp)
  | .sl a b c, δ, s, g, env, st, l, h, q => by
    rw [sxE] at q
    obtain ⟨l1, q1, q2⟩ := bindX_ok q
    refine W_sl.mpr ((xE HC a h q1).bindG fun x s1 d st1 g1 m1 le1 h1 hx => ?_)
    obtain ⟨l2, q3, k2⟩ := goX_mem q2 m1
    obtain ⟨l3, q4, q5⟩ := bindX_ok q3
    refine (xE HC b h1 q4).bindG fun y s2 e st2 g2 m2 le2 h2 hy => ?_
    obtain ⟨l4, q6, k4⟩ := goX_mem q5 m2
    obtain ⟨l5, q7, q8⟩ := bindX_ok q6
    refine (xE HC c h2 q7).bindG fun z s3 f st3 g3 m3 le3 h3 hz => ?_
    obtain ⟨l6, q9, k6⟩ := goX_mem q8 m3
    exact Wd.upG (R := Gam W) (slS_ok h3 (Gam.mono (le2.trans le3) _ _ hx) (Gam.mono le3 _ _ hy) hz (upX_ok q9)) ((le1.trans le2).trans le3) fun p hp => k2 p (k4 p (k6 p hp))
  | .rev a, δ, s, g, env, st, l, h, q => by
    rw [sxE] at q
    obtain ⟨l1, q1, q2⟩ := bindX_ok q
    refine W_rev.mpr ((xE HC a h q1).bindG fun x s1 d st1 g1 m1 le1 h1 hx => ?_)
    obtain ⟨l2, q3, k2⟩ := goX_mem q2 m1
    exact Wd.upG (R := Gam W) (revS_ok h1 hx (upX_ok q3)) le1 k2
  | .lc own elt t k es c, δ, s, g, env, st, l, h, q => by
    rw [sxE] at q
    obtain ⟨l1, q1, q2⟩ := bindX_ok q
    refine W_lc.mpr ((xEs HC es h q1).bindG fun xs s1 ds st1 g1 m1 le1 h1 hx => ?_)
    obtain ⟨l2, q3, k2⟩ := goX_mem q2 m1
    obtain ⟨l3, q4, q5⟩ := bindX_ok q3
    obtain ⟨src, e1, p, hp, g2, le2, h2, L, hs, hL⟩ := srcS_ok h1 hx (upX_ok q4)
    obtain ⟨l4, q6, k4⟩ := goX_mem q5 (a := p.1) (s := p.2) hp
    obtain ⟨l5, q7, q8⟩ := bindX_ok q6
    obtain ⟨l0, q0⟩ := joinV_some q7
    rw [q0] at q7
    refine ⟨src, e1, ?_⟩
    rw [hL]
    have go := lcS_ok (W := W) (env := env) (δ := δ) (sr := p.1) (src := src) (jt := md.jl) (L := L)
      (step := fun x s3 => bindX (sxA call G md t x (wipeS s3 own)) fun _ s4 => bindX (sxT call G md c s4) fun b s5 => if b then bindX (sxE call G md elt s5) fun y s6 => okX (some y) { s6 with env := s3.env } else okX none { s5 with env := s3.env })
      (cstep := fun d st2 => (asg F G t d (wipeE env own) st2).bind fun env1 st3 => (evT F G c env1 st3).bind fun b st4 => if b then (ev F G elt env1 st4).bind fun y st5 => .ok (some y) st5 else .ok none st4)
      (fun x s3 g3 d st3 l3 h3 hx3 q => by
        obtain ⟨l6, r1, r2⟩ := bindX_ok q
        simp only [Wd_bind]
        refine (xA HC t (h3.wipe own) hx3 r1).mono fun env1 st4 ⟨p4, m4, g4, le4, h4⟩ => ?_
        obtain ⟨l7, r3, k7⟩ := goX_mem r2 (a := p4.1) (s := p4.2) m4
        obtain ⟨l8, r4, r5⟩ := bindX_ok r3
        refine (xT HC c h4 r4).bindG fun b s5 b' st5 g5 m5 le5 h5 hb => ?_
        subst hb
        obtain ⟨l9, r6, k9⟩ := goX_mem r5 m5
        cases b with
        | true =>
          simp only [if_true] at r6 ⊢
          obtain ⟨l10, r7, r8⟩ := bindX_ok r6
          simp only [Wd_bind]
          refine (xE HC elt h5 r7).bindG fun y s6 y' st6 g6 m6 le6 h6 hy => ?_
          obtain ⟨l11, r9, k11⟩ := goX_mem r8 m6
          have le36 : g3.le g6 := (le4.trans le5).trans le6
          exact (PostG.one (R := ROpt W) (a := some y) (b := some y') (Rel2.withEnv h6.h (h3.e.mono le36)) hy r9).up le36 fun p hp => k7 p (k9 p (k11 p hp))
        | false =>
          simp only [Bool.false_eq_true, if_false] at r6 ⊢
          have le35 : g3.le g5 := le4.trans le5
          exact (PostG.one (R := ROpt W) (a := none) (b := none) (Rel2.withEnv h5.h (h3.e.mono le35)) trivial r6).up le35 fun p hp => k7 p (k9 p hp))
      fuelW (L + 1) 0 (.ex []) p.2 g2 [] st1 l0 h2 hs rfl (Nat.zero_le _) (by omega) q0
    refine go.mono fun d st' hp => ?_
    obtain ⟨p5, m5, g5, le5, h5, hy⟩ := joinV_ok h2.h.sl h2.h.len hp q7
    obtain ⟨l6, r1, k6⟩ := goX_mem q8 (a := p5.1) (s := p5.2) m5
    exact (PostG.one (R := Gam W) h5 hy r1).up ((le1.trans le2).trans le5) fun p hp => k2 p (k4 p (k6 p hp))
theorem xEs (HC : CallOk W F call) : ∀ (es : Es) {δ : Nat} {s : SS} {g : Gh} {env : Env} {st : Sto} {l : List (List SV × SS)}, Rel2 W δ s g env st → sxEs call G md es s = .ok l → Wd (evs F G es env st) (PostG W δ (Gams W) l g env)
  | .nil, δ, s, g, env, st, l, h, q => by rw [sxEs] at q; exact W_nil.mpr (PostG.one (R := Gams W) (a := []) h rfl q)
  | .cons e es, δ, s, g, env, st, l, h, q => by
    rw [sxEs] at q
    obtain ⟨l1, q1, q2⟩ := bindX_ok q
    refine W_cons.mpr ((xE HC e h q1).bindG fun x s1 d st1 g1 m1 le1 h1 hx => ?_)
    obtain ⟨l2, q3, k2⟩ := goX_mem q2 m1
    obtain ⟨l3, q4, q5⟩ := bindX_ok q3
    refine (xEs HC es h1 q4).bindG fun ys s2 ds st2 g2 m2 le2 h2 hy => ?_
    obtain ⟨l4, q6, k4⟩ := goX_mem q5 m2
    exact (PostG.one (R := Gams W) (a := x :: ys) h2 ⟨d, ds, rfl, Gam.mono le2 _ _ hx, hy⟩ q6).up (le1.trans le2) fun p hp => k2 p (k4 p hp)
theorem xT (HC : CallOk W F call) : ∀ (t : T) {δ : Nat} {s : SS} {g : Gh} {env : Env} {st : Sto} {l : List (Bool × SS)}, Rel2 W δ s g env st → sxT call G md t s = .ok l → Wd (evT F G t env st) (PostG W δ (fun _ a b => a = b) l g env)
  | .val e, δ, s, g, env, st, l, h, q => by
    rw [sxT] at q
    obtain ⟨l1, q1, q2⟩ := bindX_ok q
    refine W_val.mpr ((xE HC e h q1).bindG fun x s1 d st1 g1 m1 le1 h1 hx => ?_)
    obtain ⟨l2, q3, k2⟩ := goX_mem q2 m1
    obtain ⟨b, e1, k⟩ := truS_ok h1 hx (upX_ok q3)
    exact ⟨b, e1, (asks_post k).up le1 k2⟩
  | .vc op a b, δ, s, g, env, st, l, h, q => by
    rw [sxT] at q
    obtain ⟨l1, q1, q2⟩ := bindX_ok q
    refine W_vc.mpr ((xE HC a h q1).bindG fun x s1 d st1 g1 m1 le1 h1 hx => ?_)
    obtain ⟨l2, q3, k2⟩ := goX_mem q2 m1
    obtain ⟨l3, q4, q5⟩ := bindX_ok q3
    refine (xE HC b h1 q4).bindG fun y s2 e st2 g2 m2 le2 h2 hy => ?_
    obtain ⟨l4, q6, k4⟩ := goX_mem q5 m2
    obtain ⟨b, e1, k⟩ := cmpX_ok h2 (Gam.mono le2 _ _ hx) hy (upX_ok q6)
    exact ⟨b, e1, (asks_post k).up (le1.trans le2) fun p hp => k2 p (k4 p hp)⟩
  | .vc2 op op' a b c, δ, s, g, env, st, l, h, q => by
    rw [sxT] at q
    obtain ⟨l1, q1, q2⟩ := bindX_ok q
    rw [evT]
    simp only [Wd_bind]
    refine ((xE HC a h q1).bindG fun x s1 d st1 g1 m1 le1 h1 hx => ?_)
    obtain ⟨l2, q3, k2⟩ := goX_mem q2 m1
    obtain ⟨l3, q4, q5⟩ := bindX_ok q3
    refine (xE HC b h1 q4).bindG fun y s2 e st2 g2 m2 le2 h2 hy => ?_
    obtain ⟨l4, q6, k4⟩ := goX_mem q5 m2
    obtain ⟨l5, q7, q8⟩ := bindX_ok q6
    obtain ⟨b, e1, s3, m3, h3⟩ := cmpX_ok h2 (Gam.mono le2 _ _ hx) hy (upX_ok q7)
    obtain ⟨l6, q9, k6⟩ := goX_mem q8 m3
    simp only [e1]
    cases b with
    | false =>
      simp only [Bool.false_eq_true, if_false] at q9 ⊢
      exact (PostG.one (R := fun _ a b => a = b) h3 rfl q9).up (le1.trans le2) fun p hp => k2 p (k4 p (k6 p hp))
    | true =>
      simp only [if_true] at q9 ⊢
      obtain ⟨l7, q10, q11⟩ := bindX_ok q9
      simp only [Wd_bind]
      refine (xE HC c h3 q10).bindG fun z s4 f st4 g4 m4 le4 h4 hz => ?_
      obtain ⟨l8, q12, k8⟩ := goX_mem q11 m4
      obtain ⟨b, e2, k⟩ := cmpX_ok h4 (Gam.mono le4 _ _ hy) hz (upX_ok q12)
      exact Wd_lift.mpr ⟨b, e2, (asks_post k).up ((le1.trans le2).trans le4) fun p hp => k2 p (k4 p (k6 p (k8 p hp)))⟩
  | .not t, δ, s, g, env, st, l, h, q => by
    rw [sxT] at q
    obtain ⟨l1, q1, q2⟩ := bindX_ok q
    refine W_not.mpr ((xT HC t h q1).bindG fun b s1 b' st1 g1 m1 le1 h1 hb => ?_)
    subst hb
    obtain ⟨l2, q3, k2⟩ := goX_mem q2 m1
    exact (PostG.one (R := fun _ a b => a = b) h1 rfl q3).up le1 k2
  | .and1 t, δ, s, g, env, st, l, h, q => by rw [sxT] at q; exact W_tand1.mpr (xT HC t h q)
  | .or1 t, δ, s, g, env, st, l, h, q => by rw [sxT] at q; exact W_tor1.mpr (xT HC t h q)
  | .and2 t r, δ, s, g, env, st, l, h, q => by
    rw [sxT] at q
    obtain ⟨l1, q1, q2⟩ := bindX_ok q
    refine W_tand2.mpr ((xT HC t h q1).bindG fun b s1 b' st1 g1 m1 le1 h1 hb => ?_)
    subst hb
    obtain ⟨l2, q3, k2⟩ := goX_mem q2 m1
    cases b with
    | true =>
      simp only [if_true] at q3 ⊢
      exact (xT HC r h1 q3).upG le1 k2
    | false =>
      simp only [Bool.false_eq_true, if_false] at q3 ⊢
      exact (PostG.one (R := fun _ a b => a = b) h1 rfl q3).up le1 k2
  | .or2 t r, δ, s, g, env, st, l, h, q => by
    rw [sxT] at q
    obtain ⟨l1, q1, q2⟩ := bindX_ok q
    refine W_tor2.mpr ((xT HC t h q1).bindG fun b s1 b' st1 g1 m1 le1 h1 hb => ?_)
    subst hb
    obtain ⟨l2, q3, k2⟩ := goX_mem q2 m1
    cases b with
    | true =>
      simp only [if_true] at q3 ⊢
      exact (PostG.one (R := fun _ a b => a = b) h1 rfl q3).up le1 k2
    | false =>
      simp only [Bool.false_eq_true, if_false] at q3 ⊢
      exact (xT HC r h1 q3).upG le1 k2
  | .yes, δ, s, g, env, st, l, h, q => by rw [sxT] at q; exact W_yes.mpr (PostG.one h rfl q)
theorem xA (HC : CallOk W F call) : ∀ (t : Tg) {δ : Nat} {s : SS} {g : Gh} {env : Env} {st : Sto} {x : SV} {d : D} {l : List (Unit × SS)}, Rel2 W δ s g env st → Gam W g x d → sxA call G md t x s = .ok l → Wd (asg F G t d env st) (PostA W δ l g)
  | .name i, δ, s, g, env, st, x, d, l, h, hx, q => by
    rw [sxA] at q
    unfold okX at q; cases q
    refine W_name.mpr ?_
    have h1 := h.setE (i := i) hx
    by_cases hi : i < env.length
    · have he : (env.set i (some d))[i]? = some (some d) := List.getElem?_set_self hi
      obtain ⟨g', a, b, c⟩ := nameE_ok h1 (nm := md.nm) he hx
      exact ⟨_, List.mem_singleton.mpr rfl, g', a, b⟩
    · refine ⟨_, List.mem_singleton.mpr rfl, ?_⟩
      have hi2 : ¬ i < s.env.length := by rw [h.e.1]; exact hi
      have e1 : env.set i (some d) = env := List.set_eq_of_length_le (by omega)
      rw [e1]
      unfold nameE
      split
      · cases e : nameV (s.setE i x).doms x with
        | mk y ds =>
          obtain ⟨g', a, b, c⟩ := nameV_ok x h1.h hx e
          refine ⟨g', a, Rel2.withEnv b ?_⟩
          have : ((s.setE i x).env.set i (some y)) = s.env := by
            unfold SS.setE; simp only
            rw [List.set_eq_of_length_le (by simp; omega), List.set_eq_of_length_le (by omega)]
          rw [this]
          exact h.e.mono a
      · rw [e1] at h1
        exact ⟨g, Gh.le.refl, h1⟩
  | .tup ts, δ, s, g, env, st, x, d, l, h, hx, q => by
    rw [sxA] at q
    split at q
    · rename_i xs q1
      obtain ⟨ds, e1, hxs⟩ := partsS_ok h.h hx q1
      exact W_tgt.mpr ⟨ds, e1, xAs HC ts h hxs q⟩
    · cases q
  | .sub o i, δ, s, g, env, st, x, d, l, h, hx, q => by
    rw [sxA] at q
    obtain ⟨l1, q1, q2⟩ := bindX_ok q
    refine W_tgsub.mpr ((xE HC o h q1).bindG fun y s1 e st1 g1 m1 le1 h1 hy => ?_)
    obtain ⟨l2, q3, k2⟩ := goX_mem q2 m1
    obtain ⟨l3, q4, q5⟩ := bindX_ok q3
    refine (xE HC i h1 q4).bindG fun z s2 f st2 g2 m2 le2 h2 hz => ?_
    obtain ⟨l4, q6, k4⟩ := goX_mem q5 m2
    obtain ⟨st', e1, p, hp, h3⟩ := setS_ok h2 (Gam.mono le2 _ _ hy) hz (Gam.mono (le1.trans le2) _ _ hx) (upX_ok q6)
    exact ⟨st', e1, p, k2 p (k4 p hp), g2, le1.trans le2, h3⟩
theorem xAs (HC : CallOk W F call) : ∀ (ts : Tgs) {δ : Nat} {s : SS} {g : Gh} {env : Env} {st : Sto} {xs : List SV} {ds : List D} {l : List (Unit × SS)}, Rel2 W δ s g env st → Gams W g xs ds → sxAs call G md ts xs s = .ok l → Wd (asgs F G ts ds env st) (PostA W δ l g)
  | .nil, δ, s, g, env, st, [], ds, l, h, hx, q => by
    rw [Gams] at hx; subst hx
    rw [sxAs] at q
    unfold okX at q; cases q
    exact W_tgnil.mpr ⟨_, List.mem_singleton.mpr rfl, g, Gh.le.refl, h⟩
  | .nil, δ, s, g, env, st, x :: xs, ds, l, h, hx, q => by simp [sxAs] at q
  | .cons t ts, δ, s, g, env, st, [], ds, l, h, hx, q => by simp [sxAs] at q
  | .cons t ts, δ, s, g, env, st, x :: xs, ds, l, h, hx, q => by
    rw [Gams] at hx
    obtain ⟨d, ds', rfl, h1, h2⟩ := hx
    rw [sxAs] at q
    obtain ⟨l1, q1, q2⟩ := bindX_ok q
    refine W_tgcons.mpr ((xA HC t h h1 q1).mono fun env1 st1 ⟨p, m1, g1, le1, h3⟩ => ?_)
    obtain ⟨l2, q3, k2⟩ := goX_mem q2 (a := p.1) (s := p.2) m1
    exact (xAs HC ts h3 (Gams.mono le1 _ _ h2) q3).mono fun _ _ hp => hp.up le1 k2
end
end
end PL

set_option Elab.async false
set_option linter.all false
set_option maxRecDepth 100000
set_option maxHeartbeats 4000000
/-! SXR: statements and defs. -/
namespace PL
open PySem L2
section
variable {W : Wo} {F : Nat → List D → Sto → Res D} {G : List D} {call : Nat → List SV → SS → SX SV} {md : Md}
theorem tagX_ok {α : Type} {n : Nat} {m : SX α} {l : List (α × SS)} (h : tagX n m = .ok l) : m = .ok l := by
  unfold tagX at h
  split at h
  · cases h
  · exact h
theorem tagF_ok {α : Type} {n : Nat} {m : SX α} {l : List (α × SS)} (h : tagF n m = .ok l) : m = .ok l := by
  unfold tagF at h
  split at h
  · cases h
  · exact h
theorem PostS.one {δ : Nat} {g : Gh} {s : SS} {st : Sto} {env : Env} {l : List (SO × SS)} (h : Rel2 W δ s g env st) (q : okX .next s = .ok l) : PostS W δ l g (.next env) st := by
  unfold okX at q; cases q
  exact PostS.next h (List.mem_singleton.mpr rfl)
mutual
theorem xS (HC : CallOk W F call) : ∀ (c : S) {δ : Nat} {s : SS} {g : Gh} {env : Env} {st : Sto} {l : List (SO × SS)}, Rel2 W δ s g env st → sxS call G md c s = .ok l → Wd (ex F G c env st) (PostS W δ l g)
  | .asg t e, δ, s, g, env, st, l, h, q => by
    rw [sxS] at q
    obtain ⟨l1, q1, q2⟩ := bindX_ok q
    refine W_asg.mpr ((xE HC e h q1).bindG fun x s1 d st1 g1 m1 le1 h1 hx => ?_)
    obtain ⟨l2, q3, k2⟩ := goX_mem q2 m1
    obtain ⟨l3, q4, q5⟩ := bindX_ok q3
    refine (xA HC t h1 hx q4).mono fun env1 st2 ⟨p, m2, g2, le2, h2⟩ => ?_
    obtain ⟨l4, q6, k4⟩ := goX_mem q5 (a := p.1) (s := p.2) m2
    exact (PostS.one h2 q6).up (le1.trans le2) fun p hp => k2 p (k4 p hp)
  | .asgC i own elt t k es c, δ, s, g, env, st, l, h, q => by
    rw [sxS] at q
    obtain ⟨l1, q1, q2⟩ := bindX_ok q
    refine W_asgC.mpr ((xE HC (.lc own elt t k es c) h q1).bindG fun x s1 d st1 g1 m1 le1 h1 hx => ?_)
    obtain ⟨l2, q3, k2⟩ := goX_mem q2 m1
    exact (PostS.one (h1.setE hx) q3).up le1 k2
  | .par is es, δ, s, g, env, st, l, h, q => by
    rw [sxS] at q
    obtain ⟨l1, q1, q2⟩ := bindX_ok q
    refine W_par.mpr ((xEs HC es h q1).bindG fun xs s1 ds st1 g1 m1 le1 h1 hx => ?_)
    obtain ⟨l2, q3, k2⟩ := goX_mem q2 m1
    split at q3
    · rename_i hl
      exact ⟨by rw [← hx.length]; exact hl, (PostS.one (setAllS_ok is xs ds h1 hx) q3).up le1 k2⟩
    · cases q3
  | .exp e, δ, s, g, env, st, l, h, q => by
    rw [sxS] at q
    obtain ⟨l1, q1, q2⟩ := bindX_ok q
    refine W_exp.mpr ((xE HC e h q1).bindG fun x s1 d st1 g1 m1 le1 h1 hx => ?_)
    obtain ⟨l2, q3, k2⟩ := goX_mem q2 m1
    exact (PostS.one h1 q3).up le1 k2
  | .ret e, δ, s, g, env, st, l, h, q => by
    rw [sxS] at q
    obtain ⟨l1, q1, q2⟩ := bindX_ok q
    refine W_ret.mpr ((xE HC e h q1).bindG fun x s1 d st1 g1 m1 le1 h1 hx => ?_)
    obtain ⟨l2, q3, k2⟩ := goX_mem q2 m1
    unfold okX at q3; cases q3
    exact ⟨_, k2 _ (List.mem_singleton.mpr rfl), g1, le1, h1.h, hx⟩
  | .retN, δ, s, g, env, st, l, h, q => by
    rw [sxS] at q
    rw [ex]
    unfold okX at q; cases q
    exact ⟨_, List.mem_singleton.mpr rfl, g, Gh.le.refl, h.h, by rw [Gam]⟩
  | .ite c a b, δ, s, g, env, st, l, h, q => by
    rw [sxS] at q
    obtain ⟨l0, q0⟩ := joinO_some q
    rw [q0] at q
    obtain ⟨l1, q1, q2⟩ := bindX_ok q0
    have : Wd (ex F G (.ite c a b) env st) (PostS W δ l0 g) := by
      refine W_if.mpr ((xT HC c h q1).bindG fun k s1 k' st1 g1 m1 le1 h1 hk => ?_)
      subst hk
      obtain ⟨l2, q3, k2⟩ := goX_mem q2 m1
      cases k with
      | true =>
        simp only [if_true] at q3 ⊢
        exact (xSs HC 0 a h1 q3).upS le1 k2
      | false =>
        simp only [Bool.false_eq_true, if_false] at q3 ⊢
        exact (xSs HC 0 b h1 q3).upS le1 k2
    exact this.mono fun d st' hp => joinO_ok h.h.sl h.h.len hp q
  | .for_ t k es body, δ, s, g, env, st, l, h, q => by
    rw [sxS] at q
    obtain ⟨l0, q0⟩ := joinO_some q
    rw [q0] at q
    obtain ⟨l1, q1, q2⟩ := bindX_ok q0
    have : Wd (ex F G (.for_ t k es body) env st) (PostS W δ l0 g) := by
      refine W_for.mpr ((xEs HC es h q1).bindG fun xs s1 ds st1 g1 m1 le1 h1 hx => ?_)
      obtain ⟨l2, q3, k2⟩ := goX_mem q2 m1
      obtain ⟨l3, q4, q5⟩ := bindX_ok q3
      obtain ⟨src, e1, p, hp, g2, le2, h2, L, hs, hL⟩ := srcS_ok h1 hx (upX_ok q4)
      obtain ⟨l4, q6, k4⟩ := goX_mem q5 (a := p.1) (s := p.2) hp
      refine ⟨src, e1, ?_⟩
      rw [hL]
      have hstep : ∀ (δ : Nat) (x : SV) (s : SS) (g : Gh) (d : D) (env : Env) (st : Sto) (l : List (SO × SS)), Rel2 W δ s g env st → Gam W g x d →
          (bindX (sxA call G md t x s) fun _ s4 => sxSs call G md 0 body s4) = .ok l → Wd ((asg F G t d env st).bind fun env1 st1 => exs F G body env1 st1) (PostS W δ l g) := by
        intro δ x s3 g3 d env3 st3 l5 h3 hx3 r
        obtain ⟨l6, r1, r2⟩ := bindX_ok r
        simp only [Wd_bind]
        refine (xA HC t h3 hx3 r1).mono fun env1 st4 ⟨p4, m4, g4, le4, h4⟩ => ?_
        obtain ⟨l7, r3, k7⟩ := goX_mem r2 (a := p4.1) (s := p4.2) m4
        exact (xSs HC 0 body h4 r3).upS le4 k7
      split at q6
      · exact (forI_ok hstep h2 hs q6).upS (le1.trans le2) fun p hp => k2 p (k4 p hp)
      · exact (forS_ok (fun x s g d env st l => hstep δ x s g d env st l) fuelW (L + 1) 0 p.2 g2 env st1 l4 h2 hs (Nat.zero_le _) (by omega) q6).upS (le1.trans le2) fun p hp => k2 p (k4 p hp)
    exact this.mono fun d st' hp => joinO_ok h.h.sl h.h.len hp q
  | .whl c body, δ, s, g, env, st, l, h, q => by
    rw [sxS] at q
    obtain ⟨l0, q0⟩ := joinO_some q
    rw [q0] at q
    rw [ex]
    have := whlS_ok (W := W) (δ := δ) (ct := evT F G c) (cb := exs F G body) (fun s g env st l h q => xT HC c h q) (fun s g env st l h q => xSs HC 0 body h q) fuelW whileMost s g env st l0 (by decide) h q0
    exact this.mono fun d st' hp => joinO_ok h.h.sl h.h.len hp q
  | .brk, δ, s, g, env, st, l, h, q => by
    rw [sxS] at q; rw [ex]
    unfold okX at q; cases q
    exact ⟨_, List.mem_singleton.mpr rfl, g, Gh.le.refl, h⟩
  | .cnt, δ, s, g, env, st, l, h, q => by
    rw [sxS] at q; rw [ex]
    unfold okX at q; cases q
    exact ⟨_, List.mem_singleton.mpr rfl, g, Gh.le.refl, h⟩
  | .pass, δ, s, g, env, st, l, h, q => by
    rw [sxS] at q; rw [ex]
    exact PostS.one h q
  | .never, δ, s, g, env, st, l, h, q => by rw [sxS] at q; cases q
theorem xSs (HC : CallOk W F call) : ∀ (n : Nat) (cs : Ss) {δ : Nat} {s : SS} {g : Gh} {env : Env} {st : Sto} {l : List (SO × SS)}, Rel2 W δ s g env st → sxSs call G md n cs s = .ok l → Wd (exs F G cs env st) (PostS W δ l g)
  | n, .nil, δ, s, g, env, st, l, h, q => by
    rw [sxSs] at q
    exact W_snil.mpr (PostS.one h q)
  | n, .cons c cs, δ, s, g, env, st, l, h, q => by
    rw [sxSs] at q
    obtain ⟨l1, q1, q2⟩ := bindX_ok q
    refine W_scons.mpr ((xS HC c h (tagX_ok q1)).mono fun o st1 ⟨p, m1, g1, le1, h1⟩ => ?_)
    obtain ⟨l2, q3, k2⟩ := goX_mem q2 (a := p.1) (s := p.2) m1
    obtain ⟨so, s1⟩ := p
    have other : ∀ {o : Out}, OutR W δ g1 so s1 o st1 → okX so s1 = .ok l2 → PostS W δ l g o st1 := by
      intro o h1 q3
      unfold okX at q3; cases q3
      exact ⟨_, k2 _ (List.mem_singleton.mpr rfl), g1, le1, h1⟩
    cases o with
    | next env1 =>
      cases so <;> first | exact h1.elim | skip
      exact (xSs HC (n + 1) cs h1 q3).upS le1 k2
    | brk env1 =>
      cases so <;> first | exact h1.elim | skip
      exact other h1 q3
    | cnt env1 =>
      cases so <;> first | exact h1.elim | skip
      exact other h1 q3
    | ret d =>
      cases so <;> first | exact h1.elim | skip
      exact other h1 q3
end
end
section
variable {W : Wo} {δ : Nat} {g : Gh} {s : SS} {env : Env} {st : Sto}
theorem retS_ok {env0 : Env} {se : List (Option SV)} (he : EnvR W g se env0) : ∀ {l : List (SO × SS)} {l' : List (SV × SS)} {o : Out}, retS se l = .ok l' → PostS W δ l g o st → Back (fun d st => PostG W δ (Gam W) l' g env0 d st) o st
  | [], l', o, q, h => by obtain ⟨p, hp, _⟩ := h; cases hp
  | (so, s) :: r, l', o, q, h => by
    obtain ⟨p, hp, g1, le1, h1⟩ := h
    have rest : ∀ {l2}, retS se r = .ok l2 → p ∈ r → (∀ q ∈ l2, q ∈ l') → Back (fun d st => PostG W δ (Gam W) l' g env0 d st) o st := by
      intro l2 q2 hm k
      have := retS_ok he q2 ⟨p, hm, g1, le1, h1⟩
      cases o <;> first | exact PostG.up this Gh.le.refl k | exact this
    cases so with
    | next =>
      rw [retS] at q
      split at q
      · rename_i l2 q2
        cases q
        rcases List.mem_cons.mp hp with z | hp
        · subst z
          cases o <;> first | exact h1.elim | skip
          exact ⟨_, List.mem_cons_self, g1, le1, Rel2.withEnv h1.h (he.mono le1), by rw [Gam]⟩
        · exact rest q2 hp fun q hq => List.mem_cons_of_mem _ hq
      · cases q
    | ret x =>
      rw [retS] at q
      split at q
      · rename_i l2 q2
        cases q
        rcases List.mem_cons.mp hp with z | hp
        · subst z
          cases o <;> first | exact h1.elim | skip
          exact ⟨_, List.mem_cons_self, g1, le1, Rel2.withEnv h1.1 (he.mono le1), h1.2⟩
        · exact rest q2 hp fun q hq => List.mem_cons_of_mem _ hq
      · cases q
    | brk => rw [retS] at q <;> first | cases q | (intros; contradiction) | (intro _ _ z; cases z) | (intro _ z; cases z)
    | cnt => rw [retS] at q <;> first | cases q | (intros; contradiction) | (intro _ _ z; cases z) | (intro _ z; cases z)
theorem xlV_ok {x : SV} {d : D} (hx : Gam W g x d) : ∃ y ∈ xlV s x, Gam W g y d := by
  unfold xlV
  split
  · rename_i lo hi x
    split
    · rw [Gam] at hx
      obtain ⟨r, ds, rfl, hp, hl, hx⟩ := hx
      exact ⟨_, List.mem_map.mpr ⟨ds.length - lo, List.mem_range.mpr (by omega), rfl⟩, by rw [Gam]; exact ⟨r, ds, rfl, hp, by omega, hx⟩⟩
    · exact ⟨_, List.mem_singleton.mpr rfl, hx⟩
  · rename_i lo hi x
    split
    · rw [Gam] at hx
      obtain ⟨ds, rfl, hl, hx⟩ := hx
      exact ⟨_, List.mem_map.mpr ⟨ds.length - lo, List.mem_range.mpr (by omega), rfl⟩, by rw [Gam]; exact ⟨ds, rfl, by omega, hx⟩⟩
    · exact ⟨_, List.mem_singleton.mpr rfl, hx⟩
  · exact ⟨x, List.mem_singleton.mpr rfl, hx⟩
theorem HRel.narrow (h : HRel W δ s g st) {k r : Nat} {o : AO} {c : Ob} (hk : g.ro[k]? = some r) (hs : st[r]? = some c) (hng : s.heap[k]? ≠ some .gone) (ho : AOR W g o c) : HRel W δ (s.setH k o) g st := by
  have := h.setH hk hng ho
  have e : st.set r c = st := by
    apply List.ext_getElem?
    intro j
    by_cases hj : r = j
    · subst hj
      rw [List.getElem?_set_self (List.getElem?_eq_some_iff.mp hs).1, hs]
    · rw [List.getElem?_set_ne hj]
  rw [e] at this; exact this
theorem xlS_ok : ∀ (xs : List SV) {s : SS} {ds : List D}, HRel W δ s g st → Gams W g xs ds → ∃ p ∈ xlS s xs, HRel W δ p.2 g st ∧ p.2.env = s.env ∧ Gams W g p.1 ds
  | [], s, ds, h, hx => ⟨_, List.mem_singleton.mpr rfl, h, rfl, hx⟩
  | x :: xs, s, ds, h, hx => by
    rw [Gams] at hx
    obtain ⟨d, ds', rfl, h1, h2⟩ := hx
    have plain : ∀ {s' : SS} {y : SV}, HRel W δ s' g st → s'.env = s.env → Gam W g y d → ∃ p ∈ (xlS s' xs).map (fun p => (y :: p.1, p.2)), HRel W δ p.2 g st ∧ p.2.env = s.env ∧ Gams W g p.1 (d :: ds') := by
      intro s' y h' he hy
      obtain ⟨p, a, b, c, e⟩ := xlS_ok xs h' h2
      exact ⟨_, List.mem_map.mpr ⟨p, a, rfl⟩, b, c.trans he, ⟨d, ds', rfl, hy, e⟩⟩
    cases x with
    | own k =>
      rw [xlS]
      split
      · rename_i lo hi x q
        split
        · have h1' := h1
          rw [Gam] at h1'
          obtain ⟨r, rfl, hr⟩ := h1'
          obtain ⟨c, hc, es, rfl, hl, hes⟩ := h.obs k _ r q hr
          obtain ⟨p, a, b⟩ := plain (s' := s.setH k (.lstOf es.length es.length x)) (h.narrow hr hc (by rw [q]; simp) ⟨es, rfl, by omega, hes⟩) rfl h1
          refine ⟨p, List.mem_flatMap.mpr ⟨es.length, List.mem_map.mpr ⟨es.length - lo, List.mem_range.mpr (by omega), by omega⟩, a⟩, b⟩
        · exact plain h rfl h1
      · exact plain h rfl h1
    | c _ => rw [xlS] <;> first | (obtain ⟨y, hy, hy2⟩ := xlV_ok (s := s) h1; obtain ⟨p, a, b⟩ := plain h rfl hy2; exact ⟨p, List.mem_flatMap.mpr ⟨y, hy, a⟩, b⟩) | (intros; contradiction)
    | v _ => rw [xlS] <;> first | (obtain ⟨y, hy, hy2⟩ := xlV_ok (s := s) h1; obtain ⟨p, a, b⟩ := plain h rfl hy2; exact ⟨p, List.mem_flatMap.mpr ⟨y, hy, a⟩, b⟩) | (intros; contradiction)
    | one _ => rw [xlS] <;> first | (obtain ⟨y, hy, hy2⟩ := xlV_ok (s := s) h1; obtain ⟨p, a, b⟩ := plain h rfl hy2; exact ⟨p, List.mem_flatMap.mpr ⟨y, hy, a⟩, b⟩) | (intros; contradiction)
    | int _ _ => rw [xlS] <;> first | (obtain ⟨y, hy, hy2⟩ := xlV_ok (s := s) h1; obtain ⟨p, a, b⟩ := plain h rfl hy2; exact ⟨p, List.mem_flatMap.mpr ⟨y, hy, a⟩, b⟩) | (intros; contradiction)
    | tup _ => rw [xlS] <;> first | (obtain ⟨y, hy, hy2⟩ := xlV_ok (s := s) h1; obtain ⟨p, a, b⟩ := plain h rfl hy2; exact ⟨p, List.mem_flatMap.mpr ⟨y, hy, a⟩, b⟩) | (intros; contradiction)
    | tupOf _ _ _ => rw [xlS] <;> first | (obtain ⟨y, hy, hy2⟩ := xlV_ok (s := s) h1; obtain ⟨p, a, b⟩ := plain h rfl hy2; exact ⟨p, List.mem_flatMap.mpr ⟨y, hy, a⟩, b⟩) | (intros; contradiction)
    | lst _ => rw [xlS] <;> first | (obtain ⟨y, hy, hy2⟩ := xlV_ok (s := s) h1; obtain ⟨p, a, b⟩ := plain h rfl hy2; exact ⟨p, List.mem_flatMap.mpr ⟨y, hy, a⟩, b⟩) | (intros; contradiction)
    | lstOf _ _ _ => rw [xlS] <;> first | (obtain ⟨y, hy, hy2⟩ := xlV_ok (s := s) h1; obtain ⟨p, a, b⟩ := plain h rfl hy2; exact ⟨p, List.mem_flatMap.mpr ⟨y, hy, a⟩, b⟩) | (intros; contradiction)
    | un _ => rw [xlS] <;> first | (obtain ⟨y, hy, hy2⟩ := xlV_ok (s := s) h1; obtain ⟨p, a, b⟩ := plain h rfl hy2; exact ⟨p, List.mem_flatMap.mpr ⟨y, hy, a⟩, b⟩) | (intros; contradiction)
    | rep _ => rw [xlS] <;> first | (obtain ⟨y, hy, hy2⟩ := xlV_ok (s := s) h1; obtain ⟨p, a, b⟩ := plain h rfl hy2; exact ⟨p, List.mem_flatMap.mpr ⟨y, hy, a⟩, b⟩) | (intros; contradiction)
    | bag => rw [xlS] <;> first | (obtain ⟨y, hy, hy2⟩ := xlV_ok (s := s) h1; obtain ⟨p, a, b⟩ := plain h rfl hy2; exact ⟨p, List.mem_flatMap.mpr ⟨y, hy, a⟩, b⟩) | (intros; contradiction)
    | pr _ => rw [xlS] <;> first | (obtain ⟨y, hy, hy2⟩ := xlV_ok (s := s) h1; obtain ⟨p, a, b⟩ := plain h rfl hy2; exact ⟨p, List.mem_flatMap.mpr ⟨y, hy, a⟩, b⟩) | (intros; contradiction)
    | any => rw [xlS] <;> first | (obtain ⟨y, hy, hy2⟩ := xlV_ok (s := s) h1; obtain ⟨p, a, b⟩ := plain h rfl hy2; exact ⟨p, List.mem_flatMap.mpr ⟨y, hy, a⟩, b⟩) | (intros; contradiction)
theorem start_env {xs : List SV} {ds : List D} (h : Gams W g xs ds) {n : Nat} : EnvR W g (xs.map some ++ List.replicate n none) (ds.map some ++ List.replicate n none) := by
  have hl := h.length
  refine ⟨by simp [hl], fun i x e => ?_⟩
  by_cases hi : i < xs.length
  · rw [List.getElem?_append_left (by simpa using hi), List.getElem?_map] at e
    obtain ⟨y, e1, e2⟩ := Option.map_eq_some_iff.mp e
    cases e2
    obtain ⟨d, a, b⟩ := h.get e1
    exact ⟨d, by rw [List.getElem?_append_left (by rw [List.length_map]; omega), List.getElem?_map, a]; rfl, b⟩
  · rw [List.getElem?_append_right (by simpa using hi)] at e
    by_cases h2 : i - (xs.map some).length < n
    · rw [List.getElem?_replicate_of_lt h2] at e; cases e
    · rw [List.getElem?_eq_none (by simpa using h2)] at e; cases e
/-- what is known to be told of defs holds, from a depth on -/
def KOk (W : Wo) (c : Cf) (C : Nat → Option (List D → Sto → Res D)) (n0 : Nat) : Prop :=
  (∀ f xs s, c.K f xs s = none → C f = none) ∧ ∀ (n f : Nat) (xs : List SV) (s : SS) (δ : Nat) (g : Gh) (env : Env) (st : Sto) (ds : List D) (l : List (SV × SS)), Rel2 W δ s g env st → Gams W g xs ds → c.K f xs s = some (.ok l) → Wd (runC c.P c.G C (n0 + n) f ds st) (PostG W δ (Gam W) l g env)
theorem xF {c : Cf} {C : Nat → Option (List D → Sto → Res D)} {n0 : Nat} (HK : KOk W c C n0) : ∀ (n : Nat), CallOk W (runC c.P c.G C (n0 + n)) (sxF c n)
  | 0 => fun f xs s δ g env st ds l h hx q => by
    rw [sxF] at q
    split at q
    · rename_i r q1
      subst q
      exact HK.2 0 f xs s δ g env st ds l h hx q1
    · cases q
  | n + 1 => fun f xs s δ g env st ds l h hx q => by
    rw [sxF] at q
    split at q
    · rename_i r q1
      subst q
      exact HK.2 (n + 1) f xs s δ g env st ds l h hx q1
    · rename_i q1
      split at q
      · cases q
      · rename_i fn q2
        split at q
        · rename_i hl
          have q := tagF_ok q
          obtain ⟨l0, q0⟩ := joinV_some q
          rw [q0] at q
          obtain ⟨l1, q3, q4⟩ := bindX_ok q0
          have hmem : ∃ p ∈ l1, HRel W δ p.2 g st ∧ p.2.env = s.env ∧ Gams W g p.1 ds := by
            cases q3
            split
            · exact xlS_ok xs h.h hx
            · exact ⟨_, List.mem_singleton.mpr rfl, h.h, rfl, hx⟩
          obtain ⟨p, hp, hr, he, hxs⟩ := hmem
          obtain ⟨l2, q5, k⟩ := goX_mem q4 (a := p.1) (s := p.2) hp
          try simp only at q5
          split at q5
          · cases q5
          · rename_i l3 q6
            have hb : Wd (runC c.P c.G C (n0 + (n + 1)) f ds st) (PostG W δ (Gam W) l0 g env) := by
              refine W_def (n := n0 + n) (HK.1 f xs s q1) q2 (by rw [← hx.length]; exact hl) ?_
              have hb := xSs (xF HK n) 0 fn.body (Rel2.withEnv hr (start_env hxs (n := fn.ns - fn.np))) q6
              refine hb.mono fun o st1 hp => ?_
              have := retS_ok (h.e) q5 hp
              cases o <;> first | exact PostG.up this Gh.le.refl k | exact this
            exact hb.mono fun d st' hp => joinV_ok h.h.sl h.h.len hp q
        · cases q
end
end PL

set_option Elab.async false
set_option linter.all false
set_option maxRecDepth 100000
set_option maxHeartbeats 4000000
/-! SXS: what defs are known to tell; draws. -/
namespace PL
open PySem L2
/-- another frame around -/
def Wo.re (W : Wo) (base : Nat) (Fr Ph : Nat → Ob → Prop) : Wo := ⟨W.bagr, W.foot, W.B, W.Pr, base, Fr, Ph, W.Bmono, W.Bkeep, W.Bfoot, W.PrS⟩
section
variable {W W' : Wo} {δ : Nat} {g g' : Gh} {s : SS} {env : Env} {st : Sto}
mutual
theorem GP.wo : ∀ (x : PX) {p : PyData}, GP W g x p → GP W' g x p
  | .c _, p, h => by rw [GP] at h ⊢; exact h
  | .v _, p, h => by rw [GP] at h ⊢; exact h
  | .one _, p, h => by rw [GP] at h ⊢; exact h
  | .int _ _, p, h => by rw [GP] at h ⊢; exact h
  | .tup xs, p, h => by rw [GP] at h ⊢; obtain ⟨ps, a, b⟩ := h; exact ⟨ps, a, GPs.wo xs b⟩
  | .lst xs, p, h => by rw [GP] at h ⊢; obtain ⟨ps, a, b⟩ := h; exact ⟨ps, a, GPs.wo xs b⟩
theorem GPs.wo : ∀ (xs : List PX) {ps : List PyData}, GPs W g xs ps → GPs W' g xs ps
  | [], _, h => by rw [GPs] at h ⊢; exact h
  | x :: xs, _, h => by rw [GPs] at h ⊢; obtain ⟨p, ps, a, b, c⟩ := h; exact ⟨p, ps, a, GP.wo x b, GPs.wo xs c⟩
end
mutual
theorem Gam.wo (e1 : W.bagr = W'.bagr) (e2 : W.Pr = W'.Pr) : ∀ (x : SV) {d : D}, Gam W g x d → Gam W' g x d
  | .c _, _, h => by rw [Gam] at h ⊢; exact h
  | .v i, d, h => by rw [Gam] at h ⊢; exact h
  | .one _, _, h => by rw [Gam] at h ⊢; exact h
  | .int _ _, _, h => by rw [Gam] at h ⊢; exact h
  | .tup xs, _, h => by rw [Gam] at h ⊢; obtain ⟨ds, a, b⟩ := h; exact ⟨ds, a, Gams.wo e1 e2 xs b⟩
  | .tupOf lo hi x, _, h => by rw [Gam] at h ⊢; obtain ⟨ds, a, b, c⟩ := h; exact ⟨ds, a, b, fun e he => Gam.wo e1 e2 x (c e he)⟩
  | .lst xs, _, h => by rw [Gam] at h ⊢; obtain ⟨r, ds, a, p, b⟩ := h; exact ⟨r, ds, a, p, Gams.wo e1 e2 xs b⟩
  | .lstOf lo hi x, _, h => by rw [Gam] at h ⊢; obtain ⟨r, ds, a, p, b, c⟩ := h; exact ⟨r, ds, a, p, b, fun e he => Gam.wo e1 e2 x (c e he)⟩
  | .own k, _, h => by rw [Gam] at h ⊢; exact h
  | .un xs, d, h => by rw [Gam] at h ⊢; exact GamU.wo e1 e2 xs h
  | .rep x, _, h => by rw [Gam] at h ⊢; obtain ⟨p, a, b⟩ := h; exact ⟨p, a, GP.wo x b⟩
  | .bag, _, h => by rw [Gam] at h ⊢; rw [← e1]; exact h
  | .pr _, _, h => by rw [Gam] at h ⊢; rw [← e2]; exact h
  | .any, _, h => by rw [Gam]; trivial
theorem Gams.wo (e1 : W.bagr = W'.bagr) (e2 : W.Pr = W'.Pr) : ∀ (xs : List SV) {ds : List D}, Gams W g xs ds → Gams W' g xs ds
  | [], _, h => by rw [Gams] at h ⊢; exact h
  | x :: xs, _, h => by rw [Gams] at h ⊢; obtain ⟨p, ps, a, b, c⟩ := h; exact ⟨p, ps, a, Gam.wo e1 e2 x b, Gams.wo e1 e2 xs c⟩
theorem GamU.wo (e1 : W.bagr = W'.bagr) (e2 : W.Pr = W'.Pr) : ∀ (xs : List SV) {d : D}, GamU W g xs d → GamU W' g xs d
  | [], _, h => by rw [GamU] at h; exact h.elim
  | x :: xs, d, h => by
    rw [GamU] at h ⊢
    rcases h with h | h
    · exact .inl (Gam.wo e1 e2 x h)
    · exact .inr (GamU.wo e1 e2 xs h)
end
mutual
theorem GP.shut : ∀ (x : PX) {p : PyData}, inQ 0 x = true → GP W g x p → GP W g' x p
  | .c _, p, _, h => by rw [GP] at h ⊢; exact h
  | .v _, p, q, h => by simp [inQ] at q
  | .one _, p, _, h => by rw [GP] at h ⊢; exact h
  | .int _ _, p, _, h => by rw [GP] at h ⊢; exact h
  | .tup xs, p, q, h => by rw [inQ] at q; rw [GP] at h ⊢; obtain ⟨ps, a, b⟩ := h; exact ⟨ps, a, GPs.shut xs q b⟩
  | .lst xs, p, q, h => by rw [inQ] at q; rw [GP] at h ⊢; obtain ⟨ps, a, b⟩ := h; exact ⟨ps, a, GPs.shut xs q b⟩
theorem GPs.shut : ∀ (xs : List PX) {ps : List PyData}, inQs 0 xs = true → GPs W g xs ps → GPs W g' xs ps
  | [], _, _, h => by rw [GPs] at h ⊢; exact h
  | x :: xs, _, q, h => by rw [inQs, Bool.and_eq_true] at q; rw [GPs] at h ⊢; obtain ⟨p, ps, a, b, c⟩ := h; exact ⟨p, ps, a, GP.shut x q.1 b, GPs.shut xs q.2 c⟩
end
mutual
theorem noRef_ok : ∀ (x : SV) {d : D}, noRef x = true → inR 0 0 x = true → Gam W g x d → Gam W g' x d
  | .c _, _, _, _, h => by rw [Gam] at h ⊢; exact h
  | .v i, d, _, q, h => by simp [inR] at q
  | .one _, _, _, _, h => by rw [Gam] at h ⊢; exact h
  | .int _ _, _, _, _, h => by rw [Gam] at h ⊢; exact h
  | .tup xs, _, n, q, h => by rw [noRef] at n; rw [inR] at q; rw [Gam] at h ⊢; obtain ⟨ds, a, b⟩ := h; exact ⟨ds, a, noRefs_ok xs n q b⟩
  | .tupOf lo hi x, _, n, q, h => by rw [noRef] at n; rw [inR] at q; rw [Gam] at h ⊢; obtain ⟨ds, a, b, c⟩ := h; exact ⟨ds, a, b, fun e he => noRef_ok x n q (c e he)⟩
  | .lst xs, _, n, _, h => by simp [noRef] at n
  | .lstOf lo hi x, _, n, _, h => by simp [noRef] at n
  | .own k, _, n, _, h => by simp [noRef] at n
  | .un xs, d, n, q, h => by rw [noRef] at n; rw [inR] at q; rw [Gam] at h ⊢; exact noRefU_ok xs n q h
  | .rep x, _, n, q, h => by rw [inR] at q; rw [Gam] at h ⊢; obtain ⟨p, a, b⟩ := h; exact ⟨p, a, GP.shut x q b⟩
  | .bag, _, n, _, h => by simp [noRef] at n
  | .pr _, _, _, _, h => by rw [Gam] at h ⊢; exact h
  | .any, _, n, _, h => by simp [noRef] at n
theorem noRefs_ok : ∀ (xs : List SV) {ds : List D}, noRefs xs = true → inRs 0 0 xs = true → Gams W g xs ds → Gams W g' xs ds
  | [], _, _, _, h => by rw [Gams] at h ⊢; exact h
  | x :: xs, _, n, q, h => by rw [noRefs, Bool.and_eq_true] at n; rw [inRs, Bool.and_eq_true] at q; rw [Gams] at h ⊢; obtain ⟨p, ps, a, b, c⟩ := h; exact ⟨p, ps, a, noRef_ok x n.1 q.1 b, noRefs_ok xs n.2 q.2 c⟩
theorem noRefU_ok : ∀ (xs : List SV) {d : D}, noRefs xs = true → inRs 0 0 xs = true → GamU W g xs d → GamU W g' xs d
  | [], _, _, _, h => by rw [GamU] at h; exact h.elim
  | x :: xs, d, n, q, h => by
    rw [noRefs, Bool.and_eq_true] at n; rw [inRs, Bool.and_eq_true] at q
    rw [GamU] at h ⊢
    rcases h with h | h
    · exact .inl (noRef_ok x n.1 q.1 h)
    · exact .inr (noRefU_ok xs n.2 q.2 h)
end
/-- the known, without names and objects -/
def g00 (ph : Nat → Ob → Prop) : Gh := ⟨[], [], ph⟩
theorem mv0 (h : ∀ r o, g.ph r o → g'.ph r o) : Mv 0 0 g g' := ⟨fun i d hi _ => absurd hi (Nat.not_lt_zero _), fun k r hk _ => absurd hk (Nat.not_lt_zero _), h⟩
/-- what an entry says, from a depth on -/
def EntOk (W : Wo) (P : List Fn) (G : List D) (C : Nat → Option (List D → Sto → Res D)) (n0 : Nat) (e : Ent) : Prop :=
  ∀ (n : Nat) (st : Sto) (ds : List D) (Ph : Nat → Ob → Prop) (δ : Nat), (∀ r o, Ph r o → st[r]? = some o ∧ ¬ W.foot r) → W.B (e.cost + δ) st → Gams W (g00 Ph) e.args ds →
    Wd (runC P G C (n0 + n) e.f ds st) fun d st' => (W.B δ st' ∧ st.length ≤ st'.length ∧ ∀ r o, ¬ W.foot r → st[r]? = some o → st'[r]? = some o) ∧
      ∃ Ph' : Nat → Ob → Prop, (∀ r o, Ph r o → Ph' r o) ∧ (∀ r o, Ph' r o → st'[r]? = some o ∧ ¬ W.foot r ∧ (Ph r o ∨ st.length ≤ r)) ∧ ∃ x ∈ e.res, Gam W (g00 Ph') x d
theorem nmArgs_ok {nm : Bool} {args : List SV} {cost : Nat} {ds : List D} (h : HRel W δ (s00 cost) g st) (hx : Gams W g args ds) : ∃ g', g.le g' ∧ HRel W δ (nmArgs nm args cost).2 g' st ∧ (nmArgs nm args cost).2.env = [] ∧ Gams W g' (nmArgs nm args cost).1 ds := by
  unfold nmArgs
  split
  · cases e : nameVs [] args with
    | mk xs es =>
      obtain ⟨g', a, b, c⟩ := nameVs_ok args h hx e
      exact ⟨g', a, b, rfl, c⟩
  · exact ⟨g, Gh.le.refl, h, rfl, hx⟩
theorem resOf_ok : ∀ {l : List (SV × SS)} {rs : List SV}, resOf l = some rs → ∀ p ∈ l, ∃ y ∈ rs, trV 0 0 p.2 fuelV p.1 = some y ∧ inR 0 0 y = true
  | (x, s) :: r, rs, q, p, hp => by
    rw [resOf] at q
    split at q
    · rename_i y ys q1 q2
      split at q
      · rename_i hin
        cases q
        rcases List.mem_cons.mp hp with z | hp
        · subst z; exact ⟨y, addVs_mem (.inl (List.mem_singleton.mpr rfl)), q1, hin⟩
        · obtain ⟨z, a, b⟩ := resOf_ok q2 p hp
          exact ⟨z, addVs_mem (.inr a), b⟩
      · cases q
    · cases q
theorem HRel.s00 {lim : Nat} {ph : Nat → Ob → Prop} (hb : W.B (lim + δ) st) (h1 : ∀ r o, ph r o → st[r]? = some o ∧ ¬ W.foot r ∧ (W.Ph r o ∨ W.base ≤ r)) (h2 : ∀ r o, W.Fr r o → st[r]? = some o ∧ ¬ W.foot r) (h3 : W.base ≤ st.length) : HRel W δ (PL.s00 lim) (g00 ph) st :=
  ⟨rfl, fun k o r h _ => by simp [PL.s00] at h, List.nodup_nil, fun k r h => by simp [g00] at h, h1, h2, rfl, fun i d x h _ => by simp [g00] at h, hb, h3⟩
theorem mkEnt_ok {W0 : Wo} {c : Cf} {C : Nat → Option (List D → Sto → Res D)} {n0 n f : Nat} {args : List SV} {pk : Bool} {cost : Nat} {e : Ent} (HK : ∀ base Fr Ph, KOk (W0.re base Fr Ph) c C n0) (q : mkEnt c n f args pk cost = some e) :
    EntOk W0 c.P c.G C (n0 + n) e ∧ e.f = f ∧ e.args = args ∧ e.cost = cost := by
  unfold mkEnt at q
  split at q
  · rename_i l q1
    split at q
    · rename_i rs q2
      cases q
      refine ⟨?_, rfl, rfl, rfl⟩
      intro m st ds Ph δ hPh hb hx
      -- the frame
      let W := W0.re st.length (fun r o => st[r]? = some o ∧ ¬ W0.foot r) Ph
      have hx' : Gams W (g00 Ph) args ds := Gams.wo (W := W0) (W' := W) rfl rfl args hx
      have h0 : HRel W δ (s00 cost) (g00 Ph) st := HRel.s00 hb (fun r o hp => ⟨(hPh r o hp).1, (hPh r o hp).2, .inl hp⟩) (fun r o hf => hf) (Nat.le_refl _)
      obtain ⟨g1, l1, h1, he, hx1⟩ := nmArgs_ok (nm := (c.md f).nm) h0 hx'
      have hn : n0 + n + m = (n0 + m) + n := by omega
      have HK1 : KOk W c C n0 := HK st.length (fun r o => st[r]? = some o ∧ ¬ W0.foot r) Ph
      have HK' : KOk W c C (n0 + m) := ⟨HK1.1, fun n1 => by
        have : n0 + m + n1 = n0 + (m + n1) := by omega
        rw [this]; exact HK1.2 (m + n1)⟩
      have run := xF HK' n f _ _ δ g1 [] st ds l ⟨h1, by rw [he]; exact ⟨rfl, fun i x h => by simp at h⟩⟩ hx1 q1
      rw [hn]
      refine run.mono fun d st' hp => ?_
      obtain ⟨p, hm, g2, l2, h2, h3⟩ := hp
      obtain ⟨y, hy, e1, e2⟩ := resOf_ok q2 p hm
      have hT := trS_ok 0 0 h2
      have h4 := trV_ok (n0 := 0) (m := 0) h2.h _ _ e1 h3
      have gT0 : gT 0 0 g2 st' = g00 (gT 0 0 g2 st').ph := rfl
      have l20 : ∀ r o, Ph r o → (gT 0 0 g2 st').ph r o := fun r o hp => .inl (l2.ph r o (l1.ph r o hp))
      refine ⟨⟨W0.Bmono _ _ _ (by omega) h2.h.bag, h2.h.bas, fun r o hf hs => (h2.h.fr r o ⟨hs, hf⟩).1⟩, (gT 0 0 g2 st').ph, l20, fun r o hp => ?_, ?_⟩
      · obtain ⟨a, b, c⟩ := hT.h.ph r o hp
        exact ⟨a, b, c⟩
      · rw [gT0] at h4
        have h5 : Gam W0 (g00 (gT 0 0 g2 st').ph) y d := Gam.wo (W := W) (W' := W0) rfl rfl y h4
        simp only
        split
        · -- joined
          have emp : HRel W 0 (s00 0) (g00 (gT 0 0 g2 st').ph) st' := HRel.s00 (W.Bmono _ _ _ (by omega) h2.h.bag) hT.h.ph h2.h.fr h2.h.bas
          unfold packR
          split
          · exact ⟨y, hy, h5⟩
          · exact ⟨y, hy, h5⟩
          · simp only
            split
            · rename_i hle
              rw [Bool.and_eq_true] at hle
              exact ⟨_, List.mem_singleton.mpr rfl, Gam.wo (W := W) (W' := W0) rfl rfl _ (leU_ok emp _ _ _ hle.1 hy h4)⟩
            · exact ⟨y, hy, h5⟩
        · exact ⟨y, hy, h5⟩
    · cases q
  · cases q
/-- an entry, used -/
theorem ent_use {W : Wo} {P : List Fn} {G : List D} {C : Nat → Option (List D → Sto → Res D)} {n0 n : Nat} {e : Ent} {W0 : Wo} {base : Nat} {Fr Ph0 : Nat → Ob → Prop} (hW : W = W0.re base Fr Ph0) (he : EntOk W0 P G C n0 e) (h : Rel2 W δ s g env st) {ds : List D} (hcost : e.cost ≤ s.lim) (hres : inRs 0 0 e.res = true)
    (ha : Gams W (g00 g.ph) e.args ds ∨ (noRefs e.res = true ∧ Gams W (g00 (gT s.doms.length 0 g st).ph) e.args ds)) :
    Wd (runC P G C (n0 + n) e.f ds st) (PostG W δ (Gam W) (e.res.map fun r => (r, { s with lim := s.lim - e.cost })) g env) := by
  have resIn : ∀ x ∈ e.res, inR 0 0 x = true := by
    intro x hx
    revert hres
    generalize e.res = l at hx
    induction l with
    | nil => cases hx
    | cons y l ih =>
      intro hres
      rw [inRs, Bool.and_eq_true] at hres
      rcases List.mem_cons.mp hx with rfl | hx
      · exact hres.1
      · exact ih hx hres.2
  have resNo : noRefs e.res = true → ∀ x ∈ e.res, noRef x = true := by
    intro hres x hx
    revert hres
    generalize e.res = l at hx
    induction l with
    | nil => cases hx
    | cons y l ih =>
      intro hres
      rw [noRefs, Bool.and_eq_true] at hres
      rcases List.mem_cons.mp hx with rfl | hx
      · exact hres.1
      · exact ih hx hres.2
  have hb : W.B (e.cost + (s.lim - e.cost + δ)) st := W.Bmono _ _ _ (by omega) h.h.bag
  rcases ha with ha | ⟨hno, ha⟩
  · have ha' : Gams W0 (g00 g.ph) e.args ds := Gams.wo (W := W) (W' := W0) (by rw [hW]; rfl) (by rw [hW]; rfl) _ ha
    refine (he n st ds g.ph (s.lim - e.cost + δ) (fun r o hp => ⟨(h.h.ph r o hp).1, by have := (h.h.ph r o hp).2.1; rw [hW] at this; exact this⟩) (by rw [hW] at hb; exact hb) ha').mono fun d st' hp => ?_
    obtain ⟨⟨b1, b2, b3⟩, Ph', p1, p2, x, hx, hg⟩ := hp
    have ft : ∀ r, W.foot r ↔ W0.foot r := fun r => by rw [hW]; rfl
    have l1 : g.le { g with ph := Ph' } := ⟨fun _ _ h => h, fun _ _ h => h, p1⟩
    refine ⟨_, List.mem_map.mpr ⟨x, hx, rfl⟩, { g with ph := Ph' }, l1, ⟨⟨h.h.len, ?_, h.h.nd, ?_, ?_, ?_, h.h.sl, ?_, ?_, ?_⟩, h.e.mono l1⟩, ?_⟩
    · intro k o r h1 h2
      obtain ⟨c, a, b⟩ := h.h.obs k o r h1 h2
      exact ⟨c, b3 r c (fun hf => (h.h.own k r h2).1.2.1 ((ft r).mpr hf)) a, b.mono l1⟩
    · intro k r h2
      obtain ⟨⟨a1, a2, a3⟩, a4⟩ := h.h.own k r h2
      refine ⟨⟨by omega, a2, a3⟩, fun o => ⟨fun hg hp => ?_, (a4 o).2⟩⟩
      obtain ⟨c1, c2, c3⟩ := p2 r o hp
      rcases c3 with c3 | c3
      · exact (a4 o).1 hg c3
      · omega
    · intro r o hp
      obtain ⟨c1, c2, c3⟩ := p2 r o hp
      refine ⟨c1, fun hf => c2 ((ft r).mp hf), ?_⟩
      rcases c3 with c3 | c3
      · exact (h.h.ph r o c3).2.2
      · have := h.h.bas; exact .inr (by omega)
    · intro r o hf
      obtain ⟨a, b⟩ := h.h.fr r o hf
      exact ⟨b3 r o (fun z => b ((ft r).mpr z)) a, b⟩
    · intro i d x h1 h2
      obtain ⟨a, b⟩ := h.h.sd i d x h1 h2
      exact ⟨Gam.mono l1 _ _ a, b⟩
    · rw [hW]; exact b1
    · have := h.h.bas; omega
    · have hg' : Gam W (g00 Ph') x d := Gam.wo (W := W0) (W' := W) (by rw [hW]; rfl) (by rw [hW]; rfl) _ hg
      exact Gam.move (mv0 (g := g00 Ph') (g' := { g with ph := Ph' }) fun r o h => h) x d (resIn x hx) hg'
  · have ha' : Gams W0 (g00 (gT s.doms.length 0 g st).ph) e.args ds := Gams.wo (W := W) (W' := W0) (by rw [hW]; rfl) (by rw [hW]; rfl) _ ha
    have hT := (trS_ok s.doms.length 0 h).h.ph
    have ft : ∀ r, W.foot r ↔ W0.foot r := fun r => by rw [hW]; rfl
    refine (he n st ds _ (s.lim - e.cost + δ) (fun r o hp => ⟨(hT r o hp).1, fun hf => (hT r o hp).2.1 ((ft r).mpr hf)⟩) (by rw [hW] at hb; exact hb) ha').mono fun d st' hp => ?_
    obtain ⟨⟨b1, b2, b3⟩, Ph', p1, p2, x, hx, hg⟩ := hp
    refine ⟨_, List.mem_map.mpr ⟨x, hx, rfl⟩, g, Gh.le.refl, ⟨⟨h.h.len, ?_, h.h.nd, ?_, ?_, ?_, h.h.sl, h.h.sd, ?_, ?_⟩, h.e⟩, ?_⟩
    · intro k o r h1 h2
      obtain ⟨c, a, b⟩ := h.h.obs k o r h1 h2
      exact ⟨c, b3 r c (fun hf => (h.h.own k r h2).1.2.1 ((ft r).mpr hf)) a, b⟩
    · intro k r h2
      obtain ⟨⟨a1, a2, a3⟩, a4⟩ := h.h.own k r h2
      exact ⟨⟨by omega, a2, a3⟩, a4⟩
    · intro r o hp
      obtain ⟨a, b, c⟩ := h.h.ph r o hp
      exact ⟨b3 r o (fun z => b ((ft r).mpr z)) a, b, c⟩
    · intro r o hf
      obtain ⟨a, b⟩ := h.h.fr r o hf
      exact ⟨b3 r o (fun z => b ((ft r).mpr z)) a, b⟩
    · rw [hW]; exact b1
    · have := h.h.bas; omega
    · have hg' : Gam W (g00 Ph') x d := Gam.wo (W := W0) (W' := W) (by rw [hW]; rfl) (by rw [hW]; rfl) _ hg
      exact noRef_ok x (resNo hno x hx) (resIn x hx) hg'
theorem isBk_ok {w : Nat → Str} {W : Wo} (hW : ∀ p d, p < 12 → W.Pr p d → d = .str (w p)) (h : HRel W δ s g st) : ∀ {ys : List SV} {ds : List D} {i : Nat}, i + ys.length ≤ 12 → Gams W g ys ds → isBk s i ys = true → ds = (List.range ys.length).map fun j => .str (w (i + j))
  | [], ds, i, _, hx, _ => hx
  | y :: ys, ds, i, hl, hx, q => by
    rw [Gams] at hx
    obtain ⟨d, ds', rfl, h1, h2⟩ := hx
    simp only [List.length_cons] at hl
    cases y <;> first | (simp [isBk] at q; done) | skip
    rename_i j
    rw [isBk, Bool.and_eq_true] at q
    rw [Gam] at h1
    have q1 := q.1
    split at q1
    · rename_i p e1
      rw [decide_eq_true_eq] at q1
      have hd := (h.sd j d _ h1 e1).1
      rw [Gam] at hd
      have := hW p d (by omega) hd.1
      subst q1
      rw [this, isBk_ok hW h (i := p + 1) (by omega) h2 q.2, List.length_cons, List.range_succ_eq_map, List.map_cons, List.map_map]
      congr 1
      apply List.map_congr_left
      intro a _
      simp only [Function.comp]
      congr 2; omega
    · cases q1
theorem orcK_ok {W : Wo} {P : List Fn} {G : List D} {C : Nat → Option (List D → Sto → Res D)} {k n : Nat} {w : Nat → Str} {tbl : List (Nat × D)} (hW : ∀ p d, p < 12 → W.Pr p d → d = .str (w p))
    (ht : ∀ p ∈ tbl, C p.1 = some (pureC (run P G k p.1)) ∧ ground p.2 = true ∧ ∃ s, run P G k p.1 [bk w] [] = .ok p.2 s) {f : Nat} {xs : List SV} {ds : List D} {l : List (SV × SS)}
    (h : Rel2 W δ s g env st) (hx : Gams W g xs ds) (q : orcK tbl f xs s = some (.ok l)) : Wd (runC P G C n f ds st) (PostG W δ (Gam W) l g env) := by
  unfold orcK at q
  split at q
  · cases q
  · rename_i p q1
    have hm := List.mem_of_find?_eq_some q1
    have hp := List.find?_some q1
    rw [decide_eq_true_eq] at hp
    subst hp
    obtain ⟨c1, c2, s1, c3⟩ := ht p hm
    simp only [Option.some.injEq] at q
    split at q
    · rename_i ys
      split at q
      · rename_i hb
        obtain ⟨d, rfl, hd⟩ := gams1 hx
        rw [Gam] at hd
        obtain ⟨es, rfl, hes⟩ := hd
        have e := isBk_ok hW h.h (i := 0) (by omega) hes hb.2
        rw [hb.1] at e
        have e2 : D.tup es = bk w := by rw [e]; simp [bk, List.range, List.range.loop]
        rw [e2]
        exact W_pure c1 c3 rfl c2 (PostG.one (R := Gam W) h (by rw [Gam]) q)
      · cases q
    · cases q
theorem entK_ok {W : Wo} {P : List Fn} {G : List D} {C : Nat → Option (List D → Sto → Res D)} {n0 n : Nat} {tab : List Ent} {W0 : Wo} {base : Nat} {Fr Ph0 : Nat → Ob → Prop} (hW : W = W0.re base Fr Ph0) (ht : ∀ e ∈ tab, EntOk W0 P G C n0 e) {f : Nat} {xs : List SV} {ds : List D} {l : List (SV × SS)}
    (h : Rel2 W δ s g env st) (hx : Gams W g xs ds) (q : entK tab f xs s = some (.ok l)) : Wd (runC P G C (n0 + n) f ds st) (PostG W δ (Gam W) l g env) := by
  unfold entK at q
  split at q
  · rename_i hin
    split at q
    · rename_i e q1
      have hm := List.mem_of_find?_eq_some q1
      have hp := List.find?_some q1
      simp only [Bool.and_eq_true, decide_eq_true_eq] at hp
      obtain ⟨rfl, h1, h2, h3⟩ := hp
      simp only [Option.some.injEq] at q
      split at q
      · rename_i hc
        cases q
        refine ent_use hW (ht e hm) h hc h3 (.inl ?_)
        exact Gams.move (mv0 (g := g) (g' := g00 g.ph) fun r o h => h) _ _ h2 (leP_ok h.h _ _ _ h1 hx)
      · cases q
    · cases q
  · split at q
    · cases q
    · rename_i ys q0
      split at q
      · rename_i e q1
        have hm := List.mem_of_find?_eq_some q1
        have hp := List.find?_some q1
        simp only [Bool.and_eq_true, decide_eq_true_eq] at hp
        obtain ⟨rfl, h1, h2, h3, h4⟩ := hp
        simp only [Option.some.injEq] at q
        split at q
        · rename_i hc
          cases q
          refine ent_use hW (ht e hm) h hc h3 (.inr ⟨h4, ?_⟩)
          have hy := trVs_ok h.h _ _ q0 hx
          exact Gams.move (mv0 (g := gT s.doms.length 0 g st) (g' := g00 (gT s.doms.length 0 g st).ph) fun r o h => h) _ _ h2 (leP_ok (trS_ok s.doms.length 0 h).h _ _ _ h1 hy)
        · cases q
      · cases q
/-- what a draw tells, from a depth on -/
def DrawOk (W0 : Wo) (P : List Fn) (G : List D) (C : Nat → Option (List D → Sto → Res D)) (n0 d : Nat) : Prop :=
  ∀ (n b : Nat) (m : Int) (st : Sto), 1 ≤ m → m ≤ 100000 → W0.B (b + 1) st → Wd (runC P G C (n0 + n) d [.ref W0.bagr, .int m] st) fun x st' => (∃ v, x = .int v ∧ 0 ≤ v ∧ v < m) ∧ W0.B b st' ∧ st.length ≤ st'.length ∧ ∀ r o, ¬ W0.foot r → st[r]? = some o → st'[r]? = some o
/-- a store that is changed in its foot alone -/
theorem Rel2.foot {W : Wo} (h : Rel2 W δ s g env st) {st' : Sto} {n : Nat} (hb : W.B (n + δ) st') (hl : st.length ≤ st'.length) (hk : ∀ r o, ¬ W.foot r → st[r]? = some o → st'[r]? = some o) : Rel2 W δ { s with lim := n } g env st' := by
  refine ⟨⟨h.h.len, ?_, h.h.nd, ?_, ?_, ?_, h.h.sl, h.h.sd, hb, ?_⟩, h.e⟩
  · intro k o r h1 h2
    obtain ⟨c, a, b⟩ := h.h.obs k o r h1 h2
    exact ⟨c, hk r c (h.h.own k r h2).1.2.1 a, b⟩
  · intro k r h2
    obtain ⟨⟨a1, a2, a3⟩, a4⟩ := h.h.own k r h2
    exact ⟨⟨by omega, a2, a3⟩, a4⟩
  · intro r o hp
    obtain ⟨a, b, c⟩ := h.h.ph r o hp
    exact ⟨hk r o b a, b, c⟩
  · intro r o hf
    obtain ⟨a, b⟩ := h.h.fr r o hf
    exact ⟨hk r o b a, b⟩
  · have := h.h.bas; omega
theorem drawK_ok {W : Wo} {P : List Fn} {G : List D} {C : Nat → Option (List D → Sto → Res D)} {n0 n dr : Nat} {W0 : Wo} {base : Nat} {Fr Ph0 : Nat → Ob → Prop} (hW : W = W0.re base Fr Ph0) (hd : DrawOk W0 P G C n0 dr) {f : Nat} {xs : List SV} {ds : List D} {l : List (SV × SS)}
    (h : Rel2 W δ s g env st) (hx : Gams W g xs ds) (q : drawK dr f xs s = some (.ok l)) : Wd (runC P G C (n0 + n) f ds st) (PostG W δ (Gam W) l g env) := by
  unfold drawK at q
  split at q
  · rename_i hf
    subst hf
    simp only [Option.some.injEq] at q
    split at q
    · rename_i m
      obtain ⟨b, d, rfl, hb, hm⟩ := gams2 hx
      rw [Gam] at hb
      subst hb
      have hbag : W.bagr = W0.bagr := by rw [hW]; rfl
      have ft : ∀ r, W.foot r ↔ W0.foot r := fun r => by rw [hW]; rfl
      split at q
      · rename_i hl
        have run : ∀ {s1 : SS} {k : Int}, Rel2 W δ s1 g env st → 1 ≤ s1.lim → 1 ≤ k → k ≤ 100000 → Wd (runC P G C (n0 + n) f [.ref W.bagr, .int k] st) fun x st' => (∃ v, x = .int v ∧ 0 ≤ v ∧ v < k) ∧ Rel2 W δ { s1 with lim := s1.lim - 1 } g env st' := by
          intro s1 k h1 hl k1 k2
          have hb : W.B ((s1.lim - 1 + δ) + 1) st := W.Bmono _ _ _ (by omega) h1.h.bag
          rw [hbag]
          refine (hd n (s1.lim - 1 + δ) k st k1 k2 (by rw [hW] at hb; exact hb)).mono fun x st' ⟨a1, a2, a3, a4⟩ => ⟨a1, ?_⟩
          exact h1.foot (by rw [hW]; exact a2) a3 fun r o hf => a4 r o fun z => hf ((ft r).mpr z)
        unfold drawS at q
        split at q
        · rename_i cs q1
          obtain ⟨s1, m1, h1⟩ := cases1_ok h hm q1
          obtain ⟨l2, q3, k⟩ := goX_mem q m1
          have hlim : s1.lim = s.lim := by
            unfold cases1 at q1
            split at q1
            · split at q1
              · cases q1; simp at m1; rw [m1.2]
              · cases q1; obtain ⟨_, _, z⟩ := List.mem_map.mp m1; cases z; rfl
              · split at q1
                · cases q1; obtain ⟨_, _, z⟩ := List.mem_map.mp m1; cases z; rfl
                · cases q1
              · cases q1
            · cases q1; simp at m1; rw [m1.2]
            · cases q1; obtain ⟨_, _, z⟩ := List.mem_map.mp m1; cases z; rfl
            · cases q1
          split at q3
          · rename_i k0
            split at q3
            · rename_i hk
              refine (run h1 (by omega) hk.1 (by omega)).mono fun x st' ⟨⟨v, e, v0, v1⟩, h2⟩ => ?_
              subst e
              refine (PostG.one (R := Gam W) h2 (mk1_ok ?_).1 q3).up Gh.le.refl k
              exact List.mem_map.mpr ⟨v.toNat, List.mem_range.mpr (by omega), by congr 1; omega⟩
            · split at q3
              · rename_i hk
                refine (run h1 (by omega) hk.1 hk.2).mono fun x st' ⟨⟨v, e, v0, v1⟩, h2⟩ => ?_
                subst e
                exact (PostG.one (R := Gam W) h2 (gam_bnd v0 (by omega)) q3).up Gh.le.refl k
              · cases q3
          · cases q3
        · split at q
          · rename_i a b q1
            obtain ⟨k0, rfl, u, v⟩ := rng_ok h.h hm q1
            have u := u a rfl
            have v := v b rfl
            split at q
            · rename_i hk
              refine (run h hl (by omega) (by omega)).mono fun x st' ⟨⟨w, e, v0, v1⟩, h2⟩ => ?_
              subst e
              exact PostG.one (R := Gam W) h2 (gam_bnd v0 (by omega)) q
            · cases q
          · cases q
      · cases q
    · cases q
  · cases q
end
end PL
namespace PL
open PySem L2
section
variable {W0 : Wo} {P : List Fn} {G : List D} {C : Nat → Option (List D → Sto → Res D)} {n0 n : Nat}
/-- an entry, said with one value above what is told -/
theorem EntOk.to {e : Ent} {y : SV} (h : EntOk W0 P G C n0 e) (q : leU (s00 0) fuelL e.res y = true) : EntOk W0 P G C n0 { e with res := [y] } := by
  intro n st ds Ph δ hPh hb hx
  refine (h n st ds Ph δ hPh hb hx).mono fun d st' ⟨⟨b1, b2, b3⟩, Ph', p1, p2, x, hm, hg⟩ => ?_
  refine ⟨⟨b1, b2, b3⟩, Ph', p1, p2, y, List.mem_singleton.mpr rfl, ?_⟩
  let W := W0.re 0 (fun _ _ => False) Ph'
  have emp : HRel W 0 (s00 0) (g00 Ph') st' := HRel.s00 (W0.Bmono _ _ _ (by omega) b1) (fun r o hp => ⟨(p2 r o hp).1, (p2 r o hp).2.1, .inl hp⟩) (fun r o hf => hf.elim) (Nat.zero_le _)
  exact Gam.wo (W := W) (W' := W0) rfl rfl _ (leU_ok emp _ _ _ q hm (Gam.wo (W := W0) (W' := W) rfl rfl _ hg))
def entB (o : Option Ent) (y : SV) : Bool := match o with
  | some e => leU (s00 0) fuelL e.res y
  | none => false
theorem ent_by {c : Cf} {n f : Nat} {args : List SV} {pk : Bool} {cost : Nat} {y : SV} (HK : ∀ base Fr Ph, KOk (W0.re base Fr Ph) c C n0) (q : entB (mkEnt c n f args pk cost) y = true) : EntOk W0 c.P c.G C (n0 + n) ⟨f, args, [y], cost⟩ := by
  unfold entB at q
  split at q
  · rename_i e q1
    obtain ⟨a, b, c, d⟩ := mkEnt_ok HK q1
    have := a.to q
    rw [b, c, d] at this; exact this
  · cases q
/-- of defs of data alone, with a bag -/
theorem EntOk.use {f cost : Nat} {args : List SV} {y : SV} (h : EntOk W0 P G C n0 ⟨f, args, [y], cost⟩) {st : Sto} {ds : List D} {Ph : Nat → Ob → Prop} {δ : Nat} (hPh : ∀ r o, Ph r o → st[r]? = some o ∧ ¬ W0.foot r) (hb : W0.B (cost + δ) st) (hx : Gams W0 (g00 Ph) args ds) {Q : D → Sto → Prop}
    (k : ∀ d st' (Ph' : Nat → Ob → Prop), W0.B δ st' → st.length ≤ st'.length → (∀ r o, ¬ W0.foot r → st[r]? = some o → st'[r]? = some o) → (∀ r o, Ph' r o → st'[r]? = some o ∧ ¬ W0.foot r) → Gam W0 (g00 Ph') y d → Q d st') : Wd (runC P G C (n0 + n) f ds st) Q :=
  (h n st ds Ph δ hPh hb hx).mono fun d st' ⟨⟨b1, b2, b3⟩, Ph', p1, p2, x, hm, hg⟩ => by
    rw [List.mem_singleton.mp hm] at hg
    exact k d st' Ph' b1 b2 b3 (fun r o hp => ⟨(p2 r o hp).1, (p2 r o hp).2.1⟩) hg
/-- books -/
def bookT : SV := .tup ((List.range 12).map fun i => .one ((dom i).map .str))
theorem gam_one_str {W : Wo} {g : Gh} {l : List Str} {d : D} (h : Gam W g (.one (l.map .str)) d) : ∃ x ∈ l, d = .str x := by
  rw [Gam] at h
  obtain ⟨x, hx, rfl⟩ := List.mem_map.mp h
  exact ⟨x, hx, rfl⟩
theorem gam_book {W : Wo} {g : Gh} {d : D} (h : Gam W g bookT d) : ∃ w, Gd w ∧ d = bk w := by
  unfold bookT at h
  rw [Gam] at h
  obtain ⟨ds, rfl, h⟩ := h
  have hl : ds.length = 12 := by rw [← h.length]; rfl
  have hx : ∀ i, i < 12 → ∃ x ∈ dom i, ds[i]? = some (.str x) := by
    intro i hi
    obtain ⟨d, a, b⟩ := h.get (i := i) (x := .one ((dom i).map .str)) (by rw [List.getElem?_map, List.getElem?_range hi]; rfl)
    obtain ⟨x, hx, rfl⟩ := gam_one_str b
    exact ⟨x, hx, a⟩
  have hx' : ∀ i, ∃ x, x ∈ dom i ∧ (i < 12 → ds[i]? = some (.str x)) := by
    intro i
    by_cases hi : i < 12
    · obtain ⟨x, a, b⟩ := hx i hi
      exact ⟨x, a, fun _ => b⟩
    · exact ⟨"one", by rw [dom_out (by omega)]; simp, fun h => absurd h hi⟩
  obtain ⟨w, hw⟩ : ∃ w : Nat → Str, ∀ i, w i ∈ dom i ∧ (i < 12 → ds[i]? = some (.str (w i))) := ⟨fun i => (hx' i).choose, fun i => (hx' i).choose_spec⟩
  refine ⟨w, fun i => (hw i).1, ?_⟩
  unfold bk
  congr 1
  apply List.ext_getElem?
  intro i
  by_cases hi : i < 12
  · rw [(hw i).2 hi]
    match i, hi with
    | 0, _ => rfl | 1, _ => rfl | 2, _ => rfl | 3, _ => rfl | 4, _ => rfl | 5, _ => rfl | 6, _ => rfl | 7, _ => rfl | 8, _ => rfl | 9, _ => rfl | 10, _ => rfl | 11, _ => rfl
  · rw [List.getElem?_eq_none (by omega), List.getElem?_eq_none (by simp; omega)]
theorem book_gam {W : Wo} {g : Gh} {w : Nat → Str} (h : Gd w) : Gam W g bookT (bk w) := by
  unfold bookT bk
  rw [Gam]
  refine ⟨_, rfl, ?_⟩
  have o : ∀ i, Gam W g (.one ((dom i).map .str)) (.str (w i)) := fun i => by rw [Gam]; exact List.mem_map.mpr ⟨_, h i, rfl⟩
  exact ⟨_, _, rfl, o 0, _, _, rfl, o 1, _, _, rfl, o 2, _, _, rfl, o 3, _, _, rfl, o 4, _, _, rfl, o 5, _, _, rfl, o 6, _, _, rfl, o 7, _, _, rfl, o 8, _, _, rfl, o 9, _, _, rfl, o 10, _, _, rfl, o 11, rfl⟩
/-- a book as twelve words of its own -/
def bookPr : SV := .tup ((List.range 12).map .pr)
theorem bookPr_gam {W : Wo} {g : Gh} {w : Nat → Str} (h : ∀ p, p < 12 → W.Pr p (.str (w p))) : Gam W g bookPr (bk w) := by
  unfold bookPr bk
  rw [Gam]
  refine ⟨_, rfl, ?_⟩
  have o : ∀ i, i < 12 → Gam W g (.pr i) (.str (w i)) := fun i hi => by rw [Gam]; exact ⟨h i hi, rfl⟩
  exact ⟨_, _, rfl, o 0 (by decide), _, _, rfl, o 1 (by decide), _, _, rfl, o 2 (by decide), _, _, rfl, o 3 (by decide), _, _, rfl, o 4 (by decide), _, _, rfl, o 5 (by decide), _, _, rfl, o 6 (by decide), _, _, rfl, o 7 (by decide), _, _, rfl, o 8 (by decide), _, _, rfl, o 9 (by decide), _, _, rfl, o 10 (by decide), _, _, rfl, o 11 (by decide), rfl⟩
/-- around one book, without a bag -/
def WB (w : Nat → Str) (h : Gd w) : Wo := {
  bagr := 0
  foot := fun _ => False
  B := fun _ _ => True
  Pr := fun p d => p < 12 ∧ d = .str (w p)
  base := 0
  Fr := fun _ _ => False
  Ph := fun _ _ => False
  Bmono := fun _ _ _ _ _ => trivial
  Bkeep := fun _ _ _ _ _ _ => trivial
  Bfoot := fun _ _ _ _ h => h.elim
  PrS := fun p d _ hp => by
    obtain ⟨_, rfl⟩ := hp
    obtain ⟨a, b⟩ := h.ok p
    exact ⟨a, _, rfl, by omega⟩ }
theorem WB_pr {w : Nat → Str} {h : Gd w} {base : Nat} {Fr Ph : Nat → Ob → Prop} : ∀ p d, p < 12 → ((WB w h).re base Fr Ph).Pr p d → d = .str (w p) := fun p d _ hp => hp.2
end
end PL

set_option Elab.async false
set_option linter.all false
set_option maxRecDepth 100000
set_option maxHeartbeats 4000000
namespace K74
open PySem PySem.Spec PyProof.Rows L2
def top (i : Nat) : Stmt := PySem.Challenge.pw_keptmarks_k74_whole_safe_is_safe_alone.main.body.getD i (.Pass ⟨0, 0, 0, 0⟩)
/-- can_stand -/
def n0 : List Str := ["book", "readers", "further", "change", "found"]
def f0 : PL.Fn := ⟨1, 5, (.cons (.par [1, 2, 3] (.cons (.idx (.var 0) (.cI 0)) (.cons (.idx (.var 0) (.cI 1)) (.cons (.idx (.var 0) (.cI 6)) .nil))))
    (.cons (.asg (.name 4) (.ife (.vc .isin (.cS ⟨#[112, 101, 114, 104, 97, 112, 115]⟩) (.tup (.cons (.var 1) (.cons (.var 2) .nil)))) (.lst (.cons (.cI 1) .nil)) (.lst .nil)))
    (.cons (.ret (.ife (.vc .isin (.cS ⟨#[115, 117, 114, 101]⟩) (.tup (.cons (.var 1) (.cons (.var 2) (.cons (.var 3) .nil))))) (.blt .tuple (.cons (.bin .add (.var 4) (.lst (.cons (.cI 2) .nil))) .nil)) (.blt .tuple (.cons (.var 4) .nil))))
    .nil)))⟩
/-- is_checked_by_mark -/
def n1 : List Str := ["book", "mark"]
def f1 : PL.Fn := ⟨2, 2, (.cons (.ret (.and2 (.cmp .isin (.var 1) (.call 0 (.cons (.var 0) .nil))) (.and2 (.cmp .eq (.idx (.var 0) (.bin .add (.cI 2) (.var 1))) (.cS ⟨#[99, 104, 101, 99, 107]⟩)) (.and1 (.cmp .eq (.idx (.var 0) (.cI 5)) (.cS ⟨#[109, 97, 114, 107]⟩))))))
    .nil)⟩
/-- is_left_marked -/
def n2 : List Str := ["book"]
def f2 : PL.Fn := ⟨1, 1, (.cons (.ite (.or2 (.vc .eq (.idx (.var 0) (.cI 6)) (.cS ⟨#[110, 111, 110, 101]⟩)) (.or1 (.vc .eq (.idx (.var 0) (.cI 2)) (.cS ⟨#[110, 101, 118, 101, 114]⟩)))) (.cons (.ret (.cB false))
    .nil) .nil)
    (.cons (.ite (.vc .eq (.idx (.var 0) (.cI 8)) (.cS ⟨#[97, 104, 101, 97, 100]⟩)) (.cons (.ret (.cmp .eq (.idx (.var 0) (.cI 9)) (.cS ⟨#[98, 101, 104, 105, 110, 100]⟩)))
    .nil) .nil)
    (.cons (.ret (.or2 (.cmp .eq (.idx (.var 0) (.cI 8)) (.cS ⟨#[117, 110, 108, 101, 115, 115]⟩)) (.or1 (.cmp .eq (.idx (.var 0) (.cI 10)) (.cS ⟨#[107, 101, 112, 116]⟩)))))
    .nil)))⟩
/-- slip_alone -/
def n3 : List Str := ["book", "mark"]
def f3 : PL.Fn := ⟨1, 2, (.cons (.ite (.vc .isin (.cS ⟨#[110, 111, 110, 101]⟩) (.sl (.var 0) .cN (.cI 2))) (.cons (.ret (.cI 1))
    .nil) .nil)
    (.cons (.ite (.vc .isin (.cS ⟨#[97, 110, 115, 119, 101, 114]⟩) (.lc [1] (.idx (.var 0) (.bin .add (.cI 2) (.var 1))) (.name 1) .plain (.cons (.call 0 (.cons (.var 0) .nil)) .nil) .yes)) (.cons (.ret (.cI 2))
    .nil) .nil)
    (.cons (.ite (.and2 (.val (.call 1 (.cons (.var 0) (.cons (.cI 1) .nil)))) (.and1 (.or2 (.vc .ne (.idx (.var 0) (.cI 0)) (.cS ⟨#[115, 117, 114, 101]⟩)) (.or1 (.vc .ne (.idx (.var 0) (.cI 6)) (.cS ⟨#[115, 117, 114, 101]⟩)))))) (.cons (.ret (.cI 3))
    .nil) .nil)
    (.cons (.ite (.and2 (.val (.call 1 (.cons (.var 0) (.cons (.cI 2) .nil)))) (.and1 (.vc .eq (.idx (.var 0) (.cI 8)) (.cS ⟨#[97, 104, 101, 97, 100]⟩)))) (.cons (.ret (.cI 4))
    .nil) .nil)
    (.cons (.ret (.ife (.val (.call 2 (.cons (.var 0) .nil))) (.cI 5) .cN))
    .nil)))))⟩
/-- safe_alone -/
def n4 : List Str := ["book"]
def f4 : PL.Fn := ⟨1, 1, (.cons (.ret (.cmp .isn (.call 3 (.cons (.var 0) .nil)) .cN))
    .nil)⟩
/-- slip -/
def n5 : List Str := ["book", "number"]
def f5 : PL.Fn := ⟨1, 2, (.cons (.asg (.name 1) (.call 3 (.cons (.var 0) .nil)))
    (.cons (.ite (.and2 (.vc .isnn (.var 1) .cN) (.and1 (.vc .lt (.var 1) (.cI 5)))) (.cons (.ret (.var 1))
    .nil) .nil)
    (.cons (.ite (.vc .eq (.idx (.var 0) (.cI 7)) (.cS ⟨#[108, 97, 115, 116]⟩)) (.cons (.ret (.cI 6))
    .nil) .nil)
    (.cons (.ite (.vc .eq (.idx (.var 0) (.cI 9)) (.cS ⟨#[98, 101, 104, 105, 110, 100]⟩)) (.cons (.ret (.cI 7))
    .nil) .nil)
    (.cons (.ite (.vc .eq (.idx (.var 0) (.cI 11)) (.cS ⟨#[97, 110, 121]⟩)) (.cons (.ret (.cI 8))
    .nil) .nil)
    (.cons (.ite (.or2 (.vc .eq (.idx (.var 0) (.cI 8)) (.cS ⟨#[98, 101, 104, 105, 110, 100]⟩)) (.or1 (.and2 (.vc .eq (.idx (.var 0) (.cI 8)) (.cS ⟨#[117, 110, 108, 101, 115, 115]⟩)) (.and1 (.vc .ne (.idx (.var 0) (.cI 2)) (.cS ⟨#[110, 101, 118, 101, 114]⟩)))))) (.cons (.ret (.cI 9))
    .nil) .nil)
    (.cons (.ret .cN)
    .nil)))))))⟩
/-- safe -/
def n6 : List Str := ["book"]
def f6 : PL.Fn := ⟨1, 1, (.cons (.ret (.cmp .isn (.call 5 (.cons (.var 0) .nil)) .cN))
    .nil)⟩
/-- _law_deck -/
def n7 : List Str := ["script", "cells", "stir", "cell"]
def f7 : PL.Fn := ⟨1, 4, (.cons (.par [1, 2] (.cons (.lc [3] (.bin .add (.bin .mul (.cI 2) (.blt .abs (.cons (.var 3) .nil))) (.blt .int (.cons (.cmp .lt (.var 3) (.cI 0)) .nil))) (.name 3) .plain (.cons (.sl (.var 0) .cN (.cI 63)) .nil) .yes) (.cons (.bin .add (.cI 66041) (.blt .len (.cons (.var 0) .nil))) .nil)))
    (.cons (.for_ (.name 3) .plain (.cons (.var 1) .nil) (.cons (.asg (.name 2) (.bin .md (.blt .int (.cons (.bin .add (.bin .add (.bin .mul (.var 2) (.cI 16807)) (.var 3)) (.cI 5)) .nil)) (.cI 4294967291)))
    .nil))
    (.cons (.ret (.lst (.cons (.lc [3] (.var 3) (.name 3) .plain (.cons (.var 1) .nil) (.vc .ge (.var 3) (.bin .pow (.cI 10) (.cI 15)))) (.cons (.var 2) (.cons (.cI 0) .nil)))))
    .nil)))⟩
/-- _law_draw -/
def n8 : List Str := ["deck", "many", "cell", "found"]
def f8 : PL.Fn := ⟨2, 4, (.cons (.ite (.vc .lt (.var 1) (.cI 2)) (.cons (.ret (.cI 0))
    .nil) .nil)
    (.cons (.ite (.vc .ne (.idx (.var 0) (.cI 0)) (.lst .nil)) (.cons (.asg (.name 2) (.meth .pop0 (.idx (.var 0) (.cI 0)) .nil))
    (.cons (.ite (.vc .ge (.var 2) (.var 1)) (.cons (.exp (.meth .append (.idx (.var 0) (.cI 0)) (.cons (.bin .fdiv (.var 2) (.var 1)) .nil)))
    .nil) .nil)
    (.cons (.ret (.bin .md (.blt .int (.cons (.var 2) .nil)) (.var 1)))
    .nil))) .nil)
    (.cons (.asg (.sub (.var 0) (.cI 2)) (.bin .add (.idx (.var 0) (.cI 2)) (.cI 1)))
    (.cons (.asg (.name 3) (.bin .md (.blt .int (.cons (.bin .add (.idx (.var 0) (.cI 1)) (.bin .mul (.cI 2654435761) (.idx (.var 0) (.cI 2)))) .nil)) (.cI 4294967291)))
    (.cons (.asg (.name 3) (.bin .md (.blt .int (.cons (.bin .add (.bin .add (.bin .mul (.var 3) (.var 3)) (.bin .mul (.cI 40503) (.idx (.var 0) (.cI 2)))) (.cI 11)) .nil)) (.cI 4294967279)))
    (.cons (.asg (.name 3) (.bin .md (.blt .int (.cons (.bin .add (.bin .mul (.var 3) (.var 3)) (.idx (.var 0) (.cI 1))) .nil)) (.cI 4294967231)))
    (.cons (.ret (.bin .md (.blt .int (.cons (.bin .fdiv (.var 3) (.cI 64)) .nil)) (.var 1)))
    .nil)))))))⟩
/-- _law_pick -/
def n9 : List Str := ["deck", "items"]
def f9 : PL.Fn := ⟨2, 2, (.cons (.ret (.idx (.var 1) (.call 8 (.cons (.var 0) (.cons (.blt .len (.cons (.var 1) .nil)) .nil)))))
    .nil)⟩
/-- _law_words -/
def n10 : List Str := ["three", "deeds"]
def f10 : PL.Fn := ⟨0, 2, (.cons (.asg (.tup (.cons (.name 0) (.cons (.name 1) .nil))) (.tup (.cons (.tup (.cons (.cS ⟨#[110, 111, 110, 101]⟩) (.cons (.cS ⟨#[112, 101, 114, 104, 97, 112, 115]⟩) (.cons (.cS ⟨#[115, 117, 114, 101]⟩) .nil)))) (.cons (.tup (.cons (.cS ⟨#[97, 110, 115, 119, 101, 114]⟩) (.cons (.cS ⟨#[99, 104, 101, 99, 107]⟩) (.cons (.cS ⟨#[119, 111, 114, 107]⟩) .nil)))) .nil))))
    (.cons (.ret (.lst (.cons (.tup (.cons (.cS ⟨#[114, 101, 97, 100, 101, 114, 115]⟩) (.cons (.var 0) .nil))) (.cons (.tup (.cons (.cS ⟨#[102, 117, 114, 116, 104, 101, 114]⟩) (.cons (.var 0) .nil))) (.cons (.tup (.cons (.cS ⟨#[115, 116, 111, 112]⟩) (.cons (.tup (.cons (.cS ⟨#[109, 97, 114, 107, 101, 100]⟩) (.cons (.cS ⟨#[117, 110, 114, 97, 105, 115, 101, 100]⟩) (.cons (.cS ⟨#[110, 101, 118, 101, 114]⟩) .nil)))) .nil))) (.cons (.tup (.cons (.cS ⟨#[112, 101, 114, 104, 97, 112, 115]⟩) (.cons (.var 1) .nil))) (.cons (.tup (.cons (.cS ⟨#[115, 117, 114, 101]⟩) (.cons (.var 1) .nil))) (.cons (.tup (.cons (.cS ⟨#[99, 104, 101, 99, 107]⟩) (.cons (.tup (.cons (.cS ⟨#[118, 97, 108, 117, 101, 115]⟩) (.cons (.cS ⟨#[109, 97, 114, 107]⟩) .nil))) .nil))) (.cons (.tup (.cons (.cS ⟨#[99, 104, 97, 110, 103, 101]⟩) (.cons (.tup (.cons (.cS ⟨#[110, 111, 110, 101]⟩) (.cons (.cS ⟨#[115, 117, 114, 101]⟩) .nil))) .nil))) (.cons (.tup (.cons (.cS ⟨#[119, 114, 105, 116, 101]⟩) (.cons (.tup (.cons (.cS ⟨#[102, 105, 114, 115, 116]⟩) (.cons (.cS ⟨#[108, 97, 115, 116]⟩) (.cons (.cS ⟨#[98, 101, 116, 119, 101, 101, 110]⟩) .nil)))) .nil))) (.cons (.tup (.cons (.cS ⟨#[115, 116, 114, 105, 107, 101]⟩) (.cons (.tup (.cons (.cS ⟨#[97, 104, 101, 97, 100]⟩) (.cons (.cS ⟨#[98, 101, 104, 105, 110, 100]⟩) (.cons (.cS ⟨#[117, 110, 108, 101, 115, 115]⟩) .nil)))) .nil))) (.cons (.tup (.cons (.cS ⟨#[101, 110, 116, 101, 114]⟩) (.cons (.tup (.cons (.cS ⟨#[97, 104, 101, 97, 100]⟩) (.cons (.cS ⟨#[98, 101, 104, 105, 110, 100]⟩) .nil))) .nil))) (.cons (.tup (.cons (.cS ⟨#[111, 108, 100]⟩) (.cons (.tup (.cons (.cS ⟨#[115, 116, 114, 117, 99, 107]⟩) (.cons (.cS ⟨#[107, 101, 112, 116]⟩) .nil))) .nil))) (.cons (.tup (.cons (.cS ⟨#[104, 97, 110, 100, 115]⟩) (.cons (.tup (.cons (.cS ⟨#[111, 110, 101]⟩) (.cons (.cS ⟨#[97, 110, 121]⟩) .nil))) .nil))) .nil))))))))))))))
    .nil))⟩
/-- _law_book -/
def n11 : List Str := ["deck", "name", "words"]
def f11 : PL.Fn := ⟨1, 3, (.cons (.ret (.blt .tuple (.cons (.lc [1, 2] (.call 9 (.cons (.var 0) (.cons (.var 2) .nil))) (.tup (.cons (.name 1) (.cons (.name 2) .nil))) .plain (.cons (.call 10 .nil) .nil) .yes) .nil)))
    .nil)⟩
/-- _law_safe_book -/
def n12 : List Str := ["deck", "readers", "further", "stop", "change", "check", "strike", "some", "other", "entries", "write", "old"]
def f12 : PL.Fn := ⟨1, 12, (.cons (.par [1, 2] (.cons (.call 9 (.cons (.var 0) (.cons (.lst (.cons (.cS ⟨#[112, 101, 114, 104, 97, 112, 115]⟩) (.cons (.cS ⟨#[115, 117, 114, 101]⟩) .nil))) .nil))) (.cons (.call 9 (.cons (.var 0) (.cons (.lst (.cons (.cS ⟨#[112, 101, 114, 104, 97, 112, 115]⟩) (.cons (.cS ⟨#[115, 117, 114, 101]⟩) .nil))) .nil))) .nil)))
    (.cons (.par [3, 4] (.cons (.call 9 (.cons (.var 0) (.cons (.lst (.cons (.cS ⟨#[109, 97, 114, 107, 101, 100]⟩) (.cons (.cS ⟨#[117, 110, 114, 97, 105, 115, 101, 100]⟩) (.cons (.cS ⟨#[110, 101, 118, 101, 114]⟩) .nil)))) .nil))) (.cons (.call 9 (.cons (.var 0) (.cons (.lst (.cons (.cS ⟨#[110, 111, 110, 101]⟩) (.cons (.cS ⟨#[115, 117, 114, 101]⟩) .nil))) .nil))) .nil)))
    (.cons (.par [5, 6] (.cons (.call 9 (.cons (.var 0) (.cons (.lst (.cons (.cS ⟨#[118, 97, 108, 117, 101, 115]⟩) (.cons (.cS ⟨#[109, 97, 114, 107]⟩) .nil))) .nil))) (.cons (.cS ⟨#[97, 104, 101, 97, 100]⟩) .nil)))
    (.cons (.ite (.and2 (.vc .eq (.var 3) (.cS ⟨#[110, 101, 118, 101, 114]⟩)) (.and1 (.vc .eq (.call 8 (.cons (.var 0) (.cons (.cI 2) .nil))) (.cI 0)))) (.cons (.asg (.name 6) (.cS ⟨#[117, 110, 108, 101, 115, 115]⟩))
    .nil) .nil)
    (.cons (.par [7, 8] (.cons (.lst (.cons (.cS ⟨#[99, 104, 101, 99, 107]⟩) (.cons (.cS ⟨#[119, 111, 114, 107]⟩) .nil))) (.cons (.lst (.cons (.cS ⟨#[99, 104, 101, 99, 107]⟩) (.cons (.cS ⟨#[119, 111, 114, 107]⟩) .nil))) .nil)))
    (.cons (.ite (.vc .notin (.cS ⟨#[112, 101, 114, 104, 97, 112, 115]⟩) (.tup (.cons (.var 1) (.cons (.var 2) .nil)))) (.cons (.asg (.name 7) (.lst (.cons (.cS ⟨#[97, 110, 115, 119, 101, 114]⟩) (.cons (.cS ⟨#[99, 104, 101, 99, 107]⟩) (.cons (.cS ⟨#[119, 111, 114, 107]⟩) .nil)))))
    .nil) (.cons (.ite (.and2 (.vc .eq (.var 5) (.cS ⟨#[109, 97, 114, 107]⟩)) (.and1 (.or2 (.vc .ne (.var 1) (.cS ⟨#[115, 117, 114, 101]⟩)) (.or1 (.vc .ne (.var 4) (.cS ⟨#[115, 117, 114, 101]⟩)))))) (.cons (.asg (.name 7) (.lst (.cons (.cS ⟨#[119, 111, 114, 107]⟩) .nil)))
    .nil) .nil)
    .nil))
    (.cons (.ite (.vc .notin (.cS ⟨#[115, 117, 114, 101]⟩) (.tup (.cons (.var 1) (.cons (.var 2) (.cons (.var 4) .nil))))) (.cons (.asg (.name 8) (.lst (.cons (.cS ⟨#[97, 110, 115, 119, 101, 114]⟩) (.cons (.cS ⟨#[99, 104, 101, 99, 107]⟩) (.cons (.cS ⟨#[119, 111, 114, 107]⟩) .nil)))))
    .nil) (.cons (.ite (.and2 (.vc .eq (.var 5) (.cS ⟨#[109, 97, 114, 107]⟩)) (.and1 (.vc .eq (.var 6) (.cS ⟨#[97, 104, 101, 97, 100]⟩)))) (.cons (.asg (.name 8) (.lst (.cons (.cS ⟨#[119, 111, 114, 107]⟩) .nil)))
    .nil) .nil)
    .nil))
    (.cons (.asg (.name 9) (.tup (.cons (.var 1) (.cons (.var 2) (.cons (.var 3) (.cons (.call 9 (.cons (.var 0) (.cons (.var 7) .nil))) (.cons (.call 9 (.cons (.var 0) (.cons (.var 8) .nil))) (.cons (.var 5) (.cons (.var 4) .nil)))))))))
    (.cons (.par [10, 11] (.cons (.call 9 (.cons (.var 0) (.cons (.lst (.cons (.cS ⟨#[102, 105, 114, 115, 116]⟩) (.cons (.cS ⟨#[98, 101, 116, 119, 101, 101, 110]⟩) .nil))) .nil))) (.cons (.call 9 (.cons (.var 0) (.cons (.lst (.cons (.cS ⟨#[115, 116, 114, 117, 99, 107]⟩) (.cons (.cS ⟨#[107, 101, 112, 116]⟩) .nil))) .nil))) .nil)))
    (.cons (.ret (.bin .add (.var 9) (.tup (.cons (.var 10) (.cons (.var 6) (.cons (.cS ⟨#[97, 104, 101, 97, 100]⟩) (.cons (.var 11) (.cons (.cS ⟨#[111, 110, 101]⟩) .nil))))))))
    .nil))))))))))⟩
/-- _law_beside -/
def n13 : List Str := ["book", "found", "place", "name", "words", "word"]
def f13 : PL.Fn := ⟨1, 6, (.cons (.asg (.name 1) (.lst .nil))
    (.cons (.for_ (.tup (.cons (.name 2) (.cons (.tup (.cons (.name 3) (.cons (.name 4) .nil))) .nil))) .enum (.cons (.call 10 .nil) .nil) (.cons (.exp (.meth .extend (.var 1) (.cons (.lc [5] (.bin .add (.bin .add (.sl (.var 0) .cN (.var 2)) (.tup (.cons (.var 5) .nil))) (.sl (.var 0) (.bin .add (.var 2) (.cI 1)) .cN)) (.name 5) .plain (.cons (.var 4) .nil) (.vc .ne (.var 5) (.idx (.var 0) (.var 2)))) .nil)))
    .nil))
    (.cons (.ret (.var 1))
    .nil)))⟩
/-- _law_number -/
def n14 : List Str := ["book", "can"]
def f14 : PL.Fn := ⟨1, 2, (.cons (.asg (.name 1) (.lst (.cons (.cmp .isin (.cS ⟨#[112, 101, 114, 104, 97, 112, 115]⟩) (.sl (.var 0) .cN (.cI 2))) (.cons (.or2 (.cmp .isin (.cS ⟨#[115, 117, 114, 101]⟩) (.sl (.var 0) .cN (.cI 2))) (.or1 (.cmp .eq (.idx (.var 0) (.cI 6)) (.cS ⟨#[115, 117, 114, 101]⟩)))) .nil))))
    (.cons (.ite (.vc .isin (.cS ⟨#[110, 111, 110, 101]⟩) (.sl (.var 0) .cN (.cI 2))) (.cons (.ret (.cI 1))
    .nil) .nil)
    (.cons (.ite (.or2 (.and2 (.val (.idx (.var 1) (.cI 0))) (.and1 (.vc .eq (.idx (.var 0) (.cI 3)) (.cS ⟨#[97, 110, 115, 119, 101, 114]⟩)))) (.or1 (.and2 (.val (.idx (.var 1) (.cI 1))) (.and1 (.vc .eq (.idx (.var 0) (.cI 4)) (.cS ⟨#[97, 110, 115, 119, 101, 114]⟩)))))) (.cons (.ret (.cI 2))
    .nil) .nil)
    (.cons (.ite (.and2 (.val (.idx (.var 1) (.cI 0))) (.and2 (.vc .eq (.idx (.var 0) (.cI 3)) (.cS ⟨#[99, 104, 101, 99, 107]⟩)) (.and2 (.vc .eq (.idx (.var 0) (.cI 5)) (.cS ⟨#[109, 97, 114, 107]⟩)) (.and1 (.or2 (.vc .ne (.idx (.var 0) (.cI 0)) (.cS ⟨#[115, 117, 114, 101]⟩)) (.or1 (.vc .ne (.idx (.var 0) (.cI 6)) (.cS ⟨#[115, 117, 114, 101]⟩)))))))) (.cons (.ret (.cI 3))
    .nil) .nil)
    (.cons (.ite (.and2 (.val (.idx (.var 1) (.cI 1))) (.and2 (.vc .eq (.idx (.var 0) (.cI 4)) (.cS ⟨#[99, 104, 101, 99, 107]⟩)) (.and2 (.vc .eq (.idx (.var 0) (.cI 5)) (.cS ⟨#[109, 97, 114, 107]⟩)) (.and1 (.vc .eq (.idx (.var 0) (.cI 8)) (.cS ⟨#[97, 104, 101, 97, 100]⟩)))))) (.cons (.ret (.cI 4))
    .nil) .nil)
    (.cons (.ite (.vc .eq (.idx (.var 0) (.cI 7)) (.cS ⟨#[108, 97, 115, 116]⟩)) (.cons (.ret (.cI 6))
    .nil) .nil)
    (.cons (.ite (.vc .eq (.idx (.var 0) (.cI 9)) (.cS ⟨#[98, 101, 104, 105, 110, 100]⟩)) (.cons (.ret (.cI 7))
    .nil) .nil)
    (.cons (.ite (.vc .eq (.idx (.var 0) (.cI 11)) (.cS ⟨#[97, 110, 121]⟩)) (.cons (.ret (.cI 8))
    .nil) .nil)
    (.cons (.ret (.ife (.or2 (.vc .eq (.idx (.var 0) (.cI 8)) (.cS ⟨#[98, 101, 104, 105, 110, 100]⟩)) (.or1 (.and2 (.vc .eq (.idx (.var 0) (.cI 8)) (.cS ⟨#[117, 110, 108, 101, 115, 115]⟩)) (.and1 (.vc .ne (.idx (.var 0) (.cI 2)) (.cS ⟨#[110, 101, 118, 101, 114]⟩)))))) (.cI 9) .cN))
    .nil)))))))))⟩
/-- _law_number_alone -/
def n15 : List Str := ["book", "found"]
def f15 : PL.Fn := ⟨1, 2, (.cons (.asg (.name 1) (.call 14 (.cons (.var 0) .nil)))
    (.cons (.ite (.and2 (.vc .isnn (.var 1) .cN) (.and1 (.vc .lt (.var 1) (.cI 5)))) (.cons (.ret (.var 1))
    .nil) .nil)
    (.cons (.ite (.or2 (.vc .ne (.idx (.var 0) (.cI 6)) (.cS ⟨#[115, 117, 114, 101]⟩)) (.or1 (.vc .eq (.idx (.var 0) (.cI 2)) (.cS ⟨#[110, 101, 118, 101, 114]⟩)))) (.cons (.ret .cN)
    .nil) .nil)
    (.cons (.ite (.or2 (.vc .eq (.idx (.var 0) (.cI 8)) (.cS ⟨#[117, 110, 108, 101, 115, 115]⟩)) (.or1 (.and2 (.vc .eq (.idx (.var 0) (.cI 8)) (.cS ⟨#[97, 104, 101, 97, 100]⟩)) (.and1 (.vc .eq (.idx (.var 0) (.cI 9)) (.cS ⟨#[98, 101, 104, 105, 110, 100]⟩)))))) (.cons (.ret (.cI 5))
    .nil) .nil)
    (.cons (.ret (.ife (.and2 (.vc .eq (.idx (.var 0) (.cI 8)) (.cS ⟨#[98, 101, 104, 105, 110, 100]⟩)) (.and1 (.vc .eq (.idx (.var 0) (.cI 10)) (.cS ⟨#[107, 101, 112, 116]⟩)))) (.cI 5) .cN))
    .nil)))))⟩
/-- _law_is_right -/
def n16 : List Str := ["book", "is_named", "known", "due", "came", "own"]
def f16 : PL.Fn := ⟨2, 6, (.cons (.par [2, 3] (.cons (.blt .repr (.cons (.var 0) .nil)) (.cons (.lst (.cons (.call 14 (.cons (.var 0) .nil)) (.cons (.call 15 (.cons (.var 0) .nil)) .nil))) .nil)))
    (.cons (.asg (.name 4) (.lst (.cons (.call 5 (.cons (.var 0) .nil)) (.cons (.call 3 (.cons (.var 0) .nil)) .nil))))
    (.cons (.ite (.val (.var 1)) (.cons (.asg (.name 4) (.lst (.cons (.callK 5 .nil (.cons (.var 0) .nil) [0]) (.cons (.callK 3 .nil (.cons (.var 0) .nil) [0]) .nil))))
    .nil) .nil)
    (.cons (.ite (.or2 (.vc .ne (.blt .repr (.cons (.var 4) .nil)) (.blt .repr (.cons (.var 3) .nil))) (.or1 (.vc .ne (.blt .repr (.cons (.lst (.cons (.call 6 (.cons (.var 0) .nil)) (.cons (.call 4 (.cons (.var 0) .nil)) .nil))) .nil)) (.blt .repr (.cons (.lc [5] (.cmp .isn (.var 5) .cN) (.name 5) .plain (.cons (.var 3) .nil) .yes) .nil))))) (.cons (.ret (.cB false))
    .nil) .nil)
    (.cons (.ite (.or2 (.and2 (.val (.call 6 (.cons (.var 0) .nil))) (.and1 (.not (.val (.call 4 (.cons (.var 0) .nil)))))) (.or1 (.and2 (.vc .isin (.idx (.var 4) (.cI 0)) (.tup (.cons (.cI 1) (.cons (.cI 2) (.cons (.cI 3) (.cons (.cI 4) .nil)))))) (.and1 (.vc .ne (.idx (.var 4) (.cI 1)) (.idx (.var 4) (.cI 0))))))) (.cons (.ret (.cB false))
    .nil) .nil)
    (.cons (.ret (.and2 (.or2 (.cmp .isin (.idx (.var 4) (.cI 0)) (.tup (.cons (.cI 1) (.cons (.cI 2) (.cons (.cI 3) (.cons (.cI 4) .nil)))))) (.or1 (.cmp .isin (.idx (.var 4) (.cI 1)) (.tup (.cons .cN (.cons (.cI 5) .nil)))))) (.and1 (.cmp .eq (.blt .repr (.cons (.var 0) .nil)) (.var 2)))))
    .nil))))))⟩
/-- law -/
def n17 : List Str := ["script", "deck", "turn", "book", "other", "write", "hands"]
def f17 : PL.Fn := ⟨1, 7, (.cons (.asg (.name 1) (.call 7 (.cons (.var 0) .nil)))
    (.cons (.for_ (.name 2) .range1 (.cons (.cI 4) .nil) (.cons (.asg (.name 3) (.call 12 (.cons (.var 1) .nil)))
    (.cons (.for_ (.name 4) .plain (.cons (.bin .add (.lst (.cons (.var 3) .nil)) (.call 13 (.cons (.var 3) .nil))) .nil) (.cons (.ite (.not (.val (.call 16 (.cons (.var 4) (.cons (.cmp .eq (.var 2) (.cI 1)) .nil))))) (.cons (.ret (.cB false))
    .nil) .nil)
    .nil))
    .nil)))
    (.cons (.for_ (.name 2) .range1 (.cons (.cI 40) .nil) (.cons (.asg (.name 3) (.call 11 (.cons (.var 1) .nil)))
    (.cons (.ite (.vc .lt (.var 2) (.cI 12)) (.cons (.asg (.name 3) (.call 9 (.cons (.var 1) (.cons (.call 13 (.cons (.call 9 (.cons (.var 1) (.cons (.call 13 (.cons (.call 12 (.cons (.var 1) .nil)) .nil)) .nil))) .nil)) .nil))))
    .nil) .nil)
    (.cons (.par [5, 6] (.cons (.call 9 (.cons (.var 1) (.cons (.lst (.cons (.cS ⟨#[102, 105, 114, 115, 116]⟩) (.cons (.cS ⟨#[108, 97, 115, 116]⟩) (.cons (.cS ⟨#[98, 101, 116, 119, 101, 101, 110]⟩) .nil)))) .nil))) (.cons (.call 9 (.cons (.var 1) (.cons (.lst (.cons (.cS ⟨#[111, 110, 101]⟩) (.cons (.cS ⟨#[97, 110, 121]⟩) .nil))) .nil))) .nil)))
    (.cons (.asg (.name 4) (.bin .add (.bin .add (.bin .add (.sl (.var 3) .cN (.cI 7)) (.tup (.cons (.var 5) .nil))) (.sl (.var 3) (.cI 8) (.cI 11))) (.tup (.cons (.var 6) .nil))))
    (.cons (.ite (.or2 (.not (.val (.call 16 (.cons (.var 3) (.cons (.cB false) .nil))))) (.or1 (.vc .ne (.blt .repr (.cons (.call 3 (.cons (.var 4) .nil)) .nil)) (.blt .repr (.cons (.call 3 (.cons (.var 3) .nil)) .nil))))) (.cons (.ret (.cB false))
    .nil) .nil)
    .nil))))))
    (.cons (.ret (.cB true))
    .nil))))⟩
def tab : PL.Tab where
  fns := [("can_stand", ["book"]), ("is_checked_by_mark", ["book", "mark"]), ("is_left_marked", ["book"]), ("slip_alone", ["book"]), ("safe_alone", ["book"]), ("slip", ["book"]), ("safe", ["book"]), ("_law_deck", ["script"]), ("_law_draw", ["deck", "many"]), ("_law_pick", ["deck", "items"]), ("_law_words", []), ("_law_book", ["deck"]), ("_law_safe_book", ["deck"]), ("_law_beside", ["book"]), ("_law_number", ["book"]), ("_law_number_alone", ["book"]), ("_law_is_right", ["book", "is_named"]), ("law", ["script"])]
  kws := [(3, 0, ["book"], [0]), (5, 0, ["book"], [0])]
  free := ["tuple", "len", "abs", "int", "enumerate", "repr", "range"]
  cons := []
def prog : List PL.Fn := [f0, f1, f2, f3, f4, f5, f6, f7, f8, f9, f10, f11, f12, f13, f14, f15, f16, f17]
def cons : List PL.D := []
theorem chk0 : PL.defB tab f0 (top 1) n0 ["book"] = true := by decide +kernel
theorem chk1 : PL.defB tab f1 (top 3) n1 ["book", "mark"] = true := by decide +kernel
theorem chk2 : PL.defB tab f2 (top 4) n2 ["book"] = true := by decide +kernel
theorem chk3 : PL.defB tab f3 (top 5) n3 ["book"] = true := by decide +kernel
theorem chk4 : PL.defB tab f4 (top 6) n4 ["book"] = true := by decide +kernel
theorem chk5 : PL.defB tab f5 (top 8) n5 ["book"] = true := by decide +kernel
theorem chk6 : PL.defB tab f6 (top 9) n6 ["book"] = true := by decide +kernel
theorem chk7 : PL.defB tab f7 (top 11) n7 ["script"] = true := by decide +kernel
theorem chk8 : PL.defB tab f8 (top 12) n8 ["deck", "many"] = true := by decide +kernel
theorem chk9 : PL.defB tab f9 (top 13) n9 ["deck", "items"] = true := by decide +kernel
theorem chk10 : PL.defB tab f10 (top 14) n10 [] = true := by decide +kernel
theorem chk11 : PL.defB tab f11 (top 15) n11 ["deck"] = true := by decide +kernel
theorem chk12 : PL.defB tab f12 (top 16) n12 ["deck"] = true := by decide +kernel
theorem chk13 : PL.defB tab f13 (top 17) n13 ["book"] = true := by decide +kernel
theorem chk14 : PL.defB tab f14 (top 18) n14 ["book"] = true := by decide +kernel
theorem chk15 : PL.defB tab f15 (top 19) n15 ["book"] = true := by decide +kernel
theorem chk16 : PL.defB tab f16 (top 20) n16 ["book", "is_named"] = true := by decide +kernel
theorem chk17 : PL.defB tab f17 (top 21) n17 ["script"] = true := by decide +kernel
/-! ### the head -/
def d0 : He.DefD := ⟨("can_stand", none), "can_stand", "can_stand", defArgs (top 1), defBody (top 1), defScope (top 1), [], []⟩
def d1 : He.DefD := ⟨("is_checked_by_mark", none), "is_checked_by_mark", "is_checked_by_mark", defArgs (top 3), defBody (top 3), defScope (top 3), [], []⟩
def d2 : He.DefD := ⟨("is_left_marked", none), "is_left_marked", "is_left_marked", defArgs (top 4), defBody (top 4), defScope (top 4), [], []⟩
def d3 : He.DefD := ⟨("slip_alone", none), "slip_alone", "slip_alone", defArgs (top 5), defBody (top 5), defScope (top 5), [], []⟩
def d4 : He.DefD := ⟨("safe_alone", none), "safe_alone", "safe_alone", defArgs (top 6), defBody (top 6), defScope (top 6), [], []⟩
def d5 : He.DefD := ⟨("slip", none), "slip", "slip", defArgs (top 8), defBody (top 8), defScope (top 8), [], []⟩
def d6 : He.DefD := ⟨("safe", none), "safe", "safe", defArgs (top 9), defBody (top 9), defScope (top 9), [], []⟩
def d7 : He.DefD := ⟨("_law_deck", none), "_law_deck", "_law_deck", defArgs (top 11), defBody (top 11), defScope (top 11), [], []⟩
def d8 : He.DefD := ⟨("_law_draw", none), "_law_draw", "_law_draw", defArgs (top 12), defBody (top 12), defScope (top 12), [], []⟩
def d9 : He.DefD := ⟨("_law_pick", none), "_law_pick", "_law_pick", defArgs (top 13), defBody (top 13), defScope (top 13), [], []⟩
def d10 : He.DefD := ⟨("_law_words", none), "_law_words", "_law_words", defArgs (top 14), defBody (top 14), defScope (top 14), [], []⟩
def d11 : He.DefD := ⟨("_law_book", none), "_law_book", "_law_book", defArgs (top 15), defBody (top 15), defScope (top 15), [], []⟩
def d12 : He.DefD := ⟨("_law_safe_book", none), "_law_safe_book", "_law_safe_book", defArgs (top 16), defBody (top 16), defScope (top 16), [], []⟩
def d13 : He.DefD := ⟨("_law_beside", none), "_law_beside", "_law_beside", defArgs (top 17), defBody (top 17), defScope (top 17), [], []⟩
def d14 : He.DefD := ⟨("_law_number", none), "_law_number", "_law_number", defArgs (top 18), defBody (top 18), defScope (top 18), [], []⟩
def d15 : He.DefD := ⟨("_law_number_alone", none), "_law_number_alone", "_law_number_alone", defArgs (top 19), defBody (top 19), defScope (top 19), [], []⟩
def d16 : He.DefD := ⟨("_law_is_right", none), "_law_is_right", "_law_is_right", defArgs (top 20), defBody (top 20), defScope (top 20), [], []⟩
def d17 : He.DefD := ⟨("law", none), "law", "law", defArgs (top 21), defBody (top 21), defScope (top 21), [], []⟩
def fn : List He.DefD := [d0, d1, d2, d3, d4, d5, d6, d7, d8, d9, d10, d11, d12, d13, d14, d15, d16, d17]
def fa : List He.Fa := [.glo "can_stand", .glo "is_checked_by_mark", .glo "is_left_marked", .glo "slip_alone", .glo "safe_alone", .glo "slip", .glo "safe", .glo "_law_deck", .glo "_law_draw", .glo "_law_pick", .glo "_law_words", .glo "_law_book", .glo "_law_safe_book", .glo "_law_beside", .glo "_law_number", .glo "_law_number_alone", .glo "_law_is_right", .glo "law", .free "tuple", .free "len", .free "abs", .free "int", .free "enumerate", .free "repr", .free "range"]
abbrev R : PySem.W.OpenRow := PySem.W.OpenLaw.row PySem.Challenge.rw_keptmarks_k74_whole_safe_is_safe_alone
abbrev hk : PySem.W.Hook := He.hookD 4 fa fn
def ob (s : PySem.W.SharedT) : He.AlD := He.obsDG 4 fa fn (HandSHeadRun.getT s)
theorem ob_eq (s : PySem.W.SharedT) : ob s = hk.obs s.abs := He.obsDG_eq (HandSHeadRun.getT_eq s)
def loose : List Str := (["can_stand", "is_checked_by_mark", "is_left_marked", "slip_alone", "safe_alone", "slip", "safe", "_law_deck", "_law_draw", "_law_pick", "_law_words", "_law_book", "_law_safe_book", "_law_beside", "_law_number", "_law_number_alone", "_law_is_right"] : List Str)
theorem run_top (w : World) : HandSHeadRun.RunEq R (PySem.W.view R.prog [21]) hk ob 1280 loose w := by
  intro os
  kernel_rfl
theorem mods {K : PySem.W.Frag} {h : Heap} {mg : Str → Option Value} (X : K.In h) (G : h.Ns mainGlobals mg) (c : He.SaysD fa fn K) : PL.Mods tab prog cons K mg where
  defs := fun i x ps hi => by
    match i, hi with
    | 0, hi =>
      cases hi
      obtain ⟨fd, F⟩ := c.def_ 0 (d := d0) rfl
      refine ⟨_, fd, PL.defOk_by (st := top 1) (N := n0) (He.glo_ok X G (c.fact 0 (f := .glo "can_stand") rfl)) F rfl chk0 (fun _ _ _ _ _ _ us hl => match us, hl with | [_], _ => rfl) ?_⟩
      intro q hq
      exact absurd (show q ∈ ([] : List (Nat × List Str × List Nat)) from hq) (by simp)
    | 1, hi =>
      cases hi
      obtain ⟨fd, F⟩ := c.def_ 1 (d := d1) rfl
      refine ⟨_, fd, PL.defOk_by (st := top 3) (N := n1) (He.glo_ok X G (c.fact 1 (f := .glo "is_checked_by_mark") rfl)) F rfl chk1 (fun _ _ _ _ _ _ us hl => match us, hl with | [_, _], _ => rfl) ?_⟩
      intro q hq
      exact absurd (show q ∈ ([] : List (Nat × List Str × List Nat)) from hq) (by simp)
    | 2, hi =>
      cases hi
      obtain ⟨fd, F⟩ := c.def_ 2 (d := d2) rfl
      refine ⟨_, fd, PL.defOk_by (st := top 4) (N := n2) (He.glo_ok X G (c.fact 2 (f := .glo "is_left_marked") rfl)) F rfl chk2 (fun _ _ _ _ _ _ us hl => match us, hl with | [_], _ => rfl) ?_⟩
      intro q hq
      exact absurd (show q ∈ ([] : List (Nat × List Str × List Nat)) from hq) (by simp)
    | 3, hi =>
      cases hi
      obtain ⟨fd, F⟩ := c.def_ 3 (d := d3) rfl
      refine ⟨_, fd, PL.defOk_by (st := top 5) (N := n3) (He.glo_ok X G (c.fact 3 (f := .glo "slip_alone") rfl)) F rfl chk3 (fun _ _ _ _ _ _ us hl => match us, hl with | [_], _ => rfl) ?_⟩
      intro q hq
      have hq : q ∈ ([(0, ["book"], [0])] : List (Nat × List Str × List Nat)) := hq
      simp only [List.mem_cons, List.not_mem_nil, or_false] at hq
      subst hq
      exact fun _ _ _ _ _ _ us ws l1 l2 => match us, ws, l1, l2 with | [], [_], _, _ => rfl
    | 4, hi =>
      cases hi
      obtain ⟨fd, F⟩ := c.def_ 4 (d := d4) rfl
      refine ⟨_, fd, PL.defOk_by (st := top 6) (N := n4) (He.glo_ok X G (c.fact 4 (f := .glo "safe_alone") rfl)) F rfl chk4 (fun _ _ _ _ _ _ us hl => match us, hl with | [_], _ => rfl) ?_⟩
      intro q hq
      exact absurd (show q ∈ ([] : List (Nat × List Str × List Nat)) from hq) (by simp)
    | 5, hi =>
      cases hi
      obtain ⟨fd, F⟩ := c.def_ 5 (d := d5) rfl
      refine ⟨_, fd, PL.defOk_by (st := top 8) (N := n5) (He.glo_ok X G (c.fact 5 (f := .glo "slip") rfl)) F rfl chk5 (fun _ _ _ _ _ _ us hl => match us, hl with | [_], _ => rfl) ?_⟩
      intro q hq
      have hq : q ∈ ([(0, ["book"], [0])] : List (Nat × List Str × List Nat)) := hq
      simp only [List.mem_cons, List.not_mem_nil, or_false] at hq
      subst hq
      exact fun _ _ _ _ _ _ us ws l1 l2 => match us, ws, l1, l2 with | [], [_], _, _ => rfl
    | 6, hi =>
      cases hi
      obtain ⟨fd, F⟩ := c.def_ 6 (d := d6) rfl
      refine ⟨_, fd, PL.defOk_by (st := top 9) (N := n6) (He.glo_ok X G (c.fact 6 (f := .glo "safe") rfl)) F rfl chk6 (fun _ _ _ _ _ _ us hl => match us, hl with | [_], _ => rfl) ?_⟩
      intro q hq
      exact absurd (show q ∈ ([] : List (Nat × List Str × List Nat)) from hq) (by simp)
    | 7, hi =>
      cases hi
      obtain ⟨fd, F⟩ := c.def_ 7 (d := d7) rfl
      refine ⟨_, fd, PL.defOk_by (st := top 11) (N := n7) (He.glo_ok X G (c.fact 7 (f := .glo "_law_deck") rfl)) F rfl chk7 (fun _ _ _ _ _ _ us hl => match us, hl with | [_], _ => rfl) ?_⟩
      intro q hq
      exact absurd (show q ∈ ([] : List (Nat × List Str × List Nat)) from hq) (by simp)
    | 8, hi =>
      cases hi
      obtain ⟨fd, F⟩ := c.def_ 8 (d := d8) rfl
      refine ⟨_, fd, PL.defOk_by (st := top 12) (N := n8) (He.glo_ok X G (c.fact 8 (f := .glo "_law_draw") rfl)) F rfl chk8 (fun _ _ _ _ _ _ us hl => match us, hl with | [_, _], _ => rfl) ?_⟩
      intro q hq
      exact absurd (show q ∈ ([] : List (Nat × List Str × List Nat)) from hq) (by simp)
    | 9, hi =>
      cases hi
      obtain ⟨fd, F⟩ := c.def_ 9 (d := d9) rfl
      refine ⟨_, fd, PL.defOk_by (st := top 13) (N := n9) (He.glo_ok X G (c.fact 9 (f := .glo "_law_pick") rfl)) F rfl chk9 (fun _ _ _ _ _ _ us hl => match us, hl with | [_, _], _ => rfl) ?_⟩
      intro q hq
      exact absurd (show q ∈ ([] : List (Nat × List Str × List Nat)) from hq) (by simp)
    | 10, hi =>
      cases hi
      obtain ⟨fd, F⟩ := c.def_ 10 (d := d10) rfl
      refine ⟨_, fd, PL.defOk_by (st := top 14) (N := n10) (He.glo_ok X G (c.fact 10 (f := .glo "_law_words") rfl)) F rfl chk10 (fun _ _ _ _ _ _ us hl => match us, hl with | [], _ => rfl) ?_⟩
      intro q hq
      exact absurd (show q ∈ ([] : List (Nat × List Str × List Nat)) from hq) (by simp)
    | 11, hi =>
      cases hi
      obtain ⟨fd, F⟩ := c.def_ 11 (d := d11) rfl
      refine ⟨_, fd, PL.defOk_by (st := top 15) (N := n11) (He.glo_ok X G (c.fact 11 (f := .glo "_law_book") rfl)) F rfl chk11 (fun _ _ _ _ _ _ us hl => match us, hl with | [_], _ => rfl) ?_⟩
      intro q hq
      exact absurd (show q ∈ ([] : List (Nat × List Str × List Nat)) from hq) (by simp)
    | 12, hi =>
      cases hi
      obtain ⟨fd, F⟩ := c.def_ 12 (d := d12) rfl
      refine ⟨_, fd, PL.defOk_by (st := top 16) (N := n12) (He.glo_ok X G (c.fact 12 (f := .glo "_law_safe_book") rfl)) F rfl chk12 (fun _ _ _ _ _ _ us hl => match us, hl with | [_], _ => rfl) ?_⟩
      intro q hq
      exact absurd (show q ∈ ([] : List (Nat × List Str × List Nat)) from hq) (by simp)
    | 13, hi =>
      cases hi
      obtain ⟨fd, F⟩ := c.def_ 13 (d := d13) rfl
      refine ⟨_, fd, PL.defOk_by (st := top 17) (N := n13) (He.glo_ok X G (c.fact 13 (f := .glo "_law_beside") rfl)) F rfl chk13 (fun _ _ _ _ _ _ us hl => match us, hl with | [_], _ => rfl) ?_⟩
      intro q hq
      exact absurd (show q ∈ ([] : List (Nat × List Str × List Nat)) from hq) (by simp)
    | 14, hi =>
      cases hi
      obtain ⟨fd, F⟩ := c.def_ 14 (d := d14) rfl
      refine ⟨_, fd, PL.defOk_by (st := top 18) (N := n14) (He.glo_ok X G (c.fact 14 (f := .glo "_law_number") rfl)) F rfl chk14 (fun _ _ _ _ _ _ us hl => match us, hl with | [_], _ => rfl) ?_⟩
      intro q hq
      exact absurd (show q ∈ ([] : List (Nat × List Str × List Nat)) from hq) (by simp)
    | 15, hi =>
      cases hi
      obtain ⟨fd, F⟩ := c.def_ 15 (d := d15) rfl
      refine ⟨_, fd, PL.defOk_by (st := top 19) (N := n15) (He.glo_ok X G (c.fact 15 (f := .glo "_law_number_alone") rfl)) F rfl chk15 (fun _ _ _ _ _ _ us hl => match us, hl with | [_], _ => rfl) ?_⟩
      intro q hq
      exact absurd (show q ∈ ([] : List (Nat × List Str × List Nat)) from hq) (by simp)
    | 16, hi =>
      cases hi
      obtain ⟨fd, F⟩ := c.def_ 16 (d := d16) rfl
      refine ⟨_, fd, PL.defOk_by (st := top 20) (N := n16) (He.glo_ok X G (c.fact 16 (f := .glo "_law_is_right") rfl)) F rfl chk16 (fun _ _ _ _ _ _ us hl => match us, hl with | [_, _], _ => rfl) ?_⟩
      intro q hq
      exact absurd (show q ∈ ([] : List (Nat × List Str × List Nat)) from hq) (by simp)
    | 17, hi =>
      cases hi
      obtain ⟨fd, F⟩ := c.def_ 17 (d := d17) rfl
      refine ⟨_, fd, PL.defOk_by (st := top 21) (N := n17) (He.glo_ok X G (c.fact 17 (f := .glo "law") rfl)) F rfl chk17 (fun _ _ _ _ _ _ us hl => match us, hl with | [_], _ => rfl) ?_⟩
      intro q hq
      exact absurd (show q ∈ ([] : List (Nat × List Str × List Nat)) from hq) (by simp)
    | n + 18, hi => cases hi
  free := fun x hx => by
    have hx : x ∈ (["tuple", "len", "abs", "int", "enumerate", "repr", "range"] : List Str) := hx
    simp only [List.mem_cons, List.not_mem_nil, or_false] at hx
    rcases hx with rfl | rfl | rfl | rfl | rfl | rfl | rfl
    · exact He.free_ok X G (c.fact 18 (f := .free "tuple") rfl)
    · exact He.free_ok X G (c.fact 19 (f := .free "len") rfl)
    · exact He.free_ok X G (c.fact 20 (f := .free "abs") rfl)
    · exact He.free_ok X G (c.fact 21 (f := .free "int") rfl)
    · exact He.free_ok X G (c.fact 22 (f := .free "enumerate") rfl)
    · exact He.free_ok X G (c.fact 23 (f := .free "repr") rfl)
    · exact He.free_ok X G (c.fact 24 (f := .free "range") rfl)
  con := fun i x d hi => by
    exact absurd hi (by simp [tab])
end K74

set_option Elab.async false
set_option linter.all false
set_option maxRecDepth 100000
set_option maxHeartbeats 4000000
namespace K74
open PL PySem
def cod (r : Res D) : Nat := match r with
  | .ok .non _ => 0
  | .ok (.int (.ofNat (n + 1))) _ => n + 1
  | _ => 99
def okP : Nat → Nat → Bool
  | 1, 1 => true | 2, 2 => true | 3, 3 => true | 4, 4 => true
  | 0, 0 => true | 6, 0 => true | 6, 5 => true | 7, 0 => true | 7, 5 => true | 8, 0 => true | 8, 5 => true | 9, 0 => true | 9, 5 => true
  | _, _ => false
def pairB (a a' b b' : Nat) : Bool := match Nat.beq a a' with
  | true => match Nat.beq b b' with
    | true => okP a b
    | false => false
  | false => false
def lf_pair  (w : Nat → Str) : Bool := pairB (cod (PL.run prog cons 8 5 [bk w] [])) (cod (PL.run prog cons 8 14 [bk w] [])) (cod (PL.run prog cons 8 3 [bk w] [])) (cod (PL.run prog cons 8 15 [bk w] []))
def tr_pair_1 : Tr := (.node 1 [(.node 6 [.leaf, .leaf]), (.node 6 [.leaf, .leaf]), .leaf])
theorem t_pair_1 (w : Nat → Str) : tr_pair_1.chk dom (lf_pair) (setW (w) 0 "none") = true := by kernel_rfl
def tr_pair_3 : Tr := (.node 6 [.leaf, .leaf])
theorem t_pair_3 (w : Nat → Str) : tr_pair_3.chk dom (lf_pair) (setW (setW (w) 0 "perhaps") 1 "none") = true := by kernel_rfl
def tr_pair_5 : Tr := (.node 3 [.leaf, (.node 5 [(.node 7 [(.node 9 [(.node 11 [(.node 8 [.leaf, .leaf, (.node 2 [.leaf, .leaf, .leaf])]), .leaf]), .leaf]), .leaf, (.node 9 [(.node 11 [(.node 8 [.leaf, .leaf, (.node 2 [.leaf, .leaf, .leaf])]), .leaf]), .leaf])]), .leaf]), (.node 7 [(.node 9 [(.node 11 [(.node 8 [.leaf, .leaf, (.node 2 [.leaf, .leaf, .leaf])]), .leaf]), .leaf]), .leaf, (.node 9 [(.node 11 [(.node 8 [.leaf, .leaf, (.node 2 [.leaf, .leaf, .leaf])]), .leaf]), .leaf])])])
theorem t_pair_5 (w : Nat → Str) : tr_pair_5.chk dom (lf_pair) (setW (setW (setW (w) 0 "perhaps") 1 "perhaps") 6 "none") = true := by kernel_rfl
def tr_pair_7 : Tr := (.node 4 [.leaf, .leaf, .leaf])
theorem t_pair_7 (w : Nat → Str) : tr_pair_7.chk dom (lf_pair) (setW (setW (setW (setW (w) 0 "perhaps") 1 "perhaps") 6 "sure") 3 "answer") = true := by kernel_rfl
def tr_pair_9 : Tr := .leaf
theorem t_pair_9 (w : Nat → Str) : tr_pair_9.chk dom (lf_pair) (setW (setW (setW (setW (setW (w) 0 "perhaps") 1 "perhaps") 6 "sure") 3 "check") 4 "answer") = true := by kernel_rfl
def tr_pair_10 : Tr := (.node 5 [(.node 2 [(.node 8 [(.node 9 [(.node 7 [(.node 11 [.leaf, .leaf]), .leaf, (.node 11 [.leaf, .leaf])]), (.node 7 [.leaf, .leaf, .leaf])]), (.node 10 [(.node 7 [(.node 9 [(.node 11 [.leaf, .leaf]), .leaf]), .leaf, (.node 9 [(.node 11 [.leaf, .leaf]), .leaf])]), (.node 7 [(.node 9 [(.node 11 [.leaf, .leaf]), .leaf]), .leaf, (.node 9 [(.node 11 [.leaf, .leaf]), .leaf])])]), (.node 7 [(.node 9 [(.node 11 [.leaf, .leaf]), .leaf]), .leaf, (.node 9 [(.node 11 [.leaf, .leaf]), .leaf])])]), (.node 8 [(.node 9 [(.node 7 [(.node 11 [.leaf, .leaf]), .leaf, (.node 11 [.leaf, .leaf])]), (.node 7 [.leaf, .leaf, .leaf])]), (.node 10 [(.node 7 [(.node 9 [(.node 11 [.leaf, .leaf]), .leaf]), .leaf, (.node 9 [(.node 11 [.leaf, .leaf]), .leaf])]), (.node 7 [(.node 9 [(.node 11 [.leaf, .leaf]), .leaf]), .leaf, (.node 9 [(.node 11 [.leaf, .leaf]), .leaf])])]), (.node 7 [(.node 9 [(.node 11 [.leaf, .leaf]), .leaf]), .leaf, (.node 9 [(.node 11 [.leaf, .leaf]), .leaf])])]), (.node 7 [(.node 9 [(.node 11 [(.node 8 [.leaf, .leaf, .leaf]), .leaf]), .leaf]), .leaf, (.node 9 [(.node 11 [(.node 8 [.leaf, .leaf, .leaf]), .leaf]), .leaf])])]), .leaf])
theorem t_pair_10 (w : Nat → Str) : tr_pair_10.chk dom (lf_pair) (setW (setW (setW (setW (setW (w) 0 "perhaps") 1 "perhaps") 6 "sure") 3 "check") 4 "check") = true := by kernel_rfl
def tr_pair_11 : Tr := (.node 5 [(.node 2 [(.node 8 [(.node 9 [(.node 7 [(.node 11 [.leaf, .leaf]), .leaf, (.node 11 [.leaf, .leaf])]), (.node 7 [.leaf, .leaf, .leaf])]), (.node 10 [(.node 7 [(.node 9 [(.node 11 [.leaf, .leaf]), .leaf]), .leaf, (.node 9 [(.node 11 [.leaf, .leaf]), .leaf])]), (.node 7 [(.node 9 [(.node 11 [.leaf, .leaf]), .leaf]), .leaf, (.node 9 [(.node 11 [.leaf, .leaf]), .leaf])])]), (.node 7 [(.node 9 [(.node 11 [.leaf, .leaf]), .leaf]), .leaf, (.node 9 [(.node 11 [.leaf, .leaf]), .leaf])])]), (.node 8 [(.node 9 [(.node 7 [(.node 11 [.leaf, .leaf]), .leaf, (.node 11 [.leaf, .leaf])]), (.node 7 [.leaf, .leaf, .leaf])]), (.node 10 [(.node 7 [(.node 9 [(.node 11 [.leaf, .leaf]), .leaf]), .leaf, (.node 9 [(.node 11 [.leaf, .leaf]), .leaf])]), (.node 7 [(.node 9 [(.node 11 [.leaf, .leaf]), .leaf]), .leaf, (.node 9 [(.node 11 [.leaf, .leaf]), .leaf])])]), (.node 7 [(.node 9 [(.node 11 [.leaf, .leaf]), .leaf]), .leaf, (.node 9 [(.node 11 [.leaf, .leaf]), .leaf])])]), (.node 7 [(.node 9 [(.node 11 [(.node 8 [.leaf, .leaf, .leaf]), .leaf]), .leaf]), .leaf, (.node 9 [(.node 11 [(.node 8 [.leaf, .leaf, .leaf]), .leaf]), .leaf])])]), .leaf])
theorem t_pair_11 (w : Nat → Str) : tr_pair_11.chk dom (lf_pair) (setW (setW (setW (setW (setW (w) 0 "perhaps") 1 "perhaps") 6 "sure") 3 "check") 4 "work") = true := by kernel_rfl
def tr_pair_8 : Tr := .node 4 [tr_pair_9, tr_pair_10, tr_pair_11]
theorem t_pair_8 (w : Nat → Str) : tr_pair_8.chk dom (lf_pair) (setW (setW (setW (setW (w) 0 "perhaps") 1 "perhaps") 6 "sure") 3 "check") = true := by
  simp only [tr_pair_8, Tr.chk, PL.chkAll, PL.dom, t_pair_9, t_pair_10, t_pair_11, Bool.and_self]
def tr_pair_13 : Tr := .leaf
theorem t_pair_13 (w : Nat → Str) : tr_pair_13.chk dom (lf_pair) (setW (setW (setW (setW (setW (w) 0 "perhaps") 1 "perhaps") 6 "sure") 3 "work") 4 "answer") = true := by kernel_rfl
def tr_pair_15 : Tr := (.node 2 [(.node 8 [(.node 9 [(.node 7 [(.node 11 [.leaf, .leaf]), .leaf, (.node 11 [.leaf, .leaf])]), (.node 7 [.leaf, .leaf, .leaf])]), (.node 10 [(.node 7 [(.node 9 [(.node 11 [.leaf, .leaf]), .leaf]), .leaf, (.node 9 [(.node 11 [.leaf, .leaf]), .leaf])]), (.node 7 [(.node 9 [(.node 11 [.leaf, .leaf]), .leaf]), .leaf, (.node 9 [(.node 11 [.leaf, .leaf]), .leaf])])]), (.node 7 [(.node 9 [(.node 11 [.leaf, .leaf]), .leaf]), .leaf, (.node 9 [(.node 11 [.leaf, .leaf]), .leaf])])]), (.node 8 [(.node 9 [(.node 7 [(.node 11 [.leaf, .leaf]), .leaf, (.node 11 [.leaf, .leaf])]), (.node 7 [.leaf, .leaf, .leaf])]), (.node 10 [(.node 7 [(.node 9 [(.node 11 [.leaf, .leaf]), .leaf]), .leaf, (.node 9 [(.node 11 [.leaf, .leaf]), .leaf])]), (.node 7 [(.node 9 [(.node 11 [.leaf, .leaf]), .leaf]), .leaf, (.node 9 [(.node 11 [.leaf, .leaf]), .leaf])])]), (.node 7 [(.node 9 [(.node 11 [.leaf, .leaf]), .leaf]), .leaf, (.node 9 [(.node 11 [.leaf, .leaf]), .leaf])])]), (.node 7 [(.node 9 [(.node 11 [(.node 8 [.leaf, .leaf, .leaf]), .leaf]), .leaf]), .leaf, (.node 9 [(.node 11 [(.node 8 [.leaf, .leaf, .leaf]), .leaf]), .leaf])])])
theorem t_pair_15 (w : Nat → Str) : tr_pair_15.chk dom (lf_pair) (setW (setW (setW (setW (setW (setW (w) 0 "perhaps") 1 "perhaps") 6 "sure") 3 "work") 4 "check") 5 "values") = true := by kernel_rfl
def tr_pair_16 : Tr := (.node 8 [.leaf, (.node 2 [(.node 10 [(.node 7 [(.node 9 [(.node 11 [.leaf, .leaf]), .leaf]), .leaf, (.node 9 [(.node 11 [.leaf, .leaf]), .leaf])]), (.node 7 [(.node 9 [(.node 11 [.leaf, .leaf]), .leaf]), .leaf, (.node 9 [(.node 11 [.leaf, .leaf]), .leaf])])]), (.node 10 [(.node 7 [(.node 9 [(.node 11 [.leaf, .leaf]), .leaf]), .leaf, (.node 9 [(.node 11 [.leaf, .leaf]), .leaf])]), (.node 7 [(.node 9 [(.node 11 [.leaf, .leaf]), .leaf]), .leaf, (.node 9 [(.node 11 [.leaf, .leaf]), .leaf])])]), (.node 7 [(.node 9 [(.node 11 [.leaf, .leaf]), .leaf]), .leaf, (.node 9 [(.node 11 [.leaf, .leaf]), .leaf])])]), (.node 2 [(.node 7 [(.node 9 [(.node 11 [.leaf, .leaf]), .leaf]), .leaf, (.node 9 [(.node 11 [.leaf, .leaf]), .leaf])]), (.node 7 [(.node 9 [(.node 11 [.leaf, .leaf]), .leaf]), .leaf, (.node 9 [(.node 11 [.leaf, .leaf]), .leaf])]), (.node 7 [(.node 9 [(.node 11 [.leaf, .leaf]), .leaf]), .leaf, (.node 9 [(.node 11 [.leaf, .leaf]), .leaf])])])])
theorem t_pair_16 (w : Nat → Str) : tr_pair_16.chk dom (lf_pair) (setW (setW (setW (setW (setW (setW (w) 0 "perhaps") 1 "perhaps") 6 "sure") 3 "work") 4 "check") 5 "mark") = true := by kernel_rfl
def tr_pair_14 : Tr := .node 5 [tr_pair_15, tr_pair_16]
theorem t_pair_14 (w : Nat → Str) : tr_pair_14.chk dom (lf_pair) (setW (setW (setW (setW (setW (w) 0 "perhaps") 1 "perhaps") 6 "sure") 3 "work") 4 "check") = true := by
  simp only [tr_pair_14, Tr.chk, PL.chkAll, PL.dom, t_pair_15, t_pair_16, Bool.and_self]
def tr_pair_17 : Tr := (.node 2 [(.node 8 [(.node 9 [(.node 7 [(.node 11 [.leaf, .leaf]), .leaf, (.node 11 [.leaf, .leaf])]), (.node 7 [.leaf, .leaf, .leaf])]), (.node 10 [(.node 7 [(.node 9 [(.node 11 [.leaf, .leaf]), .leaf]), .leaf, (.node 9 [(.node 11 [.leaf, .leaf]), .leaf])]), (.node 7 [(.node 9 [(.node 11 [.leaf, .leaf]), .leaf]), .leaf, (.node 9 [(.node 11 [.leaf, .leaf]), .leaf])])]), (.node 7 [(.node 9 [(.node 11 [.leaf, .leaf]), .leaf]), .leaf, (.node 9 [(.node 11 [.leaf, .leaf]), .leaf])])]), (.node 8 [(.node 9 [(.node 7 [(.node 11 [.leaf, .leaf]), .leaf, (.node 11 [.leaf, .leaf])]), (.node 7 [.leaf, .leaf, .leaf])]), (.node 10 [(.node 7 [(.node 9 [(.node 11 [.leaf, .leaf]), .leaf]), .leaf, (.node 9 [(.node 11 [.leaf, .leaf]), .leaf])]), (.node 7 [(.node 9 [(.node 11 [.leaf, .leaf]), .leaf]), .leaf, (.node 9 [(.node 11 [.leaf, .leaf]), .leaf])])]), (.node 7 [(.node 9 [(.node 11 [.leaf, .leaf]), .leaf]), .leaf, (.node 9 [(.node 11 [.leaf, .leaf]), .leaf])])]), (.node 7 [(.node 9 [(.node 11 [(.node 8 [.leaf, .leaf, .leaf]), .leaf]), .leaf]), .leaf, (.node 9 [(.node 11 [(.node 8 [.leaf, .leaf, .leaf]), .leaf]), .leaf])])])
theorem t_pair_17 (w : Nat → Str) : tr_pair_17.chk dom (lf_pair) (setW (setW (setW (setW (setW (w) 0 "perhaps") 1 "perhaps") 6 "sure") 3 "work") 4 "work") = true := by kernel_rfl
def tr_pair_12 : Tr := .node 4 [tr_pair_13, tr_pair_14, tr_pair_17]
theorem t_pair_12 (w : Nat → Str) : tr_pair_12.chk dom (lf_pair) (setW (setW (setW (setW (w) 0 "perhaps") 1 "perhaps") 6 "sure") 3 "work") = true := by
  simp only [tr_pair_12, Tr.chk, PL.chkAll, PL.dom, t_pair_13, t_pair_14, t_pair_17, Bool.and_self]
def tr_pair_6 : Tr := .node 3 [tr_pair_7, tr_pair_8, tr_pair_12]
theorem t_pair_6 (w : Nat → Str) : tr_pair_6.chk dom (lf_pair) (setW (setW (setW (w) 0 "perhaps") 1 "perhaps") 6 "sure") = true := by
  simp only [tr_pair_6, Tr.chk, PL.chkAll, PL.dom, t_pair_7, t_pair_8, t_pair_12, Bool.and_self]
def tr_pair_4 : Tr := .node 6 [tr_pair_5, tr_pair_6]
theorem t_pair_4 (w : Nat → Str) : tr_pair_4.chk dom (lf_pair) (setW (setW (w) 0 "perhaps") 1 "perhaps") = true := by
  simp only [tr_pair_4, Tr.chk, PL.chkAll, PL.dom, t_pair_5, t_pair_6, Bool.and_self]
def tr_pair_19 : Tr := (.node 3 [(.node 4 [.leaf, .leaf, .leaf]), (.node 4 [.leaf, (.node 5 [(.node 7 [(.node 9 [(.node 11 [(.node 8 [.leaf, .leaf, (.node 2 [.leaf, .leaf, .leaf])]), .leaf]), .leaf]), .leaf, (.node 9 [(.node 11 [(.node 8 [.leaf, .leaf, (.node 2 [.leaf, .leaf, .leaf])]), .leaf]), .leaf])]), .leaf]), (.node 5 [(.node 7 [(.node 9 [(.node 11 [(.node 8 [.leaf, .leaf, (.node 2 [.leaf, .leaf, .leaf])]), .leaf]), .leaf]), .leaf, (.node 9 [(.node 11 [(.node 8 [.leaf, .leaf, (.node 2 [.leaf, .leaf, .leaf])]), .leaf]), .leaf])]), .leaf])]), (.node 4 [.leaf, (.node 5 [(.node 7 [(.node 9 [(.node 11 [(.node 8 [.leaf, .leaf, (.node 2 [.leaf, .leaf, .leaf])]), .leaf]), .leaf]), .leaf, (.node 9 [(.node 11 [(.node 8 [.leaf, .leaf, (.node 2 [.leaf, .leaf, .leaf])]), .leaf]), .leaf])]), (.node 8 [.leaf, (.node 7 [(.node 9 [(.node 11 [.leaf, .leaf]), .leaf]), .leaf, (.node 9 [(.node 11 [.leaf, .leaf]), .leaf])]), (.node 7 [(.node 9 [(.node 11 [(.node 2 [.leaf, .leaf, .leaf]), .leaf]), .leaf]), .leaf, (.node 9 [(.node 11 [(.node 2 [.leaf, .leaf, .leaf]), .leaf]), .leaf])])])]), (.node 7 [(.node 9 [(.node 11 [(.node 8 [.leaf, .leaf, (.node 2 [.leaf, .leaf, .leaf])]), .leaf]), .leaf]), .leaf, (.node 9 [(.node 11 [(.node 8 [.leaf, .leaf, (.node 2 [.leaf, .leaf, .leaf])]), .leaf]), .leaf])])])])
theorem t_pair_19 (w : Nat → Str) : tr_pair_19.chk dom (lf_pair) (setW (setW (setW (w) 0 "perhaps") 1 "sure") 6 "none") = true := by kernel_rfl
def tr_pair_21 : Tr := (.node 4 [.leaf, .leaf, .leaf])
theorem t_pair_21 (w : Nat → Str) : tr_pair_21.chk dom (lf_pair) (setW (setW (setW (setW (w) 0 "perhaps") 1 "sure") 6 "sure") 3 "answer") = true := by kernel_rfl
def tr_pair_23 : Tr := .leaf
theorem t_pair_23 (w : Nat → Str) : tr_pair_23.chk dom (lf_pair) (setW (setW (setW (setW (setW (w) 0 "perhaps") 1 "sure") 6 "sure") 3 "check") 4 "answer") = true := by kernel_rfl
def tr_pair_24 : Tr := (.node 5 [(.node 2 [(.node 8 [(.node 9 [(.node 7 [(.node 11 [.leaf, .leaf]), .leaf, (.node 11 [.leaf, .leaf])]), (.node 7 [.leaf, .leaf, .leaf])]), (.node 10 [(.node 7 [(.node 9 [(.node 11 [.leaf, .leaf]), .leaf]), .leaf, (.node 9 [(.node 11 [.leaf, .leaf]), .leaf])]), (.node 7 [(.node 9 [(.node 11 [.leaf, .leaf]), .leaf]), .leaf, (.node 9 [(.node 11 [.leaf, .leaf]), .leaf])])]), (.node 7 [(.node 9 [(.node 11 [.leaf, .leaf]), .leaf]), .leaf, (.node 9 [(.node 11 [.leaf, .leaf]), .leaf])])]), (.node 8 [(.node 9 [(.node 7 [(.node 11 [.leaf, .leaf]), .leaf, (.node 11 [.leaf, .leaf])]), (.node 7 [.leaf, .leaf, .leaf])]), (.node 10 [(.node 7 [(.node 9 [(.node 11 [.leaf, .leaf]), .leaf]), .leaf, (.node 9 [(.node 11 [.leaf, .leaf]), .leaf])]), (.node 7 [(.node 9 [(.node 11 [.leaf, .leaf]), .leaf]), .leaf, (.node 9 [(.node 11 [.leaf, .leaf]), .leaf])])]), (.node 7 [(.node 9 [(.node 11 [.leaf, .leaf]), .leaf]), .leaf, (.node 9 [(.node 11 [.leaf, .leaf]), .leaf])])]), (.node 7 [(.node 9 [(.node 11 [(.node 8 [.leaf, .leaf, .leaf]), .leaf]), .leaf]), .leaf, (.node 9 [(.node 11 [(.node 8 [.leaf, .leaf, .leaf]), .leaf]), .leaf])])]), .leaf])
theorem t_pair_24 (w : Nat → Str) : tr_pair_24.chk dom (lf_pair) (setW (setW (setW (setW (setW (w) 0 "perhaps") 1 "sure") 6 "sure") 3 "check") 4 "check") = true := by kernel_rfl
def tr_pair_25 : Tr := (.node 5 [(.node 2 [(.node 8 [(.node 9 [(.node 7 [(.node 11 [.leaf, .leaf]), .leaf, (.node 11 [.leaf, .leaf])]), (.node 7 [.leaf, .leaf, .leaf])]), (.node 10 [(.node 7 [(.node 9 [(.node 11 [.leaf, .leaf]), .leaf]), .leaf, (.node 9 [(.node 11 [.leaf, .leaf]), .leaf])]), (.node 7 [(.node 9 [(.node 11 [.leaf, .leaf]), .leaf]), .leaf, (.node 9 [(.node 11 [.leaf, .leaf]), .leaf])])]), (.node 7 [(.node 9 [(.node 11 [.leaf, .leaf]), .leaf]), .leaf, (.node 9 [(.node 11 [.leaf, .leaf]), .leaf])])]), (.node 8 [(.node 9 [(.node 7 [(.node 11 [.leaf, .leaf]), .leaf, (.node 11 [.leaf, .leaf])]), (.node 7 [.leaf, .leaf, .leaf])]), (.node 10 [(.node 7 [(.node 9 [(.node 11 [.leaf, .leaf]), .leaf]), .leaf, (.node 9 [(.node 11 [.leaf, .leaf]), .leaf])]), (.node 7 [(.node 9 [(.node 11 [.leaf, .leaf]), .leaf]), .leaf, (.node 9 [(.node 11 [.leaf, .leaf]), .leaf])])]), (.node 7 [(.node 9 [(.node 11 [.leaf, .leaf]), .leaf]), .leaf, (.node 9 [(.node 11 [.leaf, .leaf]), .leaf])])]), (.node 7 [(.node 9 [(.node 11 [(.node 8 [.leaf, .leaf, .leaf]), .leaf]), .leaf]), .leaf, (.node 9 [(.node 11 [(.node 8 [.leaf, .leaf, .leaf]), .leaf]), .leaf])])]), .leaf])
theorem t_pair_25 (w : Nat → Str) : tr_pair_25.chk dom (lf_pair) (setW (setW (setW (setW (setW (w) 0 "perhaps") 1 "sure") 6 "sure") 3 "check") 4 "work") = true := by kernel_rfl
def tr_pair_22 : Tr := .node 4 [tr_pair_23, tr_pair_24, tr_pair_25]
theorem t_pair_22 (w : Nat → Str) : tr_pair_22.chk dom (lf_pair) (setW (setW (setW (setW (w) 0 "perhaps") 1 "sure") 6 "sure") 3 "check") = true := by
  simp only [tr_pair_22, Tr.chk, PL.chkAll, PL.dom, t_pair_23, t_pair_24, t_pair_25, Bool.and_self]
def tr_pair_27 : Tr := .leaf
theorem t_pair_27 (w : Nat → Str) : tr_pair_27.chk dom (lf_pair) (setW (setW (setW (setW (setW (w) 0 "perhaps") 1 "sure") 6 "sure") 3 "work") 4 "answer") = true := by kernel_rfl
def tr_pair_29 : Tr := (.node 2 [(.node 8 [(.node 9 [(.node 7 [(.node 11 [.leaf, .leaf]), .leaf, (.node 11 [.leaf, .leaf])]), (.node 7 [.leaf, .leaf, .leaf])]), (.node 10 [(.node 7 [(.node 9 [(.node 11 [.leaf, .leaf]), .leaf]), .leaf, (.node 9 [(.node 11 [.leaf, .leaf]), .leaf])]), (.node 7 [(.node 9 [(.node 11 [.leaf, .leaf]), .leaf]), .leaf, (.node 9 [(.node 11 [.leaf, .leaf]), .leaf])])]), (.node 7 [(.node 9 [(.node 11 [.leaf, .leaf]), .leaf]), .leaf, (.node 9 [(.node 11 [.leaf, .leaf]), .leaf])])]), (.node 8 [(.node 9 [(.node 7 [(.node 11 [.leaf, .leaf]), .leaf, (.node 11 [.leaf, .leaf])]), (.node 7 [.leaf, .leaf, .leaf])]), (.node 10 [(.node 7 [(.node 9 [(.node 11 [.leaf, .leaf]), .leaf]), .leaf, (.node 9 [(.node 11 [.leaf, .leaf]), .leaf])]), (.node 7 [(.node 9 [(.node 11 [.leaf, .leaf]), .leaf]), .leaf, (.node 9 [(.node 11 [.leaf, .leaf]), .leaf])])]), (.node 7 [(.node 9 [(.node 11 [.leaf, .leaf]), .leaf]), .leaf, (.node 9 [(.node 11 [.leaf, .leaf]), .leaf])])]), (.node 7 [(.node 9 [(.node 11 [(.node 8 [.leaf, .leaf, .leaf]), .leaf]), .leaf]), .leaf, (.node 9 [(.node 11 [(.node 8 [.leaf, .leaf, .leaf]), .leaf]), .leaf])])])
theorem t_pair_29 (w : Nat → Str) : tr_pair_29.chk dom (lf_pair) (setW (setW (setW (setW (setW (setW (w) 0 "perhaps") 1 "sure") 6 "sure") 3 "work") 4 "check") 5 "values") = true := by kernel_rfl
def tr_pair_30 : Tr := (.node 8 [.leaf, (.node 2 [(.node 10 [(.node 7 [(.node 9 [(.node 11 [.leaf, .leaf]), .leaf]), .leaf, (.node 9 [(.node 11 [.leaf, .leaf]), .leaf])]), (.node 7 [(.node 9 [(.node 11 [.leaf, .leaf]), .leaf]), .leaf, (.node 9 [(.node 11 [.leaf, .leaf]), .leaf])])]), (.node 10 [(.node 7 [(.node 9 [(.node 11 [.leaf, .leaf]), .leaf]), .leaf, (.node 9 [(.node 11 [.leaf, .leaf]), .leaf])]), (.node 7 [(.node 9 [(.node 11 [.leaf, .leaf]), .leaf]), .leaf, (.node 9 [(.node 11 [.leaf, .leaf]), .leaf])])]), (.node 7 [(.node 9 [(.node 11 [.leaf, .leaf]), .leaf]), .leaf, (.node 9 [(.node 11 [.leaf, .leaf]), .leaf])])]), (.node 2 [(.node 7 [(.node 9 [(.node 11 [.leaf, .leaf]), .leaf]), .leaf, (.node 9 [(.node 11 [.leaf, .leaf]), .leaf])]), (.node 7 [(.node 9 [(.node 11 [.leaf, .leaf]), .leaf]), .leaf, (.node 9 [(.node 11 [.leaf, .leaf]), .leaf])]), (.node 7 [(.node 9 [(.node 11 [.leaf, .leaf]), .leaf]), .leaf, (.node 9 [(.node 11 [.leaf, .leaf]), .leaf])])])])
theorem t_pair_30 (w : Nat → Str) : tr_pair_30.chk dom (lf_pair) (setW (setW (setW (setW (setW (setW (w) 0 "perhaps") 1 "sure") 6 "sure") 3 "work") 4 "check") 5 "mark") = true := by kernel_rfl
def tr_pair_28 : Tr := .node 5 [tr_pair_29, tr_pair_30]
theorem t_pair_28 (w : Nat → Str) : tr_pair_28.chk dom (lf_pair) (setW (setW (setW (setW (setW (w) 0 "perhaps") 1 "sure") 6 "sure") 3 "work") 4 "check") = true := by
  simp only [tr_pair_28, Tr.chk, PL.chkAll, PL.dom, t_pair_29, t_pair_30, Bool.and_self]
def tr_pair_31 : Tr := (.node 2 [(.node 8 [(.node 9 [(.node 7 [(.node 11 [.leaf, .leaf]), .leaf, (.node 11 [.leaf, .leaf])]), (.node 7 [.leaf, .leaf, .leaf])]), (.node 10 [(.node 7 [(.node 9 [(.node 11 [.leaf, .leaf]), .leaf]), .leaf, (.node 9 [(.node 11 [.leaf, .leaf]), .leaf])]), (.node 7 [(.node 9 [(.node 11 [.leaf, .leaf]), .leaf]), .leaf, (.node 9 [(.node 11 [.leaf, .leaf]), .leaf])])]), (.node 7 [(.node 9 [(.node 11 [.leaf, .leaf]), .leaf]), .leaf, (.node 9 [(.node 11 [.leaf, .leaf]), .leaf])])]), (.node 8 [(.node 9 [(.node 7 [(.node 11 [.leaf, .leaf]), .leaf, (.node 11 [.leaf, .leaf])]), (.node 7 [.leaf, .leaf, .leaf])]), (.node 10 [(.node 7 [(.node 9 [(.node 11 [.leaf, .leaf]), .leaf]), .leaf, (.node 9 [(.node 11 [.leaf, .leaf]), .leaf])]), (.node 7 [(.node 9 [(.node 11 [.leaf, .leaf]), .leaf]), .leaf, (.node 9 [(.node 11 [.leaf, .leaf]), .leaf])])]), (.node 7 [(.node 9 [(.node 11 [.leaf, .leaf]), .leaf]), .leaf, (.node 9 [(.node 11 [.leaf, .leaf]), .leaf])])]), (.node 7 [(.node 9 [(.node 11 [(.node 8 [.leaf, .leaf, .leaf]), .leaf]), .leaf]), .leaf, (.node 9 [(.node 11 [(.node 8 [.leaf, .leaf, .leaf]), .leaf]), .leaf])])])
theorem t_pair_31 (w : Nat → Str) : tr_pair_31.chk dom (lf_pair) (setW (setW (setW (setW (setW (w) 0 "perhaps") 1 "sure") 6 "sure") 3 "work") 4 "work") = true := by kernel_rfl
def tr_pair_26 : Tr := .node 4 [tr_pair_27, tr_pair_28, tr_pair_31]
theorem t_pair_26 (w : Nat → Str) : tr_pair_26.chk dom (lf_pair) (setW (setW (setW (setW (w) 0 "perhaps") 1 "sure") 6 "sure") 3 "work") = true := by
  simp only [tr_pair_26, Tr.chk, PL.chkAll, PL.dom, t_pair_27, t_pair_28, t_pair_31, Bool.and_self]
def tr_pair_20 : Tr := .node 3 [tr_pair_21, tr_pair_22, tr_pair_26]
theorem t_pair_20 (w : Nat → Str) : tr_pair_20.chk dom (lf_pair) (setW (setW (setW (w) 0 "perhaps") 1 "sure") 6 "sure") = true := by
  simp only [tr_pair_20, Tr.chk, PL.chkAll, PL.dom, t_pair_21, t_pair_22, t_pair_26, Bool.and_self]
def tr_pair_18 : Tr := .node 6 [tr_pair_19, tr_pair_20]
theorem t_pair_18 (w : Nat → Str) : tr_pair_18.chk dom (lf_pair) (setW (setW (w) 0 "perhaps") 1 "sure") = true := by
  simp only [tr_pair_18, Tr.chk, PL.chkAll, PL.dom, t_pair_19, t_pair_20, Bool.and_self]
def tr_pair_2 : Tr := .node 1 [tr_pair_3, tr_pair_4, tr_pair_18]
theorem t_pair_2 (w : Nat → Str) : tr_pair_2.chk dom (lf_pair) (setW (w) 0 "perhaps") = true := by
  simp only [tr_pair_2, Tr.chk, PL.chkAll, PL.dom, t_pair_3, t_pair_4, t_pair_18, Bool.and_self]
def tr_pair_33 : Tr := .leaf
theorem t_pair_33 (w : Nat → Str) : tr_pair_33.chk dom (lf_pair) (setW (setW (w) 0 "sure") 1 "none") = true := by kernel_rfl
def tr_pair_35 : Tr := (.node 3 [(.node 4 [.leaf, .leaf, .leaf]), (.node 4 [.leaf, (.node 5 [(.node 7 [(.node 9 [(.node 11 [(.node 8 [.leaf, .leaf, (.node 2 [.leaf, .leaf, .leaf])]), .leaf]), .leaf]), .leaf, (.node 9 [(.node 11 [(.node 8 [.leaf, .leaf, (.node 2 [.leaf, .leaf, .leaf])]), .leaf]), .leaf])]), .leaf]), (.node 5 [(.node 7 [(.node 9 [(.node 11 [(.node 8 [.leaf, .leaf, (.node 2 [.leaf, .leaf, .leaf])]), .leaf]), .leaf]), .leaf, (.node 9 [(.node 11 [(.node 8 [.leaf, .leaf, (.node 2 [.leaf, .leaf, .leaf])]), .leaf]), .leaf])]), .leaf])]), (.node 4 [.leaf, (.node 5 [(.node 7 [(.node 9 [(.node 11 [(.node 8 [.leaf, .leaf, (.node 2 [.leaf, .leaf, .leaf])]), .leaf]), .leaf]), .leaf, (.node 9 [(.node 11 [(.node 8 [.leaf, .leaf, (.node 2 [.leaf, .leaf, .leaf])]), .leaf]), .leaf])]), (.node 8 [.leaf, (.node 7 [(.node 9 [(.node 11 [.leaf, .leaf]), .leaf]), .leaf, (.node 9 [(.node 11 [.leaf, .leaf]), .leaf])]), (.node 7 [(.node 9 [(.node 11 [(.node 2 [.leaf, .leaf, .leaf]), .leaf]), .leaf]), .leaf, (.node 9 [(.node 11 [(.node 2 [.leaf, .leaf, .leaf]), .leaf]), .leaf])])])]), (.node 7 [(.node 9 [(.node 11 [(.node 8 [.leaf, .leaf, (.node 2 [.leaf, .leaf, .leaf])]), .leaf]), .leaf]), .leaf, (.node 9 [(.node 11 [(.node 8 [.leaf, .leaf, (.node 2 [.leaf, .leaf, .leaf])]), .leaf]), .leaf])])])])
theorem t_pair_35 (w : Nat → Str) : tr_pair_35.chk dom (lf_pair) (setW (setW (setW (w) 0 "sure") 1 "perhaps") 6 "none") = true := by kernel_rfl
def tr_pair_37 : Tr := (.node 4 [.leaf, .leaf, .leaf])
theorem t_pair_37 (w : Nat → Str) : tr_pair_37.chk dom (lf_pair) (setW (setW (setW (setW (w) 0 "sure") 1 "perhaps") 6 "sure") 3 "answer") = true := by kernel_rfl
def tr_pair_39 : Tr := .leaf
theorem t_pair_39 (w : Nat → Str) : tr_pair_39.chk dom (lf_pair) (setW (setW (setW (setW (setW (w) 0 "sure") 1 "perhaps") 6 "sure") 3 "check") 4 "answer") = true := by kernel_rfl
def tr_pair_41 : Tr := (.node 2 [(.node 8 [(.node 9 [(.node 7 [(.node 11 [.leaf, .leaf]), .leaf, (.node 11 [.leaf, .leaf])]), (.node 7 [.leaf, .leaf, .leaf])]), (.node 10 [(.node 7 [(.node 9 [(.node 11 [.leaf, .leaf]), .leaf]), .leaf, (.node 9 [(.node 11 [.leaf, .leaf]), .leaf])]), (.node 7 [(.node 9 [(.node 11 [.leaf, .leaf]), .leaf]), .leaf, (.node 9 [(.node 11 [.leaf, .leaf]), .leaf])])]), (.node 7 [(.node 9 [(.node 11 [.leaf, .leaf]), .leaf]), .leaf, (.node 9 [(.node 11 [.leaf, .leaf]), .leaf])])]), (.node 8 [(.node 9 [(.node 7 [(.node 11 [.leaf, .leaf]), .leaf, (.node 11 [.leaf, .leaf])]), (.node 7 [.leaf, .leaf, .leaf])]), (.node 10 [(.node 7 [(.node 9 [(.node 11 [.leaf, .leaf]), .leaf]), .leaf, (.node 9 [(.node 11 [.leaf, .leaf]), .leaf])]), (.node 7 [(.node 9 [(.node 11 [.leaf, .leaf]), .leaf]), .leaf, (.node 9 [(.node 11 [.leaf, .leaf]), .leaf])])]), (.node 7 [(.node 9 [(.node 11 [.leaf, .leaf]), .leaf]), .leaf, (.node 9 [(.node 11 [.leaf, .leaf]), .leaf])])]), (.node 7 [(.node 9 [(.node 11 [(.node 8 [.leaf, .leaf, .leaf]), .leaf]), .leaf]), .leaf, (.node 9 [(.node 11 [(.node 8 [.leaf, .leaf, .leaf]), .leaf]), .leaf])])])
theorem t_pair_41 (w : Nat → Str) : tr_pair_41.chk dom (lf_pair) (setW (setW (setW (setW (setW (setW (w) 0 "sure") 1 "perhaps") 6 "sure") 3 "check") 4 "check") 5 "values") = true := by kernel_rfl
def tr_pair_42 : Tr := (.node 8 [.leaf, (.node 2 [(.node 10 [(.node 7 [(.node 9 [(.node 11 [.leaf, .leaf]), .leaf]), .leaf, (.node 9 [(.node 11 [.leaf, .leaf]), .leaf])]), (.node 7 [(.node 9 [(.node 11 [.leaf, .leaf]), .leaf]), .leaf, (.node 9 [(.node 11 [.leaf, .leaf]), .leaf])])]), (.node 10 [(.node 7 [(.node 9 [(.node 11 [.leaf, .leaf]), .leaf]), .leaf, (.node 9 [(.node 11 [.leaf, .leaf]), .leaf])]), (.node 7 [(.node 9 [(.node 11 [.leaf, .leaf]), .leaf]), .leaf, (.node 9 [(.node 11 [.leaf, .leaf]), .leaf])])]), (.node 7 [(.node 9 [(.node 11 [.leaf, .leaf]), .leaf]), .leaf, (.node 9 [(.node 11 [.leaf, .leaf]), .leaf])])]), (.node 2 [(.node 7 [(.node 9 [(.node 11 [.leaf, .leaf]), .leaf]), .leaf, (.node 9 [(.node 11 [.leaf, .leaf]), .leaf])]), (.node 7 [(.node 9 [(.node 11 [.leaf, .leaf]), .leaf]), .leaf, (.node 9 [(.node 11 [.leaf, .leaf]), .leaf])]), (.node 7 [(.node 9 [(.node 11 [.leaf, .leaf]), .leaf]), .leaf, (.node 9 [(.node 11 [.leaf, .leaf]), .leaf])])])])
theorem t_pair_42 (w : Nat → Str) : tr_pair_42.chk dom (lf_pair) (setW (setW (setW (setW (setW (setW (w) 0 "sure") 1 "perhaps") 6 "sure") 3 "check") 4 "check") 5 "mark") = true := by kernel_rfl
def tr_pair_40 : Tr := .node 5 [tr_pair_41, tr_pair_42]
theorem t_pair_40 (w : Nat → Str) : tr_pair_40.chk dom (lf_pair) (setW (setW (setW (setW (setW (w) 0 "sure") 1 "perhaps") 6 "sure") 3 "check") 4 "check") = true := by
  simp only [tr_pair_40, Tr.chk, PL.chkAll, PL.dom, t_pair_41, t_pair_42, Bool.and_self]
def tr_pair_44 : Tr := (.node 2 [(.node 8 [(.node 9 [(.node 7 [(.node 11 [.leaf, .leaf]), .leaf, (.node 11 [.leaf, .leaf])]), (.node 7 [.leaf, .leaf, .leaf])]), (.node 10 [(.node 7 [(.node 9 [(.node 11 [.leaf, .leaf]), .leaf]), .leaf, (.node 9 [(.node 11 [.leaf, .leaf]), .leaf])]), (.node 7 [(.node 9 [(.node 11 [.leaf, .leaf]), .leaf]), .leaf, (.node 9 [(.node 11 [.leaf, .leaf]), .leaf])])]), (.node 7 [(.node 9 [(.node 11 [.leaf, .leaf]), .leaf]), .leaf, (.node 9 [(.node 11 [.leaf, .leaf]), .leaf])])]), (.node 8 [(.node 9 [(.node 7 [(.node 11 [.leaf, .leaf]), .leaf, (.node 11 [.leaf, .leaf])]), (.node 7 [.leaf, .leaf, .leaf])]), (.node 10 [(.node 7 [(.node 9 [(.node 11 [.leaf, .leaf]), .leaf]), .leaf, (.node 9 [(.node 11 [.leaf, .leaf]), .leaf])]), (.node 7 [(.node 9 [(.node 11 [.leaf, .leaf]), .leaf]), .leaf, (.node 9 [(.node 11 [.leaf, .leaf]), .leaf])])]), (.node 7 [(.node 9 [(.node 11 [.leaf, .leaf]), .leaf]), .leaf, (.node 9 [(.node 11 [.leaf, .leaf]), .leaf])])]), (.node 7 [(.node 9 [(.node 11 [(.node 8 [.leaf, .leaf, .leaf]), .leaf]), .leaf]), .leaf, (.node 9 [(.node 11 [(.node 8 [.leaf, .leaf, .leaf]), .leaf]), .leaf])])])
theorem t_pair_44 (w : Nat → Str) : tr_pair_44.chk dom (lf_pair) (setW (setW (setW (setW (setW (setW (w) 0 "sure") 1 "perhaps") 6 "sure") 3 "check") 4 "work") 5 "values") = true := by kernel_rfl
def tr_pair_45 : Tr := (.node 2 [(.node 8 [(.node 9 [(.node 7 [(.node 11 [.leaf, .leaf]), .leaf, (.node 11 [.leaf, .leaf])]), (.node 7 [.leaf, .leaf, .leaf])]), (.node 10 [(.node 7 [(.node 9 [(.node 11 [.leaf, .leaf]), .leaf]), .leaf, (.node 9 [(.node 11 [.leaf, .leaf]), .leaf])]), (.node 7 [(.node 9 [(.node 11 [.leaf, .leaf]), .leaf]), .leaf, (.node 9 [(.node 11 [.leaf, .leaf]), .leaf])])]), (.node 7 [(.node 9 [(.node 11 [.leaf, .leaf]), .leaf]), .leaf, (.node 9 [(.node 11 [.leaf, .leaf]), .leaf])])]), (.node 8 [(.node 9 [(.node 7 [(.node 11 [.leaf, .leaf]), .leaf, (.node 11 [.leaf, .leaf])]), (.node 7 [.leaf, .leaf, .leaf])]), (.node 10 [(.node 7 [(.node 9 [(.node 11 [.leaf, .leaf]), .leaf]), .leaf, (.node 9 [(.node 11 [.leaf, .leaf]), .leaf])]), (.node 7 [(.node 9 [(.node 11 [.leaf, .leaf]), .leaf]), .leaf, (.node 9 [(.node 11 [.leaf, .leaf]), .leaf])])]), (.node 7 [(.node 9 [(.node 11 [.leaf, .leaf]), .leaf]), .leaf, (.node 9 [(.node 11 [.leaf, .leaf]), .leaf])])]), (.node 7 [(.node 9 [(.node 11 [(.node 8 [.leaf, .leaf, .leaf]), .leaf]), .leaf]), .leaf, (.node 9 [(.node 11 [(.node 8 [.leaf, .leaf, .leaf]), .leaf]), .leaf])])])
theorem t_pair_45 (w : Nat → Str) : tr_pair_45.chk dom (lf_pair) (setW (setW (setW (setW (setW (setW (w) 0 "sure") 1 "perhaps") 6 "sure") 3 "check") 4 "work") 5 "mark") = true := by kernel_rfl
def tr_pair_43 : Tr := .node 5 [tr_pair_44, tr_pair_45]
theorem t_pair_43 (w : Nat → Str) : tr_pair_43.chk dom (lf_pair) (setW (setW (setW (setW (setW (w) 0 "sure") 1 "perhaps") 6 "sure") 3 "check") 4 "work") = true := by
  simp only [tr_pair_43, Tr.chk, PL.chkAll, PL.dom, t_pair_44, t_pair_45, Bool.and_self]
def tr_pair_38 : Tr := .node 4 [tr_pair_39, tr_pair_40, tr_pair_43]
theorem t_pair_38 (w : Nat → Str) : tr_pair_38.chk dom (lf_pair) (setW (setW (setW (setW (w) 0 "sure") 1 "perhaps") 6 "sure") 3 "check") = true := by
  simp only [tr_pair_38, Tr.chk, PL.chkAll, PL.dom, t_pair_39, t_pair_40, t_pair_43, Bool.and_self]
def tr_pair_47 : Tr := .leaf
theorem t_pair_47 (w : Nat → Str) : tr_pair_47.chk dom (lf_pair) (setW (setW (setW (setW (setW (w) 0 "sure") 1 "perhaps") 6 "sure") 3 "work") 4 "answer") = true := by kernel_rfl
def tr_pair_49 : Tr := (.node 2 [(.node 8 [(.node 9 [(.node 7 [(.node 11 [.leaf, .leaf]), .leaf, (.node 11 [.leaf, .leaf])]), (.node 7 [.leaf, .leaf, .leaf])]), (.node 10 [(.node 7 [(.node 9 [(.node 11 [.leaf, .leaf]), .leaf]), .leaf, (.node 9 [(.node 11 [.leaf, .leaf]), .leaf])]), (.node 7 [(.node 9 [(.node 11 [.leaf, .leaf]), .leaf]), .leaf, (.node 9 [(.node 11 [.leaf, .leaf]), .leaf])])]), (.node 7 [(.node 9 [(.node 11 [.leaf, .leaf]), .leaf]), .leaf, (.node 9 [(.node 11 [.leaf, .leaf]), .leaf])])]), (.node 8 [(.node 9 [(.node 7 [(.node 11 [.leaf, .leaf]), .leaf, (.node 11 [.leaf, .leaf])]), (.node 7 [.leaf, .leaf, .leaf])]), (.node 10 [(.node 7 [(.node 9 [(.node 11 [.leaf, .leaf]), .leaf]), .leaf, (.node 9 [(.node 11 [.leaf, .leaf]), .leaf])]), (.node 7 [(.node 9 [(.node 11 [.leaf, .leaf]), .leaf]), .leaf, (.node 9 [(.node 11 [.leaf, .leaf]), .leaf])])]), (.node 7 [(.node 9 [(.node 11 [.leaf, .leaf]), .leaf]), .leaf, (.node 9 [(.node 11 [.leaf, .leaf]), .leaf])])]), (.node 7 [(.node 9 [(.node 11 [(.node 8 [.leaf, .leaf, .leaf]), .leaf]), .leaf]), .leaf, (.node 9 [(.node 11 [(.node 8 [.leaf, .leaf, .leaf]), .leaf]), .leaf])])])
theorem t_pair_49 (w : Nat → Str) : tr_pair_49.chk dom (lf_pair) (setW (setW (setW (setW (setW (setW (w) 0 "sure") 1 "perhaps") 6 "sure") 3 "work") 4 "check") 5 "values") = true := by kernel_rfl
def tr_pair_50 : Tr := (.node 8 [.leaf, (.node 2 [(.node 10 [(.node 7 [(.node 9 [(.node 11 [.leaf, .leaf]), .leaf]), .leaf, (.node 9 [(.node 11 [.leaf, .leaf]), .leaf])]), (.node 7 [(.node 9 [(.node 11 [.leaf, .leaf]), .leaf]), .leaf, (.node 9 [(.node 11 [.leaf, .leaf]), .leaf])])]), (.node 10 [(.node 7 [(.node 9 [(.node 11 [.leaf, .leaf]), .leaf]), .leaf, (.node 9 [(.node 11 [.leaf, .leaf]), .leaf])]), (.node 7 [(.node 9 [(.node 11 [.leaf, .leaf]), .leaf]), .leaf, (.node 9 [(.node 11 [.leaf, .leaf]), .leaf])])]), (.node 7 [(.node 9 [(.node 11 [.leaf, .leaf]), .leaf]), .leaf, (.node 9 [(.node 11 [.leaf, .leaf]), .leaf])])]), (.node 2 [(.node 7 [(.node 9 [(.node 11 [.leaf, .leaf]), .leaf]), .leaf, (.node 9 [(.node 11 [.leaf, .leaf]), .leaf])]), (.node 7 [(.node 9 [(.node 11 [.leaf, .leaf]), .leaf]), .leaf, (.node 9 [(.node 11 [.leaf, .leaf]), .leaf])]), (.node 7 [(.node 9 [(.node 11 [.leaf, .leaf]), .leaf]), .leaf, (.node 9 [(.node 11 [.leaf, .leaf]), .leaf])])])])
theorem t_pair_50 (w : Nat → Str) : tr_pair_50.chk dom (lf_pair) (setW (setW (setW (setW (setW (setW (w) 0 "sure") 1 "perhaps") 6 "sure") 3 "work") 4 "check") 5 "mark") = true := by kernel_rfl
def tr_pair_48 : Tr := .node 5 [tr_pair_49, tr_pair_50]
theorem t_pair_48 (w : Nat → Str) : tr_pair_48.chk dom (lf_pair) (setW (setW (setW (setW (setW (w) 0 "sure") 1 "perhaps") 6 "sure") 3 "work") 4 "check") = true := by
  simp only [tr_pair_48, Tr.chk, PL.chkAll, PL.dom, t_pair_49, t_pair_50, Bool.and_self]
def tr_pair_51 : Tr := (.node 2 [(.node 8 [(.node 9 [(.node 7 [(.node 11 [.leaf, .leaf]), .leaf, (.node 11 [.leaf, .leaf])]), (.node 7 [.leaf, .leaf, .leaf])]), (.node 10 [(.node 7 [(.node 9 [(.node 11 [.leaf, .leaf]), .leaf]), .leaf, (.node 9 [(.node 11 [.leaf, .leaf]), .leaf])]), (.node 7 [(.node 9 [(.node 11 [.leaf, .leaf]), .leaf]), .leaf, (.node 9 [(.node 11 [.leaf, .leaf]), .leaf])])]), (.node 7 [(.node 9 [(.node 11 [.leaf, .leaf]), .leaf]), .leaf, (.node 9 [(.node 11 [.leaf, .leaf]), .leaf])])]), (.node 8 [(.node 9 [(.node 7 [(.node 11 [.leaf, .leaf]), .leaf, (.node 11 [.leaf, .leaf])]), (.node 7 [.leaf, .leaf, .leaf])]), (.node 10 [(.node 7 [(.node 9 [(.node 11 [.leaf, .leaf]), .leaf]), .leaf, (.node 9 [(.node 11 [.leaf, .leaf]), .leaf])]), (.node 7 [(.node 9 [(.node 11 [.leaf, .leaf]), .leaf]), .leaf, (.node 9 [(.node 11 [.leaf, .leaf]), .leaf])])]), (.node 7 [(.node 9 [(.node 11 [.leaf, .leaf]), .leaf]), .leaf, (.node 9 [(.node 11 [.leaf, .leaf]), .leaf])])]), (.node 7 [(.node 9 [(.node 11 [(.node 8 [.leaf, .leaf, .leaf]), .leaf]), .leaf]), .leaf, (.node 9 [(.node 11 [(.node 8 [.leaf, .leaf, .leaf]), .leaf]), .leaf])])])
theorem t_pair_51 (w : Nat → Str) : tr_pair_51.chk dom (lf_pair) (setW (setW (setW (setW (setW (w) 0 "sure") 1 "perhaps") 6 "sure") 3 "work") 4 "work") = true := by kernel_rfl
def tr_pair_46 : Tr := .node 4 [tr_pair_47, tr_pair_48, tr_pair_51]
theorem t_pair_46 (w : Nat → Str) : tr_pair_46.chk dom (lf_pair) (setW (setW (setW (setW (w) 0 "sure") 1 "perhaps") 6 "sure") 3 "work") = true := by
  simp only [tr_pair_46, Tr.chk, PL.chkAll, PL.dom, t_pair_47, t_pair_48, t_pair_51, Bool.and_self]
def tr_pair_36 : Tr := .node 3 [tr_pair_37, tr_pair_38, tr_pair_46]
theorem t_pair_36 (w : Nat → Str) : tr_pair_36.chk dom (lf_pair) (setW (setW (setW (w) 0 "sure") 1 "perhaps") 6 "sure") = true := by
  simp only [tr_pair_36, Tr.chk, PL.chkAll, PL.dom, t_pair_37, t_pair_38, t_pair_46, Bool.and_self]
def tr_pair_34 : Tr := .node 6 [tr_pair_35, tr_pair_36]
theorem t_pair_34 (w : Nat → Str) : tr_pair_34.chk dom (lf_pair) (setW (setW (w) 0 "sure") 1 "perhaps") = true := by
  simp only [tr_pair_34, Tr.chk, PL.chkAll, PL.dom, t_pair_35, t_pair_36, Bool.and_self]
def tr_pair_53 : Tr := (.node 4 [.leaf, (.node 5 [(.node 7 [(.node 9 [(.node 11 [(.node 8 [.leaf, .leaf, (.node 2 [.leaf, .leaf, .leaf])]), .leaf]), .leaf]), .leaf, (.node 9 [(.node 11 [(.node 8 [.leaf, .leaf, (.node 2 [.leaf, .leaf, .leaf])]), .leaf]), .leaf])]), (.node 8 [.leaf, (.node 7 [(.node 9 [(.node 11 [.leaf, .leaf]), .leaf]), .leaf, (.node 9 [(.node 11 [.leaf, .leaf]), .leaf])]), (.node 7 [(.node 9 [(.node 11 [(.node 2 [.leaf, .leaf, .leaf]), .leaf]), .leaf]), .leaf, (.node 9 [(.node 11 [(.node 2 [.leaf, .leaf, .leaf]), .leaf]), .leaf])])])]), (.node 7 [(.node 9 [(.node 11 [(.node 8 [.leaf, .leaf, (.node 2 [.leaf, .leaf, .leaf])]), .leaf]), .leaf]), .leaf, (.node 9 [(.node 11 [(.node 8 [.leaf, .leaf, (.node 2 [.leaf, .leaf, .leaf])]), .leaf]), .leaf])])])
theorem t_pair_53 (w : Nat → Str) : tr_pair_53.chk dom (lf_pair) (setW (setW (setW (w) 0 "sure") 1 "sure") 6 "none") = true := by kernel_rfl
def tr_pair_55 : Tr := .leaf
theorem t_pair_55 (w : Nat → Str) : tr_pair_55.chk dom (lf_pair) (setW (setW (setW (setW (w) 0 "sure") 1 "sure") 6 "sure") 4 "answer") = true := by kernel_rfl
def tr_pair_57 : Tr := (.node 2 [(.node 8 [(.node 9 [(.node 7 [(.node 11 [.leaf, .leaf]), .leaf, (.node 11 [.leaf, .leaf])]), (.node 7 [.leaf, .leaf, .leaf])]), (.node 10 [(.node 7 [(.node 9 [(.node 11 [.leaf, .leaf]), .leaf]), .leaf, (.node 9 [(.node 11 [.leaf, .leaf]), .leaf])]), (.node 7 [(.node 9 [(.node 11 [.leaf, .leaf]), .leaf]), .leaf, (.node 9 [(.node 11 [.leaf, .leaf]), .leaf])])]), (.node 7 [(.node 9 [(.node 11 [.leaf, .leaf]), .leaf]), .leaf, (.node 9 [(.node 11 [.leaf, .leaf]), .leaf])])]), (.node 8 [(.node 9 [(.node 7 [(.node 11 [.leaf, .leaf]), .leaf, (.node 11 [.leaf, .leaf])]), (.node 7 [.leaf, .leaf, .leaf])]), (.node 10 [(.node 7 [(.node 9 [(.node 11 [.leaf, .leaf]), .leaf]), .leaf, (.node 9 [(.node 11 [.leaf, .leaf]), .leaf])]), (.node 7 [(.node 9 [(.node 11 [.leaf, .leaf]), .leaf]), .leaf, (.node 9 [(.node 11 [.leaf, .leaf]), .leaf])])]), (.node 7 [(.node 9 [(.node 11 [.leaf, .leaf]), .leaf]), .leaf, (.node 9 [(.node 11 [.leaf, .leaf]), .leaf])])]), (.node 7 [(.node 9 [(.node 11 [(.node 8 [.leaf, .leaf, .leaf]), .leaf]), .leaf]), .leaf, (.node 9 [(.node 11 [(.node 8 [.leaf, .leaf, .leaf]), .leaf]), .leaf])])])
theorem t_pair_57 (w : Nat → Str) : tr_pair_57.chk dom (lf_pair) (setW (setW (setW (setW (setW (w) 0 "sure") 1 "sure") 6 "sure") 4 "check") 5 "values") = true := by kernel_rfl
def tr_pair_58 : Tr := (.node 8 [.leaf, (.node 2 [(.node 10 [(.node 7 [(.node 9 [(.node 11 [.leaf, .leaf]), .leaf]), .leaf, (.node 9 [(.node 11 [.leaf, .leaf]), .leaf])]), (.node 7 [(.node 9 [(.node 11 [.leaf, .leaf]), .leaf]), .leaf, (.node 9 [(.node 11 [.leaf, .leaf]), .leaf])])]), (.node 10 [(.node 7 [(.node 9 [(.node 11 [.leaf, .leaf]), .leaf]), .leaf, (.node 9 [(.node 11 [.leaf, .leaf]), .leaf])]), (.node 7 [(.node 9 [(.node 11 [.leaf, .leaf]), .leaf]), .leaf, (.node 9 [(.node 11 [.leaf, .leaf]), .leaf])])]), (.node 7 [(.node 9 [(.node 11 [.leaf, .leaf]), .leaf]), .leaf, (.node 9 [(.node 11 [.leaf, .leaf]), .leaf])])]), (.node 2 [(.node 7 [(.node 9 [(.node 11 [.leaf, .leaf]), .leaf]), .leaf, (.node 9 [(.node 11 [.leaf, .leaf]), .leaf])]), (.node 7 [(.node 9 [(.node 11 [.leaf, .leaf]), .leaf]), .leaf, (.node 9 [(.node 11 [.leaf, .leaf]), .leaf])]), (.node 7 [(.node 9 [(.node 11 [.leaf, .leaf]), .leaf]), .leaf, (.node 9 [(.node 11 [.leaf, .leaf]), .leaf])])])])
theorem t_pair_58 (w : Nat → Str) : tr_pair_58.chk dom (lf_pair) (setW (setW (setW (setW (setW (w) 0 "sure") 1 "sure") 6 "sure") 4 "check") 5 "mark") = true := by kernel_rfl
def tr_pair_56 : Tr := .node 5 [tr_pair_57, tr_pair_58]
theorem t_pair_56 (w : Nat → Str) : tr_pair_56.chk dom (lf_pair) (setW (setW (setW (setW (w) 0 "sure") 1 "sure") 6 "sure") 4 "check") = true := by
  simp only [tr_pair_56, Tr.chk, PL.chkAll, PL.dom, t_pair_57, t_pair_58, Bool.and_self]
def tr_pair_59 : Tr := (.node 2 [(.node 8 [(.node 9 [(.node 7 [(.node 11 [.leaf, .leaf]), .leaf, (.node 11 [.leaf, .leaf])]), (.node 7 [.leaf, .leaf, .leaf])]), (.node 10 [(.node 7 [(.node 9 [(.node 11 [.leaf, .leaf]), .leaf]), .leaf, (.node 9 [(.node 11 [.leaf, .leaf]), .leaf])]), (.node 7 [(.node 9 [(.node 11 [.leaf, .leaf]), .leaf]), .leaf, (.node 9 [(.node 11 [.leaf, .leaf]), .leaf])])]), (.node 7 [(.node 9 [(.node 11 [.leaf, .leaf]), .leaf]), .leaf, (.node 9 [(.node 11 [.leaf, .leaf]), .leaf])])]), (.node 8 [(.node 9 [(.node 7 [(.node 11 [.leaf, .leaf]), .leaf, (.node 11 [.leaf, .leaf])]), (.node 7 [.leaf, .leaf, .leaf])]), (.node 10 [(.node 7 [(.node 9 [(.node 11 [.leaf, .leaf]), .leaf]), .leaf, (.node 9 [(.node 11 [.leaf, .leaf]), .leaf])]), (.node 7 [(.node 9 [(.node 11 [.leaf, .leaf]), .leaf]), .leaf, (.node 9 [(.node 11 [.leaf, .leaf]), .leaf])])]), (.node 7 [(.node 9 [(.node 11 [.leaf, .leaf]), .leaf]), .leaf, (.node 9 [(.node 11 [.leaf, .leaf]), .leaf])])]), (.node 7 [(.node 9 [(.node 11 [(.node 8 [.leaf, .leaf, .leaf]), .leaf]), .leaf]), .leaf, (.node 9 [(.node 11 [(.node 8 [.leaf, .leaf, .leaf]), .leaf]), .leaf])])])
theorem t_pair_59 (w : Nat → Str) : tr_pair_59.chk dom (lf_pair) (setW (setW (setW (setW (w) 0 "sure") 1 "sure") 6 "sure") 4 "work") = true := by kernel_rfl
def tr_pair_54 : Tr := .node 4 [tr_pair_55, tr_pair_56, tr_pair_59]
theorem t_pair_54 (w : Nat → Str) : tr_pair_54.chk dom (lf_pair) (setW (setW (setW (w) 0 "sure") 1 "sure") 6 "sure") = true := by
  simp only [tr_pair_54, Tr.chk, PL.chkAll, PL.dom, t_pair_55, t_pair_56, t_pair_59, Bool.and_self]
def tr_pair_52 : Tr := .node 6 [tr_pair_53, tr_pair_54]
theorem t_pair_52 (w : Nat → Str) : tr_pair_52.chk dom (lf_pair) (setW (setW (w) 0 "sure") 1 "sure") = true := by
  simp only [tr_pair_52, Tr.chk, PL.chkAll, PL.dom, t_pair_53, t_pair_54, Bool.and_self]
def tr_pair_32 : Tr := .node 1 [tr_pair_33, tr_pair_34, tr_pair_52]
theorem t_pair_32 (w : Nat → Str) : tr_pair_32.chk dom (lf_pair) (setW (w) 0 "sure") = true := by
  simp only [tr_pair_32, Tr.chk, PL.chkAll, PL.dom, t_pair_33, t_pair_34, t_pair_52, Bool.and_self]
def tr_pair_0 : Tr := .node 0 [tr_pair_1, tr_pair_2, tr_pair_32]
theorem t_pair_0 (w : Nat → Str) : tr_pair_0.chk dom (lf_pair) (w) = true := by
  simp only [tr_pair_0, Tr.chk, PL.chkAll, PL.dom, t_pair_1, t_pair_2, t_pair_32, Bool.and_self]
theorem pair_all {w : Nat → Str} (h : Gd w) : lf_pair w = true := Tr.chk_of h _ (t_pair_0 w)
end K74

set_option Elab.async false
set_option linter.all false
set_option maxRecDepth 100000
set_option maxHeartbeats 4000000
namespace K74
open PL PySem
def pures : List Nat := [3, 5, 14, 15]
def C (f : Nat) : Option (List D → Sto → Res D) := if f ∈ pures then some (pureC (PL.run prog cons 8 f)) else none
abbrev RC (n : Nat) := runC prog cons C n
/-- the deck at r, its great cells at f (T: for the form's sake) -/
def Bag (r f T : Nat) (st : Sto) : Prop := r ≠ f ∧ ∃ (s t : Int) (ns : List Int), st[r]? = some (.lst [.ref f, .int s, .int t]) ∧ st[f]? = some (.lst (ns.map .int)) ∧ (0 ≤ s ∧ s < 4294967291) ∧ 0 ≤ t ∧ (∀ n ∈ ns, 0 ≤ n) ∧ ns.length < 1000
def Fr (r f : Nat) (st st' : Sto) : Prop := st.length ≤ st'.length ∧ ∀ j o, j ≠ r → j ≠ f → st[j]? = some o → st'[j]? = some o
theorem Fr.refl {r f : Nat} {st : Sto} : Fr r f st st := ⟨Nat.le_refl _, fun _ _ _ _ h => h⟩
theorem Fr.trans {r f : Nat} {st st1 st2 : Sto} (h : Fr r f st st1) (h' : Fr r f st1 st2) : Fr r f st st2 := ⟨Nat.le_trans h.1 h'.1, fun j o a b e => h'.2 j o a b (h.2 j o a b e)⟩
theorem Fr.app {r f : Nat} {st l : Sto} : Fr r f st (st ++ l) := ⟨by simp, fun j o _ _ e => get_app e⟩
theorem Fr.setR {r f : Nat} {st : Sto} {o : Ob} : Fr r f st (st.set r o) := ⟨by simp, fun j o a _ e => get_set_ne (Ne.symm a) e⟩
theorem Fr.setF {r f : Nat} {st : Sto} {o : Ob} : Fr r f st (st.set f o) := ⟨by simp, fun j o _ a e => get_set_ne (Ne.symm a) e⟩
theorem small_l {i j : Int} (h : small64 i = true) : (small64 i || small64 j) = true := by rw [h]; rfl
theorem small_r {i j : Int} (h : small64 j = true) : (small64 i || small64 j) = true := by rw [h, Bool.or_true]
theorem small_of {i : Int} (h : -18446744073709551616 < i ∧ i < 18446744073709551616) : small64 i = true := by
  unfold small64
  simp only [Bool.and_eq_true, decide_eq_true_eq]
  omega
theorem at0 {f : Nat} {s t : Int} : L2.atI [D.ref f, .int s, .int t] 0 = some (.ref f) := rfl
theorem at1 {f : Nat} {s t : Int} : L2.atI [D.ref f, .int s, .int t] 1 = some (.int s) := rfl
theorem at2 {f : Nat} {s t : Int} : L2.atI [D.ref f, .int s, .int t] 2 = some (.int t) := rfl
theorem draw_spec {n r f T : Nat} {m : Int} {st : Sto} {P : D → Sto → Prop} (h : Bag r f (T + 1) st) (hm : 0 < m ∧ m < 1000000) (k : ∀ (v : Int) st', 0 ≤ v → v < m → Bag r f T st' → Fr r f st st' → P (.int v) st') : Wd (RC (n + 1) 8 [.ref r, .int m] st) P := by
  have hB := h
  obtain ⟨hrf, s, t, ns, h1, h2, h3, h4, h5, h6⟩ := h
  refine W_def (fn := f8) rfl rfl rfl ?_
  simp only [f8, W_var, W_cI, W_cB, W_cS, W_cN, W_gcon, W_bin, W_neg, W_notE, W_and1, W_or1, W_and2, W_or2, W_cmp, W_ife, W_tup, W_lst, W_dic, W_call, W_callK, W_blt, W_meth, W_idx, W_sl, W_rev, W_nil, W_cons, W_val, W_vc, W_not, W_tand1, W_tor1, W_tand2, W_tor2, W_yes, W_name, W_tgt, W_tgsub, W_tgnil, W_tgcons, W_asg, W_par, W_exp, W_ret, W_if, W_snil, W_scons, Then_next, Then_ret, Back_ret, Back_next, Wd_ok, Wd_bad, List.map_cons, List.map_nil, List.replicate_succ, List.replicate_zero, List.cons_append, List.nil_append, List.getElem?_cons_zero, List.getElem?_cons_succ, List.set_cons_zero, List.set_cons_succ, Option.some.injEq, exists_eq_left', List.length_cons, List.length_nil, setAll]
  refine ⟨_, C_lt, ?_⟩
  split
  · exact k 0 st (by decide) hm.1 hB Fr.refl
  refine X_idxR.mpr (.inl ⟨_, h1, _, at0, ?_⟩)
  refine ⟨by decide, _, C_neNil (get_app h2) get_new, ?_⟩
  have a1 : (st ++ [Ob.lst []])[r]? = some (.lst [.ref f, .int s, .int t]) := get_app h1
  have a2 : (st ++ [Ob.lst []])[f]? = some (.lst (ns.map .int)) := get_app h2
  have fr1 : Fr r f st (st ++ [Ob.lst []]) := Fr.app
  generalize hst1 : st ++ [Ob.lst []] = st1 at a1 a2 fr1
  rcases List.eq_nil_or_concat ns with rfl | ⟨ms, w, rfl⟩
  · rw [if_neg (by simp)]
    refine X_idxR.mpr (.inl ⟨_, a1, _, at2, ?_⟩)
    simp only [X_add]
    refine X_setI.mpr (.inl ⟨_, a1, 2, rfl, ?_⟩)
    rw [show [D.ref f, .int s, .int t].set 2 (.int (t + 1)) = [D.ref f, .int s, .int (t + 1)] from rfl]
    have b1 : (st1.set r (.lst [.ref f, .int s, .int (t + 1)]))[r]? = some (.lst [.ref f, .int s, .int (t + 1)]) := get_set_self a1
    have b2 : (st1.set r (.lst [.ref f, .int s, .int (t + 1)]))[f]? = some (.lst ([].map .int)) := get_set_ne hrf a2
    have fr2 : Fr r f st (st1.set r (.lst [.ref f, .int s, .int (t + 1)])) := fr1.trans Fr.setR
    generalize hst2 : st1.set r (.lst [.ref f, .int s, .int (t + 1)]) = st2 at b1 b2 fr2
    refine X_idxR.mpr (.inl ⟨_, b1, _, at1, ?_⟩)
    refine X_idxR.mpr (.inl ⟨_, b1, _, at2, ?_⟩)
    simp only [X_add, X_mul, X_int, X_md, X_fdiv]
    generalize hA : ((s + 2654435761 * (t + 1)) % 4294967291 : Int) = A
    have hA0 : 0 ≤ A ∧ A < 4294967291 := by rw [← hA]; exact ⟨Int.emod_nonneg _ (by decide), Int.emod_lt_of_pos _ (by decide)⟩
    refine ⟨small_l (by decide), by decide, small_l (small_of (by omega)), ?_⟩
    refine X_idxR.mpr (.inl ⟨_, b1, _, at2, ?_⟩)
    simp only [X_add, X_mul, X_int, X_md, X_fdiv]
    generalize hE : ((A * A + 40503 * (t + 1) + 11) % 4294967279 : Int) = E
    have hE0 : 0 ≤ E ∧ E < 4294967279 := by rw [← hE]; exact ⟨Int.emod_nonneg _ (by decide), Int.emod_lt_of_pos _ (by decide)⟩
    refine ⟨small_l (by decide), by decide, small_l (small_of (by omega)), ?_⟩
    refine X_idxR.mpr (.inl ⟨_, b1, _, at1, ?_⟩)
    simp only [X_add, X_mul, X_int, X_md, X_fdiv]
    exact ⟨by decide, by decide, hm.1, k _ _ (Int.emod_nonneg _ (by omega)) (Int.emod_lt_of_pos _ hm.1) ⟨hrf, s, t + 1, [], b1, b2, h3, by omega, by simp, by simp⟩ fr2⟩
  · rw [if_pos (by simp)]
    rw [List.concat_eq_append, List.map_append] at a2
    refine X_idxR.mpr (.inl ⟨_, a1, _, at0, ?_⟩)
    refine ⟨X_isLst a2, (X_pop0 (d := .int w) a2).mpr ?_⟩
    have b1 : (st1.set f (.lst (ms.map .int)))[r]? = some (.lst [.ref f, .int s, .int t]) := get_set_ne hrf.symm a1
    have b2 : (st1.set f (.lst (ms.map .int)))[f]? = some (.lst (ms.map .int)) := get_set_self a2
    have fr2 : Fr r f st (st1.set f (.lst (ms.map .int))) := fr1.trans Fr.setF
    have hw : 0 ≤ w := h5 w (by simp)
    have hms : ∀ n ∈ ms, 0 ≤ n := fun n hn => h5 n (by simp [hn])
    have hl : ms.length < 999 := by simp at h6; omega
    generalize hst2 : st1.set f (.lst (ms.map .int)) = st2 at b1 b2 fr2
    refine ⟨_, C_ge, ?_⟩
    by_cases hc : m ≤ w
    · rw [if_pos (by simpa using hc)]
      refine X_idxR.mpr (.inl ⟨_, b1, _, at0, ?_⟩)
      refine ⟨X_isLst b2, X_fdiv.mpr ⟨by omega, (X_append b2 (by rw [List.length_map]; exact Nat.lt_trans hl (by decide))).mpr ?_⟩⟩
      simp only [X_int, X_md]
      refine ⟨hm.1, k _ _ (Int.emod_nonneg _ (by omega)) (Int.emod_lt_of_pos _ hm.1) ⟨hrf, s, t, ms ++ [w / m], get_set_ne hrf.symm b1, by rw [List.map_append]; exact get_set_self b2, h3, h4, ?_, by simp; omega⟩ (fr2.trans Fr.setF)⟩
      intro n hn
      rcases List.mem_append.mp hn with hn | hn
      · exact hms n hn
      · simp at hn; subst hn; exact Int.ediv_nonneg hw (by omega)
    · rw [if_neg (by simpa using hc)]
      simp only [X_int, X_md]
      exact ⟨hm.1, k _ _ (Int.emod_nonneg _ (by omega)) (Int.emod_lt_of_pos _ hm.1) ⟨hrf, s, t, ms, b1, b2, h3, h4, hms, by omega⟩ fr2⟩
theorem cutD_map {α β : Type} (g : α → β) (xs : List α) (lo hi : Option Int) : cutD (xs.map g) lo hi = (cutD xs lo hi).map g := by
  unfold cutD; simp only [List.length_map, List.map_take, List.map_drop]
theorem cutD_len {α : Type} (xs : List α) (lo hi : Option Int) : (cutD xs lo hi).length ≤ xs.length := by
  unfold cutD; simp only [List.length_take, List.length_drop]; omega
theorem X_pow {i j : Int} {st : Sto} {P : D → Sto → Prop} (h : 0 ≤ j ∧ j ≤ 1000000 ∧ i.natAbs < 2 ^ 64) : Wd (binD .pow (.int i) (.int j) st) P ↔ P (.int (i ^ j.toNat)) st := by
  unfold binD; simp only []
  rw [if_pos (by simp [h.1, h.2.1, h.2.2])]; exact Iff.rfl
theorem bag_spec {n : Nat} {ns : List Int} {st : Sto} {P : D → Sto → Prop} (hn : ns.length ≤ 63) (k : ∀ r f st', Bag r f 1000000 st' → P (.ref r) st') : Wd (RC (n + 1) 7 [scriptD ns] st) P := by
  refine W_def (fn := f7) rfl rfl rfl ?_
  unfold scriptD
  simp only [f7, W_var, W_cI, W_cB, W_cS, W_cN, W_gcon, W_bin, W_neg, W_notE, W_and1, W_or1, W_and2, W_or2, W_cmp, W_ife, W_tup, W_lst, W_dic, W_call, W_callK, W_blt, W_meth, W_idx, W_sl, W_rev, W_nil, W_cons, W_val, W_vc, W_not, W_tand1, W_tor1, W_tand2, W_tor2, W_yes, W_name, W_tgt, W_tgsub, W_tgnil, W_tgcons, W_asg, W_par, W_exp, W_ret, W_if, W_snil, W_scons, Then_next, Then_ret, Back_ret, Back_next, Wd_ok, Wd_bad, List.map_cons, List.map_nil, List.replicate_succ, List.replicate_zero, List.cons_append, List.nil_append, List.getElem?_cons_zero, List.getElem?_cons_succ, List.set_cons_zero, List.set_cons_succ, Option.some.injEq, exists_eq_left', List.length_cons, List.length_nil, setAll, W_lc]
  refine X_slS.mpr ⟨_, rfl, _, rfl, ?_⟩
  rw [cutD_map]
  generalize hms : cutD ns none (some 63) = ms
  have hml : ms.length ≤ 63 := by rw [← hms]; exact Nat.le_trans (cutD_len _ _ _) hn
  have hq : (st ++ [Ob.lst (ms.map .int)])[st.length]? = some (.lst (ms.map .int)) := get_new
  refine ⟨.live st.length, by simp only [srcD, seqD, hq], ?_⟩
  refine W_lc_live (ds := ms.map .int) (fun i acc st' => st' = st ++ [Ob.lst (ms.map .int)] ∧ ∃ cs : List Int, acc = cs.map .int ∧ cs.length = i ∧ ∀ c ∈ cs, 0 ≤ c) ⟨rfl, [], rfl, rfl, fun c hc => (by cases hc)⟩ ?_ ?_ ?_
  · rintro i acc st' ⟨rfl, _⟩; exact hq
  · rintro i d acc st' hd ⟨rfl, cs, rfl, rfl, hc⟩
    have hi : cs.length < 63 := by
      have := (List.getElem?_eq_some_iff.mp hd).1
      rw [List.length_map] at this; omega
    rw [List.getElem?_map] at hd
    obtain ⟨x, hx, rfl⟩ := Option.map_eq_some_iff.mp hd
    simp only [Wd_bind, W_var, W_cI, W_cB, W_cS, W_cN, W_gcon, W_bin, W_neg, W_notE, W_and1, W_or1, W_and2, W_or2, W_cmp, W_ife, W_tup, W_lst, W_dic, W_call, W_callK, W_blt, W_meth, W_idx, W_sl, W_rev, W_nil, W_cons, W_val, W_vc, W_not, W_tand1, W_tor1, W_tand2, W_tor2, W_yes, W_name, W_tgt, W_tgsub, W_tgnil, W_tgcons, W_asg, W_par, W_exp, W_ret, W_if, W_snil, W_scons, Then_next, Then_ret, Back_ret, Back_next, Wd_ok, Wd_bad, List.map_cons, List.map_nil, List.replicate_succ, List.replicate_zero, List.cons_append, List.nil_append, List.getElem?_cons_zero, List.getElem?_cons_succ, List.set_cons_zero, List.set_cons_succ, Option.some.injEq, exists_eq_left', List.length_cons, List.length_nil, setAll, wipeE, List.set, if_true, X_abs, X_mul, C_lt, X_intB, X_add]
    refine ⟨by rw [Bool.or_eq_true]; exact .inl (by decide), by rw [List.length_map]; exact Nat.lt_trans hi (by decide), rfl, cs ++ [_], by rw [List.map_append]; rfl, by simp, fun c hc' => ?_⟩
    rcases List.mem_append.mp hc' with h | h
    · exact hc c h
    · simp at h; subst h
      split <;> omega
  · rintro acc st' ⟨rfl, cs, rfl, hcl, hc⟩
    have hcl : cs.length = ms.length := by rw [hcl, List.length_map]
    generalize hS : st ++ [Ob.lst (ms.map .int)] ++ [Ob.lst (cs.map .int)] = Z
    have hqc : Z[(st ++ [Ob.lst (ms.map .int)]).length]? = some (.lst (cs.map .int)) := by rw [← hS]; exact get_new
    generalize hQ : (st ++ [Ob.lst (ms.map .int)]).length = qc at hqc
    simp only [W_var, W_cI, W_cB, W_cS, W_cN, W_gcon, W_bin, W_neg, W_notE, W_and1, W_or1, W_and2, W_or2, W_cmp, W_ife, W_tup, W_lst, W_dic, W_call, W_callK, W_blt, W_meth, W_idx, W_sl, W_rev, W_nil, W_cons, W_val, W_vc, W_not, W_tand1, W_tor1, W_tand2, W_tor2, W_yes, W_name, W_tgt, W_tgsub, W_tgnil, W_tgcons, W_asg, W_par, W_exp, W_ret, W_if, W_snil, W_scons, Then_next, Then_ret, Back_ret, Back_next, Wd_ok, Wd_bad, List.map_cons, List.map_nil, List.replicate_succ, List.replicate_zero, List.cons_append, List.nil_append, List.getElem?_cons_zero, List.getElem?_cons_succ, List.set_cons_zero, List.set_cons_succ, Option.some.injEq, exists_eq_left', List.length_cons, List.length_nil, setAll, X_lenS, X_add, W_for]
    refine ⟨trivial, .live qc, by simp only [srcD, seqD, hqc], ?_⟩
    refine W_for_live (ds := cs.map .int) (fun i env st' => st' = Z ∧ ∃ s e, (0 ≤ s ∧ s < 4294967291) ∧ env = [some (.scr (ns.map .int)), some (.ref qc), some (.int s), e]) ⟨rfl, _, _, ?_, rfl⟩ ?_ ?_ ?_
    · simp only [List.length_map]; omega
    · rintro i env st' ⟨hz, _⟩; rw [hz]; exact hqc
    · rintro i d env st' hd ⟨hz, s, e, hs, rfl⟩
      replace hz := hz.symm; subst hz
      rw [List.getElem?_map] at hd
      obtain ⟨x, hx, rfl⟩ := Option.map_eq_some_iff.mp hd
      simp only [Wd_bind, W_var, W_cI, W_cB, W_cS, W_cN, W_gcon, W_bin, W_neg, W_notE, W_and1, W_or1, W_and2, W_or2, W_cmp, W_ife, W_tup, W_lst, W_dic, W_call, W_callK, W_blt, W_meth, W_idx, W_sl, W_rev, W_nil, W_cons, W_val, W_vc, W_not, W_tand1, W_tor1, W_tand2, W_tor2, W_yes, W_name, W_tgt, W_tgsub, W_tgnil, W_tgcons, W_asg, W_par, W_exp, W_ret, W_if, W_snil, W_scons, Then_next, Then_ret, Back_ret, Back_next, Wd_ok, Wd_bad, List.map_cons, List.map_nil, List.replicate_succ, List.replicate_zero, List.cons_append, List.nil_append, List.getElem?_cons_zero, List.getElem?_cons_succ, List.set_cons_zero, List.set_cons_succ, Option.some.injEq, exists_eq_left', List.length_cons, List.length_nil, setAll, X_mul, X_add, X_int, X_md]
      exact ⟨small_r (by decide), by decide, rfl, _, _, ⟨Int.emod_nonneg _ (by decide), Int.emod_lt_of_pos _ (by decide)⟩, rfl⟩
    · rintro env st' ⟨hz, s, e, hs, rfl⟩
      replace hz := hz.symm; subst hz
      simp only [W_var, W_cI, W_cB, W_cS, W_cN, W_gcon, W_bin, W_neg, W_notE, W_and1, W_or1, W_and2, W_or2, W_cmp, W_ife, W_tup, W_lst, W_dic, W_call, W_callK, W_blt, W_meth, W_idx, W_sl, W_rev, W_nil, W_cons, W_val, W_vc, W_not, W_tand1, W_tor1, W_tand2, W_tor2, W_yes, W_name, W_tgt, W_tgsub, W_tgnil, W_tgcons, W_asg, W_par, W_exp, W_ret, W_if, W_snil, W_scons, Then_next, Then_ret, Back_ret, Back_next, Wd_ok, Wd_bad, List.map_cons, List.map_nil, List.replicate_succ, List.replicate_zero, List.cons_append, List.nil_append, List.getElem?_cons_zero, List.getElem?_cons_succ, List.set_cons_zero, List.set_cons_succ, Option.some.injEq, exists_eq_left', List.length_cons, List.length_nil, setAll, W_lc]
      refine ⟨.live qc, by simp only [srcD, seqD, hqc], ?_⟩
      refine W_lc_live (ds := cs.map .int) (fun i acc st' => st' = Z ∧ ∃ fs : List Int, acc = fs.map .int ∧ fs.length ≤ i ∧ ∀ c ∈ fs, 0 ≤ c) ⟨rfl, [], rfl, by simp, fun c hc => (by cases hc)⟩ ?_ ?_ ?_
      · rintro i acc st' ⟨hz, _⟩; rw [hz]; exact hqc
      · rintro i d acc st' hd ⟨hz, fs, rfl, hfl, hf⟩
        replace hz := hz.symm; subst hz
        have hi : i < 63 := by
          have := (List.getElem?_eq_some_iff.mp hd).1
          rw [List.length_map] at this; omega
        rw [List.getElem?_map] at hd
        obtain ⟨x, hx, rfl⟩ := Option.map_eq_some_iff.mp hd
        have hx0 : 0 ≤ x := hc x (List.mem_of_getElem? hx)
        simp only [Wd_bind, W_var, W_cI, W_cB, W_cS, W_cN, W_gcon, W_bin, W_neg, W_notE, W_and1, W_or1, W_and2, W_or2, W_cmp, W_ife, W_tup, W_lst, W_dic, W_call, W_callK, W_blt, W_meth, W_idx, W_sl, W_rev, W_nil, W_cons, W_val, W_vc, W_not, W_tand1, W_tor1, W_tand2, W_tor2, W_yes, W_name, W_tgt, W_tgsub, W_tgnil, W_tgcons, W_asg, W_par, W_exp, W_ret, W_if, W_snil, W_scons, Then_next, Then_ret, Back_ret, Back_next, Wd_ok, Wd_bad, List.map_cons, List.map_nil, List.replicate_succ, List.replicate_zero, List.cons_append, List.nil_append, List.getElem?_cons_zero, List.getElem?_cons_succ, List.set_cons_zero, List.set_cons_succ, Option.some.injEq, exists_eq_left', List.length_cons, List.length_nil, setAll, wipeE, List.set]
        refine (X_pow (by decide)).mpr ⟨_, C_ge, ?_⟩
        rw [Wd_ite]
        split
        · simp only [Wd_bind, W_var, W_cI, W_cB, W_cS, W_cN, W_gcon, W_bin, W_neg, W_notE, W_and1, W_or1, W_and2, W_or2, W_cmp, W_ife, W_tup, W_lst, W_dic, W_call, W_callK, W_blt, W_meth, W_idx, W_sl, W_rev, W_nil, W_cons, W_val, W_vc, W_not, W_tand1, W_tor1, W_tand2, W_tor2, W_yes, W_name, W_tgt, W_tgsub, W_tgnil, W_tgcons, W_asg, W_par, W_exp, W_ret, W_if, W_snil, W_scons, Then_next, Then_ret, Back_ret, Back_next, Wd_ok, Wd_bad, List.map_cons, List.map_nil, List.replicate_succ, List.replicate_zero, List.cons_append, List.nil_append, List.getElem?_cons_zero, List.getElem?_cons_succ, List.set_cons_zero, List.set_cons_succ, Option.some.injEq, exists_eq_left', List.length_cons, List.length_nil, setAll]
          refine ⟨by rw [List.length_map]; exact Nat.lt_of_le_of_lt hfl (Nat.lt_trans hi (by decide)), rfl, fs ++ [x], by rw [List.map_append]; rfl, by simp; omega, fun c hc' => ?_⟩
          rcases List.mem_append.mp hc' with h | h
          · exact hf c h
          · simp at h; subst h; exact hx0
        · exact ⟨rfl, fs, rfl, by omega, hf⟩
      · rintro acc st' ⟨hz, fs, rfl, hfl, hf⟩
        replace hz := hz.symm; subst hz
        rw [List.length_map] at hfl
        refine ⟨by decide, k _ Z.length _ ⟨?_, s, 0, fs, get_new, get_app get_new, hs, by decide, hf, by omega⟩⟩
        simp

theorem Bag.lt {r f T : Nat} {st : Sto} (h : Bag r f T st) : r < st.length ∧ f < st.length := by
  obtain ⟨hrf, s, t, ns, h1, h2, _⟩ := h
  exact ⟨(List.getElem?_eq_some_iff.mp h1).1, (List.getElem?_eq_some_iff.mp h2).1⟩
theorem Bag.T {r f T T' : Nat} {st : Sto} (h : Bag r f T st) : Bag r f T' st := h
/-- around the deck -/
def W0 (r f : Nat) : Wo := {
  bagr := r
  foot := fun j => j = r ∨ j = f
  B := fun _ st => Bag r f 0 st
  Pr := fun _ _ => False
  base := 0
  Fr := fun _ _ => False
  Ph := fun _ _ => False
  Bmono := fun _ _ _ _ h => h
  Bkeep := fun _ st st' h _ hb => by
    obtain ⟨hrf, s, t, ns, h1, h2, h3⟩ := hb
    exact ⟨hrf, s, t, ns, h _ _ (.inl rfl) h1, h _ _ (.inr rfl) h2, h3⟩
  Bfoot := fun _ st j hb hj => by
    obtain ⟨a, b⟩ := hb.lt
    rcases hj with rfl | rfl
    · exact a
    · exact b
  PrS := fun _ _ _ h => h.elim }
theorem draw_ok {r f : Nat} : DrawOk (W0 r f) prog cons C 1 8 := by
  intro n b m st h1 h2 hb
  have e : 1 + n = n + 1 := by omega
  rw [e]
  exact draw_spec (T := 0) (show Bag r f (0 + 1) st from hb) ⟨by omega, by omega⟩ fun v st' v0 v1 hb' hf => ⟨⟨v, rfl, v0, v1⟩, hb', hf.1, fun j o hj hs => hf.2 j o (fun z => hj (.inl z)) (fun z => hj (.inr z)) hs⟩
def noC (f : Nat) (xs : List SV) (s : SS) : Option (SX SV) := if f ∈ pures then some (.err 49) else none
def K0 : Nat → List SV → SS → Option (SX SV) := orK (drawK 8) noC
theorem noC_none {f : Nat} {xs : List SV} {s : SS} (h : noC f xs s = none) : C f = none := by
  unfold noC at h
  unfold C
  split at h
  · cases h
  · rename_i h1; rw [if_neg h1]
theorem orK_cases {k k' : Nat → List SV → SS → Option (SX SV)} {f : Nat} {xs : List SV} {s : SS} {r : SX SV} (h : orK k k' f xs s = some r) : k f xs s = some r ∨ k' f xs s = some r := by
  unfold orK at h
  split at h
  · cases h; exact .inl (by assumption)
  · exact .inr h
theorem orK_none {k k' : Nat → List SV → SS → Option (SX SV)} {f : Nat} {xs : List SV} {s : SS} (h : orK k k' f xs s = none) : k' f xs s = none := by
  unfold orK at h
  split at h
  · cases h
  · exact h
theorem K0_ok {r f : Nat} {md : Nat → Md} (base : Nat) (Fr Ph : Nat → Ob → Prop) : KOk ((W0 r f).re base Fr Ph) ⟨prog, cons, md, K0⟩ C 1 := by
  refine ⟨fun f xs s h => noC_none (orK_none h), fun n f xs s δ g env st ds l h hx q => ?_⟩
  rcases orK_cases q with q | q
  · exact drawK_ok rfl draw_ok h hx q
  · unfold noC at q
    split at q <;> cases q
end K74

set_option Elab.async false
set_option linter.all false
set_option maxRecDepth 100000
set_option maxHeartbeats 4000000
namespace K74
open PL PySem
def mdJ : Md := ⟨false, true, true, false, false, true⟩
def mdP : Md := ⟨false, true, true, true, false, true⟩
def mdB : Md := ⟨true, false, false, false, false, false⟩
def mdN : Md := ⟨true, false, true, false, false, false⟩
def md (f : Nat) : Md := if f = 9 then mdP else if f = 13 then mdN else if 10 ≤ f ∧ f ≤ 12 then mdJ else mdB
def cf : Cf := ⟨prog, cons, md, K0⟩
section
variable {r f : Nat}
theorem e_book : EntOk (W0 r f) prog cons C 5 ⟨11, [.bag], [bookT], 100⟩ := ent_by (c := cf) (n := 4) (pk := true) K0_ok (by kernel_rfl)
theorem e_safe : EntOk (W0 r f) prog cons C 5 ⟨12, [.bag], [bookT], 100⟩ := ent_by (c := cf) (n := 4) (pk := true) K0_ok (by kernel_rfl)
theorem e_pick : EntOk (W0 r f) prog cons C 5 ⟨9, [.bag, .lstOf 19 19 bookT], [bookT], 100⟩ := ent_by (c := cf) (n := 4) (pk := true) K0_ok (by kernel_rfl)
def w7 : List Str := ["first", "last", "between"]
def w11 : List Str := ["one", "any"]
theorem e_p7 : EntOk (W0 r f) prog cons C 5 ⟨9, [.bag, .lst (w7.map fun x => .c (.str x))], [.one (w7.map .str)], 100⟩ := ent_by (c := cf) (n := 4) (pk := true) K0_ok (by kernel_rfl)
theorem e_p11 : EntOk (W0 r f) prog cons C 5 ⟨9, [.bag, .lst (w11.map fun x => .c (.str x))], [.one (w11.map .str)], 100⟩ := ent_by (c := cf) (n := 4) (pk := true) K0_ok (by kernel_rfl)
theorem e_near : EntOk (W0 r f) prog cons C 5 ⟨13, [bookT], [.lstOf 19 19 bookT], 100⟩ := ent_by (c := cf) (n := 4) (pk := true) K0_ok (by kernel_rfl)
end
/-! what is asked of a book -/
def dOf (n : Nat) : D := if n = 0 then .non else .int n
def orc (a b : Nat) : List (Nat × D) := [(5, dOf a), (14, dOf a), (3, dOf b), (15, dOf b)]
def cfO (a b : Nat) : Cf := ⟨prog, cons, fun _ => mdB, orcK (orc a b)⟩
theorem cod_of {r : Res D} {n : Nat} (h : cod r = n) (hn : n < 99) : ∃ s, r = .ok (dOf n) s := by
  unfold cod at h
  split at h
  · subst h; exact ⟨_, rfl⟩
  · rename_i k s
    subst h
    refine ⟨s, ?_⟩
    unfold dOf
    rw [if_neg (by omega)]; rfl
  · omega
theorem pair_of {w : Nat → Str} (h : Gd w) : ∃ a b, okP a b = true ∧ (∃ s, PL.run prog cons 8 5 [bk w] [] = .ok (dOf a) s) ∧ (∃ s, PL.run prog cons 8 14 [bk w] [] = .ok (dOf a) s) ∧ (∃ s, PL.run prog cons 8 3 [bk w] [] = .ok (dOf b) s) ∧ ∃ s, PL.run prog cons 8 15 [bk w] [] = .ok (dOf b) s := by
  have h1 : pairB (cod (PL.run prog cons 8 5 [bk w] [])) (cod (PL.run prog cons 8 14 [bk w] [])) (cod (PL.run prog cons 8 3 [bk w] [])) (cod (PL.run prog cons 8 15 [bk w] [])) = true := pair_all h
  unfold pairB at h1
  split at h1
  · rename_i e1
    split at h1
    · rename_i e2
      have e1 := Nat.eq_of_beq_eq_true e1
      have e2 := Nat.eq_of_beq_eq_true e2
      have hb : cod (PL.run prog cons 8 5 [bk w] []) < 99 ∧ cod (PL.run prog cons 8 3 [bk w] []) < 99 := by
        generalize cod (PL.run prog cons 8 5 [bk w] []) = a at h1
        generalize cod (PL.run prog cons 8 3 [bk w] []) = b at h1
        unfold okP at h1
        split at h1 <;> first | (exact ⟨by decide, by decide⟩) | cases h1
      exact ⟨_, _, h1, cod_of rfl hb.1, cod_of e1.symm hb.1, cod_of rfl hb.2, cod_of e2.symm hb.2⟩
    · cases h1
  · cases h1
theorem orc_none {a b : Nat} {f : Nat} {xs : List SV} {s : SS} (h : orcK (orc a b) f xs s = none) : C f = none := by
  unfold orcK at h
  split at h
  · rename_i q
    unfold C
    rw [if_neg]
    intro hm
    unfold orc at q
    rw [List.find?_eq_none] at q
    unfold pures at hm
    simp only [List.mem_cons, List.not_mem_nil, or_false] at hm
    rcases hm with rfl | rfl | rfl | rfl
    · exact q (3, dOf b) (by simp) (by simp)
    · exact q (5, dOf a) (by simp) (by simp)
    · exact q (14, dOf a) (by simp) (by simp)
    · exact q (15, dOf b) (by simp) (by simp)
  · cases h
theorem ground_dOf {n : Nat} : ground (dOf n) = true := by unfold dOf; split <;> rfl
theorem KO_ok {w : Nat → Str} (h : Gd w) {a b : Nat} (h5 : ∃ s, PL.run prog cons 8 5 [bk w] [] = .ok (dOf a) s) (h14 : ∃ s, PL.run prog cons 8 14 [bk w] [] = .ok (dOf a) s) (h3 : ∃ s, PL.run prog cons 8 3 [bk w] [] = .ok (dOf b) s) (h15 : ∃ s, PL.run prog cons 8 15 [bk w] [] = .ok (dOf b) s) (base : Nat) (Fr Ph : Nat → Ob → Prop) :
    KOk ((WB w h).re base Fr Ph) (cfO a b) C 1 := by
  refine ⟨fun f xs s h => orc_none h, fun n f xs s δ g env st ds l hr hx q => ?_⟩
  refine orcK_ok (k := 8) (tbl := orc a b) WB_pr ?_ hr hx q
  intro p hp
  unfold orc at hp
  simp only [List.mem_cons, List.not_mem_nil, or_false] at hp
  rcases hp with rfl | rfl | rfl | rfl
  · exact ⟨rfl, ground_dOf, h5⟩
  · exact ⟨rfl, ground_dOf, h14⟩
  · exact ⟨rfl, ground_dOf, h3⟩
  · exact ⟨rfl, ground_dOf, h15⟩
def rightB (a b : Nat) (k : Bool) : Bool := entB (mkEnt (cfO a b) 4 16 [bookPr, .c (.bl k)] false 0) (.c (.bl true))
theorem right_pairs : ([(0, 0), (1, 1), (2, 2), (3, 3), (4, 4), (6, 0), (6, 5), (7, 0), (7, 5), (8, 0), (8, 5), (9, 0), (9, 5)].all fun p => rightB p.1 p.2 true && rightB p.1 p.2 false) = true := by kernel_rfl
theorem right_pair {a b : Nat} (h : okP a b = true) (k : Bool) : rightB a b k = true := by
  have h0 := right_pairs
  rw [List.all_eq_true] at h0
  have h1 : (rightB a b true && rightB a b false) = true := by
    unfold okP at h
    split at h <;> first | (cases h; done) | skip
    all_goals exact h0 (_, _) (by simp)
  rw [Bool.and_eq_true] at h1
  cases k
  · exact h1.2
  · exact h1.1
/-- is_right tells True of every book -/
theorem right_spec {n : Nat} {w : Nat → Str} (hw : Gd w) (k : Bool) {st : Sto} {Q : D → Sto → Prop} (q : ∀ st' : Sto, st.length ≤ st'.length → (∀ (r : Nat) (o : Ob), st[r]? = some o → st'[r]? = some o) → Q (.bl true) st') : Wd (runC prog cons C (5 + n) 16 [bk w, .bl k] st) Q := by
  obtain ⟨a, b, hp, h5, h14, h3, h15⟩ := pair_of hw
  have he : EntOk (WB w hw) prog cons C (1 + 4) ⟨16, [bookPr, .c (.bl k)], [.c (.bl true)], 0⟩ := ent_by (c := cfO a b) (KO_ok hw h5 h14 h3 h15) (right_pair hp k)
  refine he.use (Ph := fun _ _ => False) (δ := 0) (fun r o h => h.elim) trivial ⟨_, _, rfl, bookPr_gam fun p hp => ⟨hp, rfl⟩, _, _, rfl, by rw [Gam], rfl⟩ ?_
  intro d st' Ph' _ h1 h2 _ hg
  rw [Gam] at hg
  subst hg
  exact q st' h1 fun r o e => h2 r o (fun z => z) e
end K74

set_option Elab.async false
set_option linter.all false
set_option maxRecDepth 100000
set_option maxHeartbeats 4000000
namespace K74
open PL PySem
def lf_loose (x y : Str) (w : Nat → Str) : Bool := Nat.beq (cod (PL.run prog cons 8 3 [bk w] [])) (cod (PL.run prog cons 8 3 [bk (setW (setW w 7 x) 11 y)] []))
def tr_loose_1 : Tr := (.node 1 [.leaf, .leaf, .leaf])
theorem t_loose_1 (x y : Str) (w : Nat → Str) : tr_loose_1.chk dom (lf_loose x y) (setW (w) 0 "none") = true := by kernel_rfl
def tr_loose_3 : Tr := .leaf
theorem t_loose_3 (x y : Str) (w : Nat → Str) : tr_loose_3.chk dom (lf_loose x y) (setW (setW (w) 0 "perhaps") 1 "none") = true := by kernel_rfl
def tr_loose_5 : Tr := (.node 3 [.leaf, (.node 5 [.leaf, .leaf]), .leaf])
theorem t_loose_5 (x y : Str) (w : Nat → Str) : tr_loose_5.chk dom (lf_loose x y) (setW (setW (setW (w) 0 "perhaps") 1 "perhaps") 6 "none") = true := by kernel_rfl
def tr_loose_6 : Tr := (.node 3 [(.node 4 [.leaf, .leaf, .leaf]), (.node 4 [.leaf, (.node 5 [(.node 2 [(.node 8 [(.node 9 [.leaf, .leaf]), (.node 10 [.leaf, .leaf]), .leaf]), (.node 8 [(.node 9 [.leaf, .leaf]), (.node 10 [.leaf, .leaf]), .leaf]), .leaf]), .leaf]), (.node 5 [(.node 2 [(.node 8 [(.node 9 [.leaf, .leaf]), (.node 10 [.leaf, .leaf]), .leaf]), (.node 8 [(.node 9 [.leaf, .leaf]), (.node 10 [.leaf, .leaf]), .leaf]), .leaf]), .leaf])]), (.node 4 [.leaf, (.node 5 [(.node 2 [(.node 8 [(.node 9 [.leaf, .leaf]), (.node 10 [.leaf, .leaf]), .leaf]), (.node 8 [(.node 9 [.leaf, .leaf]), (.node 10 [.leaf, .leaf]), .leaf]), .leaf]), (.node 8 [.leaf, (.node 2 [(.node 10 [.leaf, .leaf]), (.node 10 [.leaf, .leaf]), .leaf]), (.node 2 [.leaf, .leaf, .leaf])])]), (.node 2 [(.node 8 [(.node 9 [.leaf, .leaf]), (.node 10 [.leaf, .leaf]), .leaf]), (.node 8 [(.node 9 [.leaf, .leaf]), (.node 10 [.leaf, .leaf]), .leaf]), .leaf])])])
theorem t_loose_6 (x y : Str) (w : Nat → Str) : tr_loose_6.chk dom (lf_loose x y) (setW (setW (setW (w) 0 "perhaps") 1 "perhaps") 6 "sure") = true := by kernel_rfl
def tr_loose_4 : Tr := .node 6 [tr_loose_5, tr_loose_6]
theorem t_loose_4 (x y : Str) (w : Nat → Str) : tr_loose_4.chk dom (lf_loose x y) (setW (setW (w) 0 "perhaps") 1 "perhaps") = true := by
  simp only [tr_loose_4, Tr.chk, PL.chkAll, PL.dom, t_loose_5, t_loose_6, Bool.and_self]
def tr_loose_8 : Tr := (.node 3 [(.node 4 [.leaf, .leaf, .leaf]), (.node 4 [.leaf, (.node 5 [.leaf, .leaf]), (.node 5 [.leaf, .leaf])]), (.node 4 [.leaf, (.node 5 [.leaf, (.node 8 [.leaf, .leaf, .leaf])]), .leaf])])
theorem t_loose_8 (x y : Str) (w : Nat → Str) : tr_loose_8.chk dom (lf_loose x y) (setW (setW (setW (w) 0 "perhaps") 1 "sure") 6 "none") = true := by kernel_rfl
def tr_loose_9 : Tr := (.node 3 [(.node 4 [.leaf, .leaf, .leaf]), (.node 4 [.leaf, (.node 5 [(.node 2 [(.node 8 [(.node 9 [.leaf, .leaf]), (.node 10 [.leaf, .leaf]), .leaf]), (.node 8 [(.node 9 [.leaf, .leaf]), (.node 10 [.leaf, .leaf]), .leaf]), .leaf]), .leaf]), (.node 5 [(.node 2 [(.node 8 [(.node 9 [.leaf, .leaf]), (.node 10 [.leaf, .leaf]), .leaf]), (.node 8 [(.node 9 [.leaf, .leaf]), (.node 10 [.leaf, .leaf]), .leaf]), .leaf]), .leaf])]), (.node 4 [.leaf, (.node 5 [(.node 2 [(.node 8 [(.node 9 [.leaf, .leaf]), (.node 10 [.leaf, .leaf]), .leaf]), (.node 8 [(.node 9 [.leaf, .leaf]), (.node 10 [.leaf, .leaf]), .leaf]), .leaf]), (.node 8 [.leaf, (.node 2 [(.node 10 [.leaf, .leaf]), (.node 10 [.leaf, .leaf]), .leaf]), (.node 2 [.leaf, .leaf, .leaf])])]), (.node 2 [(.node 8 [(.node 9 [.leaf, .leaf]), (.node 10 [.leaf, .leaf]), .leaf]), (.node 8 [(.node 9 [.leaf, .leaf]), (.node 10 [.leaf, .leaf]), .leaf]), .leaf])])])
theorem t_loose_9 (x y : Str) (w : Nat → Str) : tr_loose_9.chk dom (lf_loose x y) (setW (setW (setW (w) 0 "perhaps") 1 "sure") 6 "sure") = true := by kernel_rfl
def tr_loose_7 : Tr := .node 6 [tr_loose_8, tr_loose_9]
theorem t_loose_7 (x y : Str) (w : Nat → Str) : tr_loose_7.chk dom (lf_loose x y) (setW (setW (w) 0 "perhaps") 1 "sure") = true := by
  simp only [tr_loose_7, Tr.chk, PL.chkAll, PL.dom, t_loose_8, t_loose_9, Bool.and_self]
def tr_loose_2 : Tr := .node 1 [tr_loose_3, tr_loose_4, tr_loose_7]
theorem t_loose_2 (x y : Str) (w : Nat → Str) : tr_loose_2.chk dom (lf_loose x y) (setW (w) 0 "perhaps") = true := by
  simp only [tr_loose_2, Tr.chk, PL.chkAll, PL.dom, t_loose_3, t_loose_4, t_loose_7, Bool.and_self]
def tr_loose_11 : Tr := .leaf
theorem t_loose_11 (x y : Str) (w : Nat → Str) : tr_loose_11.chk dom (lf_loose x y) (setW (setW (w) 0 "sure") 1 "none") = true := by kernel_rfl
def tr_loose_13 : Tr := (.node 3 [(.node 4 [.leaf, .leaf, .leaf]), (.node 4 [.leaf, (.node 5 [.leaf, .leaf]), (.node 5 [.leaf, .leaf])]), (.node 4 [.leaf, (.node 5 [.leaf, (.node 8 [.leaf, .leaf, .leaf])]), .leaf])])
theorem t_loose_13 (x y : Str) (w : Nat → Str) : tr_loose_13.chk dom (lf_loose x y) (setW (setW (setW (w) 0 "sure") 1 "perhaps") 6 "none") = true := by kernel_rfl
def tr_loose_15 : Tr := (.node 4 [.leaf, .leaf, .leaf])
theorem t_loose_15 (x y : Str) (w : Nat → Str) : tr_loose_15.chk dom (lf_loose x y) (setW (setW (setW (setW (w) 0 "sure") 1 "perhaps") 6 "sure") 3 "answer") = true := by kernel_rfl
def tr_loose_16 : Tr := (.node 4 [.leaf, (.node 5 [(.node 2 [(.node 8 [(.node 9 [.leaf, .leaf]), (.node 10 [.leaf, .leaf]), .leaf]), (.node 8 [(.node 9 [.leaf, .leaf]), (.node 10 [.leaf, .leaf]), .leaf]), .leaf]), (.node 8 [.leaf, (.node 2 [(.node 10 [.leaf, .leaf]), (.node 10 [.leaf, .leaf]), .leaf]), (.node 2 [.leaf, .leaf, .leaf])])]), (.node 5 [(.node 2 [(.node 8 [(.node 9 [.leaf, .leaf]), (.node 10 [.leaf, .leaf]), .leaf]), (.node 8 [(.node 9 [.leaf, .leaf]), (.node 10 [.leaf, .leaf]), .leaf]), .leaf]), (.node 2 [(.node 8 [(.node 9 [.leaf, .leaf]), (.node 10 [.leaf, .leaf]), .leaf]), (.node 8 [(.node 9 [.leaf, .leaf]), (.node 10 [.leaf, .leaf]), .leaf]), .leaf])])])
theorem t_loose_16 (x y : Str) (w : Nat → Str) : tr_loose_16.chk dom (lf_loose x y) (setW (setW (setW (setW (w) 0 "sure") 1 "perhaps") 6 "sure") 3 "check") = true := by kernel_rfl
def tr_loose_17 : Tr := (.node 4 [.leaf, (.node 5 [(.node 2 [(.node 8 [(.node 9 [.leaf, .leaf]), (.node 10 [.leaf, .leaf]), .leaf]), (.node 8 [(.node 9 [.leaf, .leaf]), (.node 10 [.leaf, .leaf]), .leaf]), .leaf]), (.node 8 [.leaf, (.node 2 [(.node 10 [.leaf, .leaf]), (.node 10 [.leaf, .leaf]), .leaf]), (.node 2 [.leaf, .leaf, .leaf])])]), (.node 2 [(.node 8 [(.node 9 [.leaf, .leaf]), (.node 10 [.leaf, .leaf]), .leaf]), (.node 8 [(.node 9 [.leaf, .leaf]), (.node 10 [.leaf, .leaf]), .leaf]), .leaf])])
theorem t_loose_17 (x y : Str) (w : Nat → Str) : tr_loose_17.chk dom (lf_loose x y) (setW (setW (setW (setW (w) 0 "sure") 1 "perhaps") 6 "sure") 3 "work") = true := by kernel_rfl
def tr_loose_14 : Tr := .node 3 [tr_loose_15, tr_loose_16, tr_loose_17]
theorem t_loose_14 (x y : Str) (w : Nat → Str) : tr_loose_14.chk dom (lf_loose x y) (setW (setW (setW (w) 0 "sure") 1 "perhaps") 6 "sure") = true := by
  simp only [tr_loose_14, Tr.chk, PL.chkAll, PL.dom, t_loose_15, t_loose_16, t_loose_17, Bool.and_self]
def tr_loose_12 : Tr := .node 6 [tr_loose_13, tr_loose_14]
theorem t_loose_12 (x y : Str) (w : Nat → Str) : tr_loose_12.chk dom (lf_loose x y) (setW (setW (w) 0 "sure") 1 "perhaps") = true := by
  simp only [tr_loose_12, Tr.chk, PL.chkAll, PL.dom, t_loose_13, t_loose_14, Bool.and_self]
def tr_loose_18 : Tr := (.node 6 [(.node 4 [.leaf, (.node 5 [.leaf, (.node 8 [.leaf, .leaf, .leaf])]), .leaf]), (.node 4 [.leaf, (.node 5 [(.node 2 [(.node 8 [(.node 9 [.leaf, .leaf]), (.node 10 [.leaf, .leaf]), .leaf]), (.node 8 [(.node 9 [.leaf, .leaf]), (.node 10 [.leaf, .leaf]), .leaf]), .leaf]), (.node 8 [.leaf, (.node 2 [(.node 10 [.leaf, .leaf]), (.node 10 [.leaf, .leaf]), .leaf]), (.node 2 [.leaf, .leaf, .leaf])])]), (.node 2 [(.node 8 [(.node 9 [.leaf, .leaf]), (.node 10 [.leaf, .leaf]), .leaf]), (.node 8 [(.node 9 [.leaf, .leaf]), (.node 10 [.leaf, .leaf]), .leaf]), .leaf])])])
theorem t_loose_18 (x y : Str) (w : Nat → Str) : tr_loose_18.chk dom (lf_loose x y) (setW (setW (w) 0 "sure") 1 "sure") = true := by kernel_rfl
def tr_loose_10 : Tr := .node 1 [tr_loose_11, tr_loose_12, tr_loose_18]
theorem t_loose_10 (x y : Str) (w : Nat → Str) : tr_loose_10.chk dom (lf_loose x y) (setW (w) 0 "sure") = true := by
  simp only [tr_loose_10, Tr.chk, PL.chkAll, PL.dom, t_loose_11, t_loose_12, t_loose_18, Bool.and_self]
def tr_loose_0 : Tr := .node 0 [tr_loose_1, tr_loose_2, tr_loose_10]
theorem t_loose_0 (x y : Str) (w : Nat → Str) : tr_loose_0.chk dom (lf_loose x y) (w) = true := by
  simp only [tr_loose_0, Tr.chk, PL.chkAll, PL.dom, t_loose_1, t_loose_2, t_loose_10, Bool.and_self]
theorem loose_all (x y : Str) {w : Nat → Str} (h : Gd w) : lf_loose x y w = true := Tr.chk_of h _ (t_loose_0 x y w)
end K74

set_option Elab.async false
set_option linter.all false
set_option maxRecDepth 100000
set_option maxHeartbeats 4000000
namespace K74
open PL PySem
def mdL : Md := ⟨true, false, true, false, true, false⟩
def b2 : SV := .one [.bl true, .bl false]
def tb : List Ent := [⟨11, [.bag], [bookT], 100⟩, ⟨12, [.bag], [bookT], 100⟩, ⟨9, [.bag, .lstOf 19 19 bookT], [bookT], 100⟩, ⟨9, [.bag, .lst (w7.map fun x => .c (.str x))], [.one (w7.map .str)], 100⟩,
  ⟨9, [.bag, .lst (w11.map fun x => .c (.str x))], [.one (w11.map .str)], 100⟩, ⟨13, [bookT], [.lstOf 19 19 bookT], 100⟩, ⟨16, [bookT, b2], [.c (.bl true)], 0⟩]
theorem e_right {r f : Nat} : EntOk (W0 r f) prog cons C 5 ⟨16, [bookT, b2], [.c (.bl true)], 0⟩ := by
  intro n st ds Ph δ hPh hb hx
  obtain ⟨d, e, rfl, hd, he⟩ := gams2 hx
  obtain ⟨w, hw, rfl⟩ := gam_book hd
  unfold b2 at he
  rw [Gam] at he
  have : ∃ k, e = .bl k := by
    rcases List.mem_cons.mp he with rfl | he
    · exact ⟨_, rfl⟩
    · rw [List.mem_singleton.mp he]; exact ⟨_, rfl⟩
  obtain ⟨k, rfl⟩ := this
  refine right_spec hw k fun st' h1 h2 => ?_
  have hb' : (W0 r f).B δ st' := (W0 r f).Bkeep 0 st st' (fun r o _ e => h2 r o e) h1 hb
  exact ⟨⟨hb', h1, fun r o _ e => h2 r o e⟩, Ph, fun _ _ h => h, fun r o h => ⟨h2 r o (hPh r o h).1, (hPh r o h).2, .inl h⟩, _, List.mem_singleton.mpr rfl, by rw [Gam]⟩
theorem tb_ok {r f : Nat} : ∀ e ∈ tb, EntOk (W0 r f) prog cons C 5 e := by
  intro e he
  unfold tb at he
  simp only [List.mem_cons, List.not_mem_nil, or_false] at he
  rcases he with rfl | rfl | rfl | rfl | rfl | rfl | rfl
  · exact e_book
  · exact e_safe
  · exact e_pick
  · exact e_p7
  · exact e_p11
  · exact e_near
  · exact e_right
def cfL : Cf := ⟨prog, cons, fun _ => mdL, orK (entK tb) K0⟩
theorem KL_ok {r f : Nat} (base : Nat) (Fr Ph : Nat → Ob → Prop) : KOk ((W0 r f).re base Fr Ph) cfL C 5 := by
  refine ⟨fun f xs s h => noC_none (orK_none (orK_none h)), fun n f xs s δ g env st ds l h hx q => ?_⟩
  rcases orK_cases q with q | q
  · exact entK_ok rfl tb_ok h hx q
  · have := (K0_ok (md := fun _ => mdL) base Fr Ph).2 (4 + n) f xs s δ g env st ds l h hx q
    have e : 1 + (4 + n) = 5 + n := by omega
    rw [e] at this; exact this
abbrev F5 : Nat → List D → Sto → Res D := runC prog cons C 5
def loop1 : S := match f17.body with
  | .cons _ (.cons s _) => s
  | _ => .never
def loop2 : S := match f17.body with
  | .cons _ (.cons _ (.cons s _)) => s
  | _ => .never
def body2 : Ss := match loop2 with
  | .for_ _ _ _ b => b
  | _ => .nil
def part2 : Ss := match body2 with
  | .cons a (.cons b (.cons c (.cons d _))) => .cons a (.cons b (.cons c (.cons d .nil)))
  | _ => .nil
def last2 : S := match body2 with
  | .cons _ (.cons _ (.cons _ (.cons _ (.cons s _)))) => s
  | _ => .never
def S1 (t : Option SV) : SS := ⟨[none, some SV.bag, t, none, none, none, none], [], [], 4000000000000000000⟩
def bagAt (s : SS) : Bool := match s.env[1]? with
  | some (some SV.bag) => Nat.beq s.env.length 7
  | _ => false
def okNext (m : SX SO) : Bool := match m with
  | .ok l => l.all fun p => (match p.1 with | .next => true | _ => false) && bagAt p.2
  | .err _ => false
theorem sx1 : okNext (sxS (sxF cfL 0) cons mdL loop1 (S1 none)) = true := by kernel_rfl
def sameV (x y : SV) : Bool := match x, y with
  | .v i, .v j => Nat.beq i j
  | .c d, .c e => deq d e
  | _, _ => false
def agree (i : Nat) : List SV → List SV → Bool
  | x :: xs, y :: ys => (Nat.beq i 7 || (Nat.beq i 11 || sameV x y)) && agree (i + 1) xs ys
  | _, _ => true
def okBooks (s : SS) : Bool := match s.env[3]?, s.env[4]? with
  | some (some (SV.tup xs)), some (some (SV.tup ys)) => (le s fuelL (.tup xs) bookT && le s fuelL (.tup ys) bookT) && agree 0 xs ys
  | _, _ => false
def okPart (m : SX SO) : Bool := match m with
  | .ok l => l.all fun p => (match p.1 with | .next => true | _ => false) && (bagAt p.2 && okBooks p.2)
  | .err _ => false
theorem sx2 : okPart (sxSs (sxF cfL 0) cons mdL 0 part2 (S1 (some (.int (some 0) (some 39))))) = true := by kernel_rfl
theorem agree_ok {W : Wo} {g : Gh} : ∀ {xs ys : List SV} {ds es : List D} {i : Nat}, xs.length = ys.length → Gams W g xs ds → Gams W g ys es → agree i xs ys = true → ∀ k, i + k ≠ 7 → i + k ≠ 11 → ds[k]? = es[k]?
  | [], [], ds, es, i, _, h1, h2, _, k, _, _ => by
    have h1 : ds = [] := h1
    have h2 : es = [] := h2
    subst h1; subst h2; rfl
  | x :: xs, y :: ys, ds, es, i, hl, h1, h2, q, k, n7, n11 => by
    rw [Gams] at h1; rw [Gams] at h2
    obtain ⟨d, ds', rfl, a1, a2⟩ := h1
    obtain ⟨e, es', rfl, b1, b2⟩ := h2
    rw [agree, Bool.and_eq_true] at q
    cases k with
    | zero =>
      have q1 := q.1
      have f7 : Nat.beq i 7 = false := by cases z : Nat.beq i 7 with | false => rfl | true => exact absurd (Nat.eq_of_beq_eq_true z) (by simpa using n7)
      have f11 : Nat.beq i 11 = false := by cases z : Nat.beq i 11 with | false => rfl | true => exact absurd (Nat.eq_of_beq_eq_true z) (by simpa using n11)
      rw [f7, f11] at q1
      simp only [Bool.false_or] at q1
      unfold sameV at q1
      split at q1
      · rw [Gam] at a1; rw [Gam] at b1
        have := Nat.eq_of_beq_eq_true q1
        subst this
        rw [a1] at b1; exact (congrArg some (Option.some.inj b1))
      · rw [Gam] at a1; rw [Gam] at b1
        subst a1; subst b1; rw [deq_eq q1]; rfl
      · cases q1
    | succ k =>
      exact agree_ok (i := i + 1) (by simpa using hl) a2 b2 q.2 k (by omega) (by omega)
  | [], _ :: _, _, _, _, hl, _, _, _, _, _, _ => by cases hl
  | _ :: _, [], _, _, _, hl, _, _, _, _, _, _ => by cases hl
theorem bk_get {w : Nat → Str} {ds : List D} (h : D.tup ds = bk w) {i : Nat} (hi : i < 12) : ds[i]? = some (.str (w i)) := by
  unfold bk at h
  injection h with h
  subst h
  match i, hi with
  | 0, _ => rfl | 1, _ => rfl | 2, _ => rfl | 3, _ => rfl | 4, _ => rfl | 5, _ => rfl | 6, _ => rfl | 7, _ => rfl | 8, _ => rfl | 9, _ => rfl | 10, _ => rfl | 11, _ => rfl
theorem alone_same {w v : Nat → Str} (hw : Gd w) (hv : Gd v) (h : ∀ i, i < 12 → i ≠ 7 → i ≠ 11 → w i = v i) : ∃ b, b ≤ 5 ∧ (∃ s, PL.run prog cons 8 3 [bk w] [] = .ok (dOf b) s) ∧ ∃ s, PL.run prog cons 8 3 [bk v] [] = .ok (dOf b) s := by
  obtain ⟨a, b, hp, _, _, h3, _⟩ := pair_of hw
  obtain ⟨a', b', hp', _, _, h3', _⟩ := pair_of hv
  have hb : b ≤ 5 := by unfold okP at hp; split at hp <;> first | omega | cases hp
  have hb' : b' ≤ 5 := by unfold okP at hp'; split at hp' <;> first | omega | cases hp'
  have e : bk v = bk (setW (setW w 7 (v 7)) 11 (v 11)) := by
    unfold bk
    have o : ∀ i, i < 12 → v i = setW (setW w 7 (v 7)) 11 (v 11) i := by
      intro i hi
      unfold setW
      by_cases h11 : i = 11
      · subst h11; simp
      · by_cases h7 : i = 7
        · subst h7; simp
        · simp only [h11, h7, if_false]; exact (h i hi h7 h11).symm
    rw [← o 0 (by decide), ← o 1 (by decide), ← o 2 (by decide), ← o 3 (by decide), ← o 4 (by decide), ← o 5 (by decide), ← o 6 (by decide), ← o 7 (by decide), ← o 8 (by decide), ← o 9 (by decide), ← o 10 (by decide), ← o 11 (by decide)]
  have t : Nat.beq (cod (PL.run prog cons 8 3 [bk w] [])) (cod (PL.run prog cons 8 3 [bk (setW (setW w 7 (v 7)) 11 (v 11))] [])) = true := loose_all (v 7) (v 11) hw
  rw [← e] at t
  have t := Nat.eq_of_beq_eq_true t
  have cd : ∀ {b : Nat} {r : Res D}, b ≤ 5 → (∃ s, r = .ok (dOf b) s) → cod r = b := by
    intro b r hb ⟨s, hs⟩
    rw [hs]
    match b, hb with
    | 0, _ => rfl | 1, _ => rfl | 2, _ => rfl | 3, _ => rfl | 4, _ => rfl | 5, _ => rfl
    | n + 6, h => omega
  rw [cd hb h3, cd hb' h3'] at t
  subst t
  exact ⟨b, hb, h3, h3'⟩
theorem repr_dOf {b : Nat} (hb : b ≤ 5) {st : Sto} : ∃ p, bltD .repr [dOf b] st = .ok (.rep p) st ∧ same p p = true := by
  match b, hb with
  | 0, _ => exact ⟨.none, rfl, rfl⟩
  | 1, _ => exact ⟨.int 1, rfl, rfl⟩
  | 2, _ => exact ⟨.int 2, rfl, rfl⟩
  | 3, _ => exact ⟨.int 3, rfl, rfl⟩
  | 4, _ => exact ⟨.int 4, rfl, rfl⟩
  | 5, _ => exact ⟨.int 5, rfl, rfl⟩
  | n + 6, h => omega
end K74

set_option Elab.async false
set_option linter.all false
set_option maxRecDepth 100000
set_option maxHeartbeats 4000000
namespace K74
open PL PySem
def noP : Nat → Ob → Prop := fun _ _ => False
abbrev WL (r f : Nat) : Wo := (W0 r f).re 0 noP noP
section
variable {r f T : Nat}
theorem startR {t : Option SV} {env : PL.Env} {st : Sto} (hb : Bag r f T st) (hl : env.length = 7) (h1 : env[1]? = some (some (.ref r))) (h2 : ∀ x, t = some x → ∃ d, env[2]? = some (some d) ∧ Gam (WL r f) (g00 noP) x d) : Rel2 (WL r f) 0 (S1 t) (g00 noP) env st := by
  refine ⟨⟨rfl, ?_, List.nodup_nil, ?_, ?_, ?_, rfl, ?_, hb, Nat.zero_le _⟩, hl.symm, ?_⟩
  · intro k o r' h; simp [S1] at h
  · intro k r' h; simp [g00] at h
  · intro r' o h; exact h.elim
  · intro r' o h; exact h.elim
  · intro i d x h; simp [g00] at h
  · intro i x h
    match i, h with
    | 0, h => cases h
    | 1, h => cases h; exact ⟨_, h1, by rw [Gam]; rfl⟩
    | 2, h => exact h2 x (Option.some.inj h)
    | 3, h => cases h
    | 4, h => cases h
    | 5, h => cases h
    | 6, h => cases h
    | n + 7, h => cases h
theorem bag_back {s : SS} {g : Gh} {env : PL.Env} {st : Sto} (h : Rel2 (WL r f) 0 s g env st) (hb : bagAt s = true) : env.length = 7 ∧ env[1]? = some (some (.ref r)) ∧ Bag r f 0 st := by
  unfold bagAt at hb
  split at hb
  · rename_i e
    refine ⟨by rw [← h.e.1]; exact Nat.eq_of_beq_eq_true hb, ?_, h.h.bag⟩
    obtain ⟨d, a, b⟩ := h.e.2 1 _ e
    rw [Gam] at b
    rw [a, b]; rfl
  · cases hb
theorem okNext_ok {m : SX SO} (h : okNext m = true) : ∃ l, m = .ok l ∧ ∀ p ∈ l, p.1 = .next ∧ bagAt p.2 = true := by
  unfold okNext at h
  split at h
  · rename_i l
    refine ⟨l, rfl, fun p hp => ?_⟩
    rw [List.all_eq_true] at h
    have := h p hp
    rw [Bool.and_eq_true] at this
    refine ⟨?_, this.2⟩
    have a := this.1
    split at a
    · rename_i e; exact e
    · cases a
  · cases h
theorem okPart_ok {m : SX SO} (h : okPart m = true) : ∃ l, m = .ok l ∧ ∀ p ∈ l, p.1 = .next ∧ bagAt p.2 = true ∧ okBooks p.2 = true := by
  unfold okPart at h
  split at h
  · rename_i l
    refine ⟨l, rfl, fun p hp => ?_⟩
    rw [List.all_eq_true] at h
    have := h p hp
    rw [Bool.and_eq_true, Bool.and_eq_true] at this
    refine ⟨?_, this.2⟩
    have a := this.1
    split at a
    · rename_i e; exact e
    · cases a
  · cases h
theorem books_back {s : SS} {g : Gh} {env : PL.Env} {st : Sto} (h : Rel2 (WL r f) 0 s g env st) (hb : okBooks s = true) : ∃ w v, Gd w ∧ Gd v ∧ env[3]? = some (some (bk w)) ∧ env[4]? = some (some (bk v)) ∧ ∀ i, i < 12 → i ≠ 7 → i ≠ 11 → w i = v i := by
  unfold okBooks at hb
  split at hb
  · rename_i xs ys e3 e4
    rw [Bool.and_eq_true, Bool.and_eq_true] at hb
    obtain ⟨⟨q1, q2⟩, q3⟩ := hb
    obtain ⟨d, a, b⟩ := h.e.2 3 _ e3
    obtain ⟨d', a', b'⟩ := h.e.2 4 _ e4
    obtain ⟨w, hw, ew⟩ := gam_book (le_ok h.h _ _ _ q1 b)
    obtain ⟨v, hv, ev⟩ := gam_book (le_ok h.h _ _ _ q2 b')
    refine ⟨w, v, hw, hv, by rw [a, ew], by rw [a', ev], fun i hi n7 n11 => ?_⟩
    rw [Gam] at b b'
    obtain ⟨ds, rfl, b⟩ := b
    obtain ⟨es, rfl, b'⟩ := b'
    have l1 : ds.length = 12 := by unfold bk at ew; injection ew with ew; rw [ew]; rfl
    have l2 : es.length = 12 := by unfold bk at ev; injection ev with ev; rw [ev]; rfl
    have := agree_ok (i := 0) (by rw [b.length, b'.length, l1, l2]) b b' q3 i (by omega) (by omega)
    rw [bk_get ew hi, bk_get ev hi] at this
    injection this with this
    injection this
  · cases hb
end
def snoc : Ss → S → Ss
  | .nil, s => .cons s .nil
  | .cons a r, s => .cons a (snoc r s)
theorem W_snoc {F : Nat → List D → Sto → Res D} {G : List D} {PO' : Out → Sto → Prop} {s : S} : ∀ (ss : Ss) {env : PL.Env} {st : Sto}, Wd (exs F G ss env st) (Then (fun e s1 => Wd (exs F G (.cons s .nil) e s1) PO') PO') → Wd (exs F G (snoc ss s) env st) PO'
  | .nil, env, st, h => W_snil.mp h
  | .cons a r, env, st, h => by
    rw [snoc]
    refine W_scons.mpr ((W_scons.mp h).mono fun o st1 h => ?_)
    cases o with
    | next e => exact W_snoc r h
    | brk e => exact h
    | cnt e => exact h
    | ret d => exact h
theorem body2_eq : body2 = snoc part2 last2 := rfl
theorem len7 {l : PL.Env} (h : l.length = 7) : ∃ a b c d e f g, l = [a, b, c, d, e, f, g] := by
  match l, h with
  | [a, b, c, d, e, f, g], _ => exact ⟨_, _, _, _, _, _, _, rfl⟩
theorem T_bl {st : Sto} {b : Bool} : truth st (.bl b) = some b := rfl
theorem last_ok {a0 a1 a2 a5 a6 : Option D} {w v : Nat → Str} (hw : Gd w) (hv : Gd v) (hs : ∀ i, i < 12 → i ≠ 7 → i ≠ 11 → w i = v i) {st : Sto} {PO' : Out → Sto → Prop} (k : ∀ st' : Sto, st.length ≤ st'.length → (∀ (r : Nat) (o : Ob), st[r]? = some o → st'[r]? = some o) → PO' (.next [a0, a1, a2, some (bk w), some (bk v), a5, a6]) st') : Wd (exs F5 cons (.cons last2 .nil) [a0, a1, a2, some (bk w), some (bk v), a5, a6] st) PO' := by
  obtain ⟨b, hb, ⟨s1, h3⟩, ⟨s2, h4⟩⟩ := alone_same hw hv hs
  show Wd (exs F5 cons (.cons (.ite (.or2 (.not (.val (.call 16 (.cons (.var 3) (.cons (.cB false) .nil))))) (.or1 (.vc .ne (.blt .repr (.cons (.call 3 (.cons (.var 4) .nil)) .nil)) (.blt .repr (.cons (.call 3 (.cons (.var 3) .nil)) .nil))))) (.cons (.ret (.cB false)) .nil) .nil) .nil) _ _) _
  simp only [W_var, W_cI, W_cB, W_cS, W_cN, W_gcon, W_bin, W_neg, W_notE, W_and1, W_or1, W_and2, W_or2, W_cmp, W_ife, W_tup, W_lst, W_dic, W_call, W_callK, W_blt, W_meth, W_idx, W_sl, W_rev, W_nil, W_cons, W_val, W_vc, W_not, W_tand1, W_tor1, W_tand2, W_tor2, W_yes, W_name, W_tgt, W_tgsub, W_tgnil, W_tgcons, W_asg, W_par, W_exp, W_ret, W_if, W_snil, W_scons, Then_next, Then_ret, Back_ret, Back_next, Wd_ok, Wd_bad, List.map_cons, List.map_nil, List.replicate_succ, List.replicate_zero, List.cons_append, List.nil_append, List.getElem?_cons_zero, List.getElem?_cons_succ, List.set_cons_zero, List.set_cons_succ, Option.some.injEq, exists_eq_left', List.length_cons, List.length_nil, setAll]
  refine right_spec (n := 0) hw false fun st' h1 h2 => ⟨_, T_bl, ?_⟩
  rw [if_neg (by decide)]
  refine W_pure (f := 3) rfl h4 rfl ground_dOf ?_
  obtain ⟨p, e1, e2⟩ := repr_dOf hb (st := st')
  rw [e1]
  show Wd (runC _ _ _ _ _ _ _) _
  refine W_pure (f := 3) rfl h3 rfl ground_dOf ?_
  rw [e1]
  refine ⟨_, (C_rep e2).2, ?_⟩
  rw [if_neg (by decide)]
  exact k st' h1 h2
theorem law_run (ns : List Int) (hn : ns.length ≤ 63) : ∃ st, runC prog cons C 6 17 [scriptD ns] [] = .ok (.bl true) st := by
  have main : Wd (RC 6 17 [scriptD ns] []) (fun d _ => d = .bl true) := by
    refine W_def (n := 5) (fn := f17) rfl rfl rfl ?_
    show Wd (exs F5 cons (.cons (.asg (.name 1) (.call 7 (.cons (.var 0) .nil))) (.cons loop1 (.cons loop2 (.cons (.ret (.cB true)) .nil)))) [some (scriptD ns), none, none, none, none, none, none] []) _
    have s1 : Wd (ex F5 cons (.asg (.name 1) (.call 7 (.cons (.var 0) .nil))) [some (scriptD ns), none, none, none, none, none, none] []) (fun o st => ∃ r f, o = .next [some (scriptD ns), some (.ref r), none, none, none, none, none] ∧ Bag r f 1000000 st) := by
      simp only [W_var, W_cI, W_cB, W_cS, W_cN, W_gcon, W_bin, W_neg, W_notE, W_and1, W_or1, W_and2, W_or2, W_cmp, W_ife, W_tup, W_lst, W_dic, W_call, W_callK, W_blt, W_meth, W_idx, W_sl, W_rev, W_nil, W_cons, W_val, W_vc, W_not, W_tand1, W_tor1, W_tand2, W_tor2, W_yes, W_name, W_tgt, W_tgsub, W_tgnil, W_tgcons, W_asg, W_par, W_exp, W_ret, W_if, W_snil, W_scons, Then_next, Then_ret, Back_ret, Back_next, Wd_ok, Wd_bad, List.map_cons, List.map_nil, List.replicate_succ, List.replicate_zero, List.cons_append, List.nil_append, List.getElem?_cons_zero, List.getElem?_cons_succ, List.set_cons_zero, List.set_cons_succ, Option.some.injEq, exists_eq_left', List.length_cons, List.length_nil, setAll]
      exact bag_spec (n := 4) hn fun r f st' hb => ⟨r, f, rfl, hb⟩
    refine W_scons.mpr (s1.mono ?_)
    rintro o st1 ⟨r, f, rfl, hb⟩
    rw [Then_next]
    obtain ⟨l, hq, hl⟩ := okNext_ok sx1
    have x1 : Wd (ex F5 cons loop1 [some (scriptD ns), some (.ref r), none, none, none, none, none] st1) (PostS (WL r f) 0 l (g00 noP)) := xS (xF (KL_ok 0 noP noP) 0) loop1 (startR hb rfl rfl (fun x h => by cases h)) hq
    refine W_scons.mpr (x1.mono ?_)
    rintro o st2 ⟨p, hp, g', hg', ho⟩
    obtain ⟨pn, pb⟩ := hl p hp
    rw [pn] at ho
    cases o with
    | brk e => exact ho.elim
    | cnt e => exact ho.elim
    | ret d => exact ho.elim
    | next env =>
      rw [Then_next]
      obtain ⟨hl7, h1, hb⟩ := bag_back ho pb
      have s2 : Wd (ex F5 cons loop2 env st2) (fun o st => ∃ e, o = .next e) := by
        show Wd (ex F5 cons (.for_ (.name 2) .range1 (.cons (.cI 40) .nil) body2) env st2) _
        refine W_for.mpr ?_
        simp only [W_var, W_cI, W_cB, W_cS, W_cN, W_gcon, W_bin, W_neg, W_notE, W_and1, W_or1, W_and2, W_or2, W_cmp, W_ife, W_tup, W_lst, W_dic, W_call, W_callK, W_blt, W_meth, W_idx, W_sl, W_rev, W_nil, W_cons, W_val, W_vc, W_not, W_tand1, W_tor1, W_tand2, W_tor2, W_yes, W_name, W_tgt, W_tgsub, W_tgnil, W_tgcons, W_asg, W_par, W_exp, W_ret, W_if, W_snil, W_scons, Then_next, Then_ret, Back_ret, Back_next, Wd_ok, Wd_bad, List.map_cons, List.map_nil, List.replicate_succ, List.replicate_zero, List.cons_append, List.nil_append, List.getElem?_cons_zero, List.getElem?_cons_succ, List.set_cons_zero, List.set_cons_succ, Option.some.injEq, exists_eq_left', List.length_cons, List.length_nil, setAll]
        refine ⟨.fix (rangeD 0 1 40), rfl, ?_⟩
        refine W_for_fix (fun i env st' => env.length = 7 ∧ env[1]? = some (some (.ref r)) ∧ Bag r f 0 st') ⟨hl7, h1, hb⟩ ?_ ?_
        · rintro i d env st2 hd ⟨hl7, h1, hb⟩
          obtain ⟨hi, rfl⟩ : i < 40 ∧ d = .int (0 + (i : Int) * 1) := by
            rcases range_get hd with ⟨_, z⟩ | ⟨hi, z⟩
            · cases z
            · cases z; exact ⟨hi, rfl⟩
          generalize ht : (0 + (i : Int) * 1) = t
          have ht : 0 ≤ t ∧ t ≤ 39 := by omega
          simp only [Wd_bind, W_name]
          rw [body2_eq]
          refine W_snoc part2 ?_
          obtain ⟨l2, hq2, hl2⟩ := okPart_ok sx2
          have x2 : Wd (exs F5 cons part2 (env.set 2 (some (.int t))) st2) (PostS (WL r f) 0 l2 (g00 noP)) := xSs (xF (KL_ok 0 noP noP) 0) 0 part2 (startR hb (by rw [List.length_set]; exact hl7) (by rw [List.getElem?_set_ne (by decide)]; exact h1) (fun x h => by
            cases h
            refine ⟨.int t, by rw [List.getElem?_set_self (by omega)], ?_⟩
            rw [Gam]
            exact ⟨t, rfl, fun l e => by cases e; exact ht.1, fun h e => by cases e; exact ht.2⟩)) hq2
          refine x2.mono ?_
          rintro o st3 ⟨p, hp, g', hg', ho⟩
          obtain ⟨pn, pb, pc⟩ := hl2 p hp
          rw [pn] at ho
          cases o with
          | brk e => exact ho.elim
          | cnt e => exact ho.elim
          | ret d => exact ho.elim
          | next env2 =>
            rw [Then_next]
            obtain ⟨hl8, h2, hb2⟩ := bag_back ho pb
            obtain ⟨w, v, hw, hv, h3, h4, hs⟩ := books_back ho pc
            obtain ⟨a, b, c, d, e, f', g, rfl⟩ := len7 hl8
            cases h2; cases h3; cases h4
            refine last_ok hw hv hs fun st' m1 m2 => ?_
            exact ⟨rfl, rfl, (W0 r f).Bkeep 0 st3 st' (fun j o _ e => m2 j o e) m1 hb2⟩
        · rintro env st2 _; exact ⟨_, rfl⟩
      refine W_scons.mpr (s2.mono ?_)
      rintro o st3 ⟨e, rfl⟩
      rw [Then_next]
      simp only [W_var, W_cI, W_cB, W_cS, W_cN, W_gcon, W_bin, W_neg, W_notE, W_and1, W_or1, W_and2, W_or2, W_cmp, W_ife, W_tup, W_lst, W_dic, W_call, W_callK, W_blt, W_meth, W_idx, W_sl, W_rev, W_nil, W_cons, W_val, W_vc, W_not, W_tand1, W_tor1, W_tand2, W_tor2, W_yes, W_name, W_tgt, W_tgsub, W_tgnil, W_tgcons, W_asg, W_par, W_exp, W_ret, W_if, W_snil, W_scons, Then_next, Then_ret, Back_ret, Back_next, Wd_ok, Wd_bad, List.map_cons, List.map_nil, List.replicate_succ, List.replicate_zero, List.cons_append, List.nil_append, List.getElem?_cons_zero, List.getElem?_cons_succ, List.set_cons_zero, List.set_cons_succ, Option.some.injEq, exists_eq_left', List.length_cons, List.length_nil, setAll]
  obtain ⟨a, st, h1, h2⟩ := Wd_ok_of main
  exact ⟨st, by rw [← h2]; exact h1⟩
theorem pures_ok (i : Nat) (c : List D → Sto → Res D) (h : C i = some c) : Pure (PL.run prog cons 8 i) c := by
  unfold C at h
  split at h
  · cases h; exact pureC_pure _
  · cases h
end K74

open PySem PySem.W PySem.Calls PyProof.Rows
theorem PySem.Challenge.cw_keptmarks_k74_whole_safe_is_safe_alone_holds : PySem.Challenge.rw_keptmarks_k74_whole_safe_is_safe_alone.Holds := by
  w_on; o_law
  refine HandSHeadRun.head_any (r := OpenLaw.row PySem.Challenge.rw_keptmarks_k74_whole_safe_is_safe_alone) (q := view (OpenLaw.row PySem.Challenge.rw_keptmarks_k74_whole_safe_is_safe_alone).prog [21]) (H := K74.hk) (ob := K74.ob) (M := 1280) (loose := K74.loose) (d := HandSHeadRun.topDef (OpenLaw.row PySem.Challenge.rw_keptmarks_k74_whole_safe_is_safe_alone).prog 21) (kwd := []) K74.ob_eq
    (by kernel_rfl) (fun s => by kernel_rfl) K74.run_top (by kernel_rfl) (by kernel_rfl) (by kernel_rfl) (by rfl) (by first | assumption | decide +kernel) (by decide +kernel) ⟨rfl, rfl, rfl, rfl, rfl, by decide +kernel⟩ ?hw ?hc
  case hw => w_witness2
  case hc =>
    refine PL.walk_PLC (l := PySem.Challenge.rw_keptmarks_k74_whole_safe_is_safe_alone) (n := 63) (k := 6) (kc := 8) (x := "script") (B := K74.tab) (Pf := K74.prog) (G := K74.cons) (C := K74.C) (i := 17) rfl (by decide) (by kernel_rfl) ⟨rfl, by decide, by decide⟩ (by kernel_rfl) ?F K74.pures_ok K74.law_run
    intro w mg h Y G
    obtain ⟨K, KX, c⟩ := Y
    exact ⟨K, KX, K74.mods KX G c⟩
