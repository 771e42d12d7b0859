import PyProof.Rows.All
import Wide.All
import OpenK.AllK
import Wide.FinOn
import HandS.ForMost
import HandS.IsInst
import HandS.Deep
import HandS.Flow
import HandS.Style
import HandS.TupAny
import HandS.Zip
import HandS.Walk
import HandS.EndBits
import HandS.Defaults
import HandS.More
import KE.GoesNew
import KE.GoesMore
import PyProof.EqKinds
import PyProof.P3In
import PyProof.NeKinds
import HandS.TupMul
import PyProof.Rows.SortShellAny
import HandS.Strs
import HandS.SetFor
import HandS.TupSets
import KE.KSortTup
import KE.KDictZip
import HandS.NoneIn
import HandS.Text
import HandS.Star
import KE.KIndexWalk
import HandS.Head0
import HandS.Head1
import HandS.Head2
import HandS.HeadEnd
import HandS.HeadHook1
import HandS.HeadHook2
import HandS.HeadHook3
import PySem.Challenge.RW_keptmarks_k13_whole_neighbours_of_books
set_option Elab.async false
set_option linter.all false
set_option maxRecDepth 100000
/-! PLA: a small pure language: data, a store of mutable objects, expressions and statements without places, and what they come to. -/
namespace PL
open PySem L2

/-- data: immutable ones whole, mutable ones by their number in the store; rep d is the text repr(d); scr a list that nobody changes -/
inductive D where
  | non | bl (b : Bool) | int (i : Int) | str (x : Str) | tup (xs : List D) | ref (n : Nat) | rep (d : PyData) | scr (xs : List D) | ent (ts : List Str)
  deriving Inhabited
/-- a mutable object -/
inductive Ob where
  | lst (xs : List D) | dct (kvs : List (Key × D))
  deriving Inhabited
abbrev Sto := List Ob
abbrev Env := List (Option D)

inductive Res (α : Type) where
  | ok (a : α) (st : Sto)
  | exc (c : Nat) (xs : List D) (st : Sto)
  | bad
def Res.bind {α β : Type} (r : Res α) (k : α → Sto → Res β) : Res β := match r with
  | .ok a st => k a st
  | .exc c xs st => .exc c xs st
  | .bad => .bad
@[simp] theorem Res.bind_ok {α β : Type} {a : α} {st : Sto} {k : α → Sto → Res β} : (Res.ok a st).bind k = k a st := rfl
@[simp] theorem Res.bind_exc {α β : Type} {c : Nat} {xs : List D} {st : Sto} {k : α → Sto → Res β} : (Res.exc c xs st : Res α).bind k = .exc c xs st := rfl
@[simp] theorem Res.bind_bad {α β : Type} {k : α → Sto → Res β} : (Res.bad : Res α).bind k = .bad := rfl
/-- a value of the store as it is, or bad -/
def liftO {α : Type} (o : Option α) (st : Sto) : Res α := match o with
  | some a => .ok a st
  | none => .bad
@[simp] theorem liftO_some {α : Type} {a : α} {st : Sto} : liftO (some a) st = .ok a st := rfl
@[simp] theorem liftO_none {α : Type} {st : Sto} : liftO (none : Option α) st = .bad := rfl

/-! ### the syntax -/
inductive Bop where | add | sub | mul | fdiv | md | pow
  deriving DecidableEq
inductive Cop where | eq | ne | lt | le | gt | ge | isn | isnn | isin | notin
  deriving DecidableEq
inductive Ty where | int | bool | str | tup | lst | dct
  deriving DecidableEq
inductive Blt where | len | abs | int | tuple | list | min2 | max2 | repr | strI | isi (t : Ty) | dictP | srt
  deriving DecidableEq
inductive Mt where | append | pop0 | popAt | insert | extend
  deriving DecidableEq
inductive Tm where | join | split | upper
  deriving DecidableEq
inductive ItK where | plain | range1 | range2 | range3 | enum | zip
  deriving DecidableEq

mutual
inductive E where
  | var (i : Nat)
  | cI (i : Int) | cB (b : Bool) | cS (x : Str) | cN
  | gcon (i : Nat)
  | gkd (i : Nat) (e : E)
  | ixl (ys : List Str) (e : E)
  | ent (ts : List Str)
  | ixm (o e : E)
  | stup (fs : List Bool) (es : Es)
  | bin (op : Bop) (a b : E)
  | neg (a : E)
  | notE (a : E)
  | and1 (a : E) | and2 (a r : E) | or1 (a : E) | or2 (a r : E)
  | cmp (op : Cop) (a b : E)
  | cmp2 (op op' : Cop) (a b c : E)
  | ife (c : T) (a b : E)
  | tup (es : Es)
  | lst (es : Es)
  | dic (ks : List Key) (es : Es)
  | call (f : Nat) (es : Es)
  | callK (f : Nat) (es ks : Es) (g : List Nat)
  | blt (b : Blt) (es : Es)
  | meth (m : Mt) (o : E) (es : Es)
  | smeth (m : Tm) (o : E) (es : Es)
  | idx (a b : E)
  | sl (a lo hi : E)
  | rev (a : E)
  | lc (own : List Nat) (elt : E) (t : Tg) (k : ItK) (es : Es) (c : T)
inductive Es where
  | nil | cons (e : E) (es : Es)
inductive T where
  | val (e : E) | vc (op : Cop) (a b : E) | vc2 (op op' : Cop) (a b c : E) | not (t : T) | and1 (a : T) | and2 (a r : T) | or1 (a : T) | or2 (a r : T) | yes
inductive Tg where
  | name (i : Nat) | tup (ts : Tgs) | sub (o i : E)
inductive Tgs where
  | nil | cons (t : Tg) (ts : Tgs)
end
mutual
inductive S where
  | asg (t : Tg) (e : E)
  | asgC (i : Nat) (own : List Nat) (elt : E) (t : Tg) (k : ItK) (es : Es) (c : T)
  | par (is : List Nat) (es : Es)
  | exp (e : E)
  | ret (e : E)
  | retN
  | ite (c : T) (a b : Ss)
  | for_ (t : Tg) (k : ItK) (es : Es) (body : Ss)
  | whl (c : T) (body : Ss)
  | brk | cnt | pass
  | never
inductive Ss where
  | nil | cons (s : S) (ss : Ss)
end
structure Fn where
  np : Nat
  ns : Nat
  body : Ss

/-! ### what operations on data come to -/
def optMap {α β : Type} (f : α → Option β) : List α → Option (List β)
  | [] => some []
  | a :: l => match f a with
    | none => none
    | some b => match optMap f l with
      | none => none
      | some r => some (b :: r)
/-- data as the library's data; mutable objects are looked up -/
def toPy (st : Sto) : Nat → D → Option PyData
  | _, .non => some .none
  | _, .bl b => some (.bool b)
  | _, .int i => some (.int i)
  | _, .str x => some (.str x)
  | n + 1, .tup xs => (optMap (toPy st n) xs).map .tuple
  | n + 1, .scr xs => (optMap (toPy st n) xs).map .list
  | _ + 1, .ent ts => some (.tuple (ts.map .str))
  | n + 1, .ref r => match st[r]? with
    | some (.lst xs) => (optMap (toPy st n) xs).map .list
    | _ => none
  | _, _ => none
mutual
def same : PyData → PyData → Bool
  | .none, .none => true
  | .bool a, .bool b => a == b
  | .int a, .int b => decide (a = b)
  | .str a, .str b => decide (a = b)
  | .list a, .list b => sameAll a b
  | .tuple a, .tuple b => sameAll a b
  | .dict a, .dict b => sameKv a b
  | _, _ => false
def sameAll : List PyData → List PyData → Bool
  | [], [] => true
  | a :: l, b :: r => same a b && sameAll l r
  | _, _ => false
def sameKv : List (PyData × PyData) → List (PyData × PyData) → Bool
  | [], [] => true
  | (a, a') :: l, (b, b') :: r => (same a b && same a' b') && sameKv l r
  | _, _ => false
end
/-- an upper bound of the length of repr -/
def showCost : PyData → Nat
  | .none => 4
  | .bool _ => 5
  | .int i => i.natAbs.log2 + 2
  | .str x => 10 * x.length + 2
  | .list xs => costAll xs + 2
  | .tuple xs => costAll xs + 3
  | .dict kvs => costKv kvs + 2
where
  costAll : List PyData → Nat
  | [] => 0
  | x :: xs => showCost x + 2 + costAll xs
  costKv : List (PyData × PyData) → Nat
  | [] => 0
  | (k, v) :: r => showCost k + showCost v + 4 + costKv r
mutual
/-- what repr can tell -/
def layD : PyData → Bool
  | .none => true
  | .bool _ => true
  | .int _ => true
  | .str x => PyData.canLay0 (.str x)
  | .list xs => layDs xs
  | .tuple xs => layDs xs
  | .dict kvs => layKv kvs
def layDs : List PyData → Bool
  | [] => true
  | x :: xs => layD x && layDs xs
def layKv : List (PyData × PyData) → Bool
  | [] => true
  | (k, v) :: r => (layD k && layD v) && layKv r
end
def keyPy : Key → PyData
  | .inl i => .int i
  | .inr x => .str x
/-- as toPy; dicts too -/
def toPyR (st : Sto) : Nat → D → Option PyData
  | _, .non => some .none
  | _, .bl b => some (.bool b)
  | _, .int i => some (.int i)
  | _, .str x => some (.str x)
  | n + 1, .tup xs => (optMap (toPyR st n) xs).map .tuple
  | n + 1, .scr xs => (optMap (toPyR st n) xs).map .list
  | _ + 1, .ent ts => some (.tuple (ts.map .str))
  | n + 1, .ref r => match st[r]? with
    | some (.lst xs) => (optMap (toPyR st n) xs).map .list
    | some (.dct kvs) => (optMap (toPyR st n) (kvs.map (·.2))).map fun ps => .dict ((kvs.map fun kv => keyPy kv.1).zip ps)
    | none => none
  | _, _ => none
/-- a text, a dict -/
def dctEq (st : Sto) (a b : D) : Bool := match a, b with
  | .str _, .ref r => (match st[r]? with
    | some (.dct _) => true
    | _ => false)
  | _, _ => false
/-- a list, an empty list -/
def nilEq (st : Sto) (a b : D) : Option Bool := match a, b with
  | .ref p, .ref q => (match st[p]?, st[q]? with
    | some (.lst xs), some (.lst []) => some xs.isEmpty
    | _, _ => none)
  | _, _ => none
/-- what == comes to: of texts repr(..) it is told where both are the same -/
def eqD (st : Sto) (a b : D) : Option Bool := match a, b with
  | .rep d, .rep e => if same d e then some true else none
  | .rep d, .str x => some (decide (d.shown = x))
  | .str x, .rep d => some (decide (x = d.shown))
  | .int i, .int j => some (decide (i = j))
  | .str x, .str y => some (decide (x = y))
  | .non, .non => some true
  | .non, .int _ => some false
  | .int _, .non => some false
  | .non, .str _ => some false
  | .str _, .non => some false
  | .bl x, .bl y => some (x == y)
  | a, b => if dctEq st a b then some false else match nilEq st a b with
    | some r => some r
    | none => match toPy st 60 a, toPy st 60 b with
      | some x, some y => if x.canLay0 && y.canLay0 then some (PyData.eqv x y) else none
      | _, _ => none
def itemsD (d : D) (st : Sto) : Option (List D) := match d with
  | .tup xs => some xs
  | .scr xs => some xs
  | .ref r => match st[r]? with
    | some (.lst xs) => some xs
    | _ => none
  | _ => none
def strsD : List D → Option (List Str)
  | [] => some []
  | .str x :: r => (strsD r).map (x :: ·)
  | _ :: _ => none
/-- a dict in texts -/
def dctIn (st : Sto) (a b : D) : Bool := match a with
  | .ref r => (match st[r]? with
    | some (.dct _) => (match itemsD b st with
      | some xs => (strsD xs).isSome
      | none => false)
    | _ => false)
  | _ => false
def inD (st : Sto) (a b : D) : Option Bool := if dctIn st a b then some false else match toPy st 60 a, toPy st 60 b with
  | some x, some (.list ys) => if x.canLay0 && PyData.canLayAll0 ys then some (ys.any fun y => PyData.eqv y x) else none
  | some x, some (.tuple ys) => if x.canLay0 && PyData.canLayAll0 ys then some (ys.any fun y => PyData.eqv y x) else none
  | _, _ => none
def truth (st : Sto) : D → Option Bool
  | .non => some false
  | .bl b => some b
  | .int i => some (i != 0)
  | .str x => if x.length ≤ sizeLine then some ((x.length : Int) != 0) else none
  | .tup xs => some (!xs.isEmpty)
  | .scr xs => some (!xs.isEmpty)
  | .ref r => match st[r]? with
    | some (.lst xs) => some (!xs.isEmpty)
    | some (.dct kvs) => some (!kvs.isEmpty)
    | none => none
  | .rep _ => none
  | .ent _ => none
def small64 (i : Int) : Bool := decide (-(2 ^ 64) < i) && decide (i < 2 ^ 64)
def binD (op : Bop) (a b : D) (st : Sto) : Res D := match op, a, b with
  | .add, .int i, .int j => .ok (.int (i + j)) st
  | .sub, .int i, .int j => .ok (.int (i - j)) st
  | .mul, .int i, .int j => if small64 i || small64 j then .ok (.int (i * j)) st else .bad
  | .fdiv, .int i, .int j => if decide (0 < j) && decide (j < 1073741824) then .ok (.int (i / j)) st else .bad
  | .md, .int i, .int j => if decide (0 < j) then .ok (.int (i % j)) st else .bad
  | .pow, .int i, .int j => if decide (0 ≤ j) && (decide (j ≤ 1000000) && decide (i.natAbs < 2 ^ 64)) then .ok (.int (i ^ j.toNat)) st else .bad
  | .add, .str x, .str y => if x.length + y.length ≤ sizeLine then .ok (.str (x ++ y)) st else .bad
  | .add, .tup xs, .tup ys => if xs.length + ys.length ≤ sizeLine then .ok (.tup (xs ++ ys)) st else .bad
  | .add, .ref m, .ref n => match st[m]?, st[n]? with
    | some (.lst xs), some (.lst ys) => if xs.length + ys.length ≤ sizeLine then .ok (.ref st.length) (st ++ [.lst (xs ++ ys)]) else .bad
    | _, _ => .bad
  | .mul, .tup xs, .int k => if !xs.isEmpty && (decide (xs.length ≤ 1000) && (decide (1 ≤ k) && decide (k ≤ 1000))) then .ok (.tup (List.replicate k.toNat xs).flatten) st else .bad
  | .mul, .ref m, .int k => match st[m]? with
    | some (.lst xs) => if decide (-(2 ^ 63) ≤ k) && (decide (k < 2 ^ 63) && decide (xs.length * k.toNat ≤ sizeLine)) then .ok (.ref st.length) (st ++ [.lst (List.replicate k.toNat xs).flatten]) else .bad
    | _ => .bad
  | _, _, _ => .bad
def cmpD (op : Cop) (a b : D) (st : Sto) : Option Bool := match op, a, b with
  | .eq, a, b => eqD st a b
  | .ne, a, b => (eqD st a b).map (!·)
  | .lt, .int i, .int j => some (decide (i < j))
  | .le, .int i, .int j => some (decide (i ≤ j))
  | .gt, .int i, .int j => some (decide (j < i))
  | .ge, .int i, .int j => some (decide (j ≤ i))
  | .isn, .non, .non => some true
  | .isn, _, .non => some false
  | .isnn, .non, .non => some false
  | .isnn, _, .non => some true
  | .isin, a, b => inD st a b
  | .notin, a, b => (inD st a b).map (!·)
  | _, _, _ => none
def tyD (st : Sto) : D → Option Ty
  | .bl _ => some .bool
  | .int _ => some .int
  | .str _ => some .str
  | .tup _ => some .tup
  | .scr _ => some .lst
  | .ref r => match st[r]? with
    | some (.lst _) => some .lst
    | some (.dct _) => some .dct
    | none => none
  | .rep _ => some .str
  | .ent _ => none
  | .non => none
def isiD (st : Sto) (t : Ty) : D → Option Bool
  | .non => some false
  | d => match tyD st d with
    | some u => some (decide (u = t) || (decide (u = .bool) && decide (t = .int)))
    | none => none
/-- the key of a dict -/
def keyD : D → Option Key
  | .int i => some (.inl i)
  | .str x => some (.inr x)
  | _ => none
def getKV (kvs : List (Key × D)) (k : Key) : Option D := (kvs.find? fun kv => decide (kv.1 = k)).map (·.2)
def putKV (kvs : List (Key × D)) (k : Key) (v : D) : List (Key × D) :=
  if (kvs.any fun kv => decide (kv.1 = k)) = true then kvs.map (fun kv => if kv.1 = k then (kv.1, v) else kv) else kvs ++ [(k, v)]
def keysD : List D → Option (List Key)
  | [] => some []
  | d :: r => match keyD d with
    | some k => (keysD r).map (k :: ·)
    | none => none
def intsD : List D → Option (List Int)
  | [] => some []
  | .int i :: r => (intsD r).map (i :: ·)
  | _ :: _ => none
def insI (i : Int) : List Int → List Int
  | [] => [i]
  | j :: r => if i ≤ j then i :: j :: r else j :: insI i r
/-- the ints from the least one on -/
def sortI : List Int → List Int
  | [] => []
  | i :: r => insI i (sortI r)
/-- pairs, their first ones ints -/
def pairsI : List D → Option (List (Int × D))
  | [] => some []
  | .tup [.int i, d] :: r => (pairsI r).map ((i, d) :: ·)
  | _ :: _ => none
def insP {α : Type} (p : Int × α) : List (Int × α) → List (Int × α)
  | [] => [p]
  | q :: r => if p.1 ≤ q.1 then p :: q :: r else q :: insP p r
/-- pairs from the least first one on -/
def sortP {α : Type} : List (Int × α) → List (Int × α)
  | [] => []
  | p :: r => insP p (sortP r)
def bltD (b : Blt) (ds : List D) (st : Sto) : Res D := match b, ds with
  | .len, [.tup xs] => .ok (.int xs.length) st
  | .len, [.scr xs] => .ok (.int xs.length) st
  | .len, [.ent ts] => .ok (.int ts.length) st
  | .len, [.str x] => if x.length ≤ sizeLine then .ok (.int x.length) st else .bad
  | .len, [.ref r] => match st[r]? with
    | some (.lst xs) => .ok (.int xs.length) st
    | _ => .bad
  | .abs, [.int i] => .ok (.int (if i < 0 then -i else i)) st
  | .int, [.int i] => .ok (.int i) st
  | .int, [.bl b] => .ok (.int (if b then 1 else 0)) st
  | .tuple, [.tup xs] => .ok (.tup xs) st
  | .tuple, [.scr xs] => .ok (.tup xs) st
  | .tuple, [.ref r] => match st[r]? with
    | some (.lst xs) => .ok (.tup xs) st
    | _ => .bad
  | .list, [.tup xs] => .ok (.ref st.length) (st ++ [.lst xs])
  | .list, [.scr xs] => .ok (.ref st.length) (st ++ [.lst xs])
  | .list, [.ref r] => match st[r]? with
    | some (.lst xs) => .ok (.ref st.length) (st ++ [.lst xs])
    | _ => .bad
  | .min2, [.int i, .int j] => .ok (.int (if j < i then j else i)) st
  | .max2, [.int i, .int j] => .ok (.int (if j > i then j else i)) st
  | .repr, [d] => match toPyR st 60 d with
    | some p => if layD p && (p.showable && decide (showCost p ≤ sizeLine)) then .ok (.rep p) st else .bad
    | none => .bad
  | .strI, [.int i] => if decide (i.natAbs.log2 < 1920) then .ok (.str (toString i)) st else .bad
  | .isi t, [d] => liftO ((isiD st t d).map .bl) st
  | .srt, [d] => match itemsD d st with
    | some xs => (match intsD xs with
      | some ns => if ns.length < 64 then .ok (.ref st.length) (st ++ [.lst ((sortI ns).map .int)]) else .bad
      | none => match d, pairsI xs with
        | .ref _, some ps => if ps.length < 64 ∧ (ps.map (·.1)).Nodup then .ok (.ref st.length) (st ++ [.lst ((sortP ps).map fun p => .tup [.int p.1, p.2])]) else .bad
        | _, _ => .bad)
    | none => .bad
  | .dictP, [d, e] => match itemsD d st, itemsD e st with
    | some xs, some ys => (match keysD xs with
      | some ks => .ok (.ref st.length) (st ++ [.dct ((ks.zip ys).foldl (fun acc kv => putKV acc kv.1 kv.2) [])])
      | none => .bad)
    | _, _ => .bad
  | _, _ => .bad
def idxD (a b : D) (st : Sto) : Res D := match a, b with
  | .tup xs, .int i => liftO (atI xs i) st
  | .scr xs, .int i => liftO (atI xs i) st
  | .ent ts, .int i => liftO ((atI ts i).map .str) st
  | .str x, .int i => if x.length ≤ sizeLine then liftO ((atI x.cps.toList i).map fun c => .str ⟨#[c]⟩) st else .bad
  | .ref r, k => match st[r]?, k with
    | some (.lst xs), .int i => liftO (atI xs i) st
    | some (.dct kvs), k => match keyD k with
      | some k => liftO (getKV kvs k) st
      | none => .bad
    | _, _ => .bad
  | _, _ => .bad
/-- what stands at a text in a dict of constants: pairs -/
def pairD : List D → Str → Option D
  | .tup [.str y, v] :: r, k => if y = k then some v else pairD r k
  | _, _ => none
def gkD (c : Option D) (x : D) : Option D := match c, x with
  | some (.tup ps), .str k => pairD ps k
  | _, _ => none
/-- where a text stands in a row of texts -/
def ixD (ys : List Str) (x : D) : Option D := match x with
  | .str k => if k ∈ ys then some (.int (ys.idxOf k : Nat)) else none
  | _ => none
/-- the same of a value that is a row of texts -/
def ixmD (o x : D) (st : Sto) : Option D := match o with
  | .ent ys => ixD ys x
  | .ref r => match st[r]? with
    | some (.lst xs) => (match strsD xs with
      | some ys => ixD ys x
      | none => none)
    | _ => none
  | _ => none
def isRow (o : D) (st : Sto) : Bool := match o with
  | .ent _ => true
  | .ref r => match st[r]? with
    | some (.lst _) => true
    | _ => false
  | _ => false
def cutD {α : Type} (xs : List α) (lo hi : Option Int) : List α := (xs.drop (HT.sIx xs.length 0 lo)).take (HT.sIx xs.length xs.length hi - HT.sIx xs.length 0 lo)
def partD : D → Option (Option Int)
  | .non => some none
  | .int i => some (some i)
  | _ => none
def slD (a lo hi : D) (st : Sto) : Res D := match partD lo, partD hi, a with
  | some l, some h, .tup xs => .ok (.tup (cutD xs l h)) st
  | some l, some h, .scr xs => .ok (.ref st.length) (st ++ [.lst (cutD xs l h)])
  | some l, some h, .str x => if x.length ≤ sizeLine then .ok (.str ⟨(cutD x.cps.toList l h).toArray⟩) st else .bad
  | some l, some h, .ref r => match st[r]? with
    | some (.lst xs) => .ok (.ref st.length) (st ++ [.lst (cutD xs l h)])
    | _ => .bad
  | _, _, _ => .bad
def revD (a : D) (st : Sto) : Res D := match a with
  | .scr xs => .ok (.ref st.length) (st ++ [.lst xs.reverse])
  | .ref r => match st[r]? with
    | some (.lst xs) => .ok (.ref st.length) (st ++ [.lst xs.reverse])
    | _ => .bad
  | _ => .bad
def setD (a i v : D) (st : Sto) : Option Sto := match a with
  | .ref r => match st[r]?, i with
    | some (.lst xs), .int k => (ixN xs.length k).map fun j => st.set r (.lst (xs.set j v))
    | some (.dct kvs), k => match keyD k with
      | some k => if kvs.length < sizeLine then some (st.set r (.dct (putKV kvs k v))) else none
      | none => none
    | _, _ => none
  | _ => none
def methD (m : Mt) (o : D) (ds : List D) (st : Sto) : Res D := match o with
  | .ref r => match st[r]? with
    | some (.lst xs) => match m, ds with
      | .append, [d] => if xs.length < sizeLine then .ok .non (st.set r (.lst (xs ++ [d]))) else .bad
      | .pop0, [] => match xs[xs.length - 1]? with
        | some d => .ok d (st.set r (.lst xs.dropLast))
        | none => .bad
      | .popAt, [.int i] => if decide (-(2 ^ 63) ≤ i) && decide (i < 2 ^ 63) then
          match seqIndex? i xs.length with
          | some k => match xs[k]? with
            | some d => .ok d (st.set r (.lst (xs.eraseIdx k)))
            | none => .bad
          | none => .bad
        else .bad
      | .insert, [.int i, d] => if decide (xs.length < sizeLine) && (decide (0 ≤ i) && decide (i < 2 ^ 63)) then .ok .non (st.set r (.lst (xs.take i.toNat ++ [d] ++ xs.drop i.toNat))) else .bad
      | .extend, [.ref q] => match st[q]? with
        | some (.lst ys) => if xs.length + ys.length ≤ sizeLine then .ok .non (st.set r (.lst (xs ++ ys))) else .bad
        | _ => .bad
      | _, _ => .bad
    | _ => .bad
  | _ => .bad

/-- methods of texts -/
def smD (m : Tm) (x : Str) (ds : List D) (st : Sto) : Res D := match m, ds with
  | .join, [d] => match itemsD d st with
    | some xs => (match strsD xs with
      | some ys => if (ys.map (·.length)).sum + ys.length * x.length ≤ 16777216 then .ok (.str (Txt.join x ys)) st else .bad
      | none => .bad)
    | none => .bad
  | .split, [.str b] => if (b.length == 0) = false ∧ x.length + 2 ≤ sizeLine then .ok (.ref st.length) (st ++ [.lst ((Txt.split x b).map .str)]) else .bad
  | .upper, [] => if x.length ≤ 5592405 then .ok (.str (Txt.upper x)) st else .bad
  | _, _ => .bad
def isLst (d : D) (st : Sto) : Bool := match d with
  | .ref r => match st[r]? with
    | some (.lst _) => true
    | _ => false
  | _ => false

/-! ### what is walked -/
inductive Src where
  | fix (ds : List D)
  | live (n : Nat)
  | enum (s : Src)
  | zip (s t : Src)
def rangeD (lo c : Int) (n : Nat) : List D := (List.range n).map fun (i : Nat) => D.int (lo + (i : Int) * c)
def signsD (x : Str) : List D := x.cps.toList.map fun c => D.str ⟨#[c]⟩
def seqD (d : D) (st : Sto) : Option Src := match d with
  | .tup xs => some (.fix xs)
  | .scr xs => some (.fix xs)
  | .ent ts => some (.fix (ts.map .str))
  | .ref r => match st[r]? with
    | some (.lst _) => some (.live r)
    | _ => none
  | _ => none
def big62 (i : Int) : Bool := decide (-(2 ^ 62) ≤ i) && decide (i < 2 ^ 62)
def srcD (k : ItK) (ds : List D) (st : Sto) : Option Src := match k, ds with
  | .plain, [.str x] => some (.fix (signsD x))
  | .plain, [d] => seqD d st
  | .range1, [.int n] => if big62 n then some (.fix (rangeD 0 1 n.toNat)) else none
  | .range2, [.int a, .int b] => if big62 a && big62 b then some (.fix (rangeD a 1 (b - a).toNat)) else none
  | .range3, [.int a, .int b, .int c] => if (big62 a && big62 b) && decide (c = -1) then some (.fix (rangeD a (-1) (a - b).toNat)) else none
  | .enum, [d] => (seqD d st).map .enum
  | .zip, [d, e] => match seqD d st, seqD e st with
    | some s, some t => some (.zip s t)
    | _, _ => none
  | _, _ => none
/-- the item of a turn; some none: there is none any more -/
def Src.at : Src → Sto → Nat → Option (Option D)
  | .fix ds, _, i => if i ≤ ds.length then some ds[i]? else none
  | .live n, st, i => match st[n]? with
    | some (.lst xs) => if i ≤ xs.length then some xs[i]? else none
    | _ => none
  | .enum s, st, i => match s.at st i with
    | some (some x) => some (some (.tup [.int (i : Int), x]))
    | some none => some none
    | none => none
  | .zip s t, st, i => match s.at st i, t.at st i with
    | some (some x), some (some y) => some (some (.tup [x, y]))
    | some _, some _ => some none
    | _, _ => none
def Src.len : Src → Sto → Nat
  | .fix ds, _ => ds.length
  | .live n, st => match st[n]? with
    | some (.lst xs) => xs.length
    | _ => 0
  | .enum s, st => s.len st
  | .zip s t, st => min (s.len st) (t.len st)

/-- what a statement comes to -/
inductive Out where
  | next (env : Env) | brk (env : Env) | cnt (env : Env) | ret (d : D)
/-- the turns of a comprehension -/
def lcLoop (s : Src) (step : D → Sto → Res (Option D)) : Nat → Nat → List D → Sto → Res D
  | 0, _, _, _ => .bad
  | n + 1, i, acc, st => match s.at st i with
    | none => .bad
    | some none => .ok (.ref st.length) (st ++ [.lst acc])
    | some (some d) => (step d st).bind fun o st1 => match o with
      | none => lcLoop s step n (i + 1) acc st1
      | some y => if acc.length < sizeLine then lcLoop s step n (i + 1) (acc ++ [y]) st1 else .bad
/-- the turns of a for -/
def forLoop (s : Src) (step : D → Env → Sto → Res Out) : Nat → Nat → Env → Sto → Res Out
  | 0, _, _, _ => .bad
  | n + 1, i, env, st => match s.at st i with
    | none => .bad
    | some none => .ok (.next env) st
    | some (some d) => (step d env st).bind fun o st1 => match o with
      | .next env1 => forLoop s step n (i + 1) env1 st1
      | .cnt env1 => forLoop s step n (i + 1) env1 st1
      | .brk env1 => .ok (.next env1) st1
      | .ret d => .ok (.ret d) st1
/-- the turns of a while, so many at most -/
def whlLoop (test : Env → Sto → Res Bool) (step : Env → Sto → Res Out) : Nat → Env → Sto → Res Out
  | 0, _, _ => .bad
  | n + 1, env, st => (test env st).bind fun b st1 => if b then (step env st1).bind fun o st2 => match o with
      | .next env1 => whlLoop test step n env1 st2
      | .cnt env1 => whlLoop test step n env1 st2
      | .brk env1 => .ok (.next env1) st2
      | .ret d => .ok (.ret d) st2
    else .ok (.next env) st1
/-- the parts of what is taken apart -/
def partsOf (d : D) (st : Sto) : Option (List D) := match d with
  | .tup ds => some ds
  | .scr ds => some ds
  | .ref r => match st[r]? with
    | some (.lst ds) => some ds
    | _ => none
  | _ => none
def setAll (env : Env) : List Nat → List D → Env
  | i :: is, d :: ds => setAll (env.set i (some d)) is ds
  | _, _ => env
def wipeE (env : Env) : List Nat → Env
  | [] => env
  | v :: vs => (wipeE env vs).set v none

/-! ### what expressions and statements come to -/
section
variable (F : Nat → List D → Sto → Res D) (G : Nat → Option D)
mutual
def ev : E → Env → Sto → Res D
  | .var i, env, st => match env[i]? with
    | some (some d) => .ok d st
    | _ => .bad
  | .cI i, _, st => .ok (.int i) st
  | .cB b, _, st => .ok (.bl b) st
  | .cS x, _, st => .ok (.str x) st
  | .cN, _, st => .ok .non st
  | .gcon i, _, st => liftO (G i) st
  | .gkd i e, env, st => (ev e env st).bind fun x st1 => liftO (gkD (G i) x) st1
  | .ixl ys e, env, st => (ev e env st).bind fun x st1 => liftO (ixD ys x) st1
  | .ent ts, _, st => .ok (.ent ts) st
  | .ixm o e, env, st => (ev o env st).bind fun x st1 => if isRow x st1 = true then (ev e env st1).bind fun y st2 => liftO (ixmD x y st2) st2 else .bad
  | .stup fs es, env, st => (evss fs es env st).bind fun ds st1 => if ds.length ≤ sizeLine then .ok (.tup ds) st1 else .bad
  | .bin op a b, env, st => (ev a env st).bind fun x st1 => (ev b env st1).bind fun y st2 => binD op x y st2
  | .neg a, env, st => (ev a env st).bind fun x st1 => match x with
    | .int i => .ok (.int (-i)) st1
    | _ => .bad
  | .notE a, env, st => (ev a env st).bind fun x st1 => liftO ((truth st1 x).map fun b => .bl (!b)) st1
  | .and1 a, env, st => ev a env st
  | .and2 a r, env, st => (ev a env st).bind fun x st1 => match truth st1 x with
    | some true => ev r env st1
    | some false => .ok x st1
    | none => .bad
  | .or1 a, env, st => ev a env st
  | .or2 a r, env, st => (ev a env st).bind fun x st1 => match truth st1 x with
    | some true => .ok x st1
    | some false => ev r env st1
    | none => .bad
  | .cmp op a b, env, st => (ev a env st).bind fun x st1 => (ev b env st1).bind fun y st2 => liftO ((cmpD op x y st2).map .bl) st2
  | .cmp2 op op' a b c, env, st => (ev a env st).bind fun x st1 => (ev b env st1).bind fun y st2 => match cmpD op x y st2 with
    | some true => (ev c env st2).bind fun z st3 => liftO ((cmpD op' y z st3).map .bl) st3
    | some false => .ok (.bl false) st2
    | none => .bad
  | .ife c a b, env, st => (evT c env st).bind fun k st1 => if k then ev a env st1 else ev b env st1
  | .tup es, env, st => (evs es env st).bind fun ds st1 => if ds.length ≤ sizeLine then .ok (.tup ds) st1 else .bad
  | .lst es, env, st => (evs es env st).bind fun ds st1 => if ds.length ≤ sizeLine then .ok (.ref st1.length) (st1 ++ [.lst ds]) else .bad
  | .dic ks es, env, st => (evs es env st).bind fun ds st1 => if ks.length = ds.length ∧ ks.length ≤ 15 then
      .ok (.ref st1.length) (st1 ++ [.dct ((ks.zip ds).foldl (fun acc kv => putKV acc kv.1 kv.2) [])]) else .bad
  | .call f es, env, st => (evs es env st).bind fun ds st1 => F f ds st1
  | .callK f es ks g, env, st => (evs es env st).bind fun ds st1 => (evs ks env st1).bind fun zs st2 => F f (g.map fun j => (ds ++ zs).getD j .non) st2
  | .blt b es, env, st => (evs es env st).bind fun ds st1 => bltD b ds st1
  | .meth m o es, env, st => (ev o env st).bind fun x st1 => if isLst x st1 = true then (evs es env st1).bind fun ds st2 => methD m x ds st2 else .bad
  | .smeth m o es, env, st => (ev o env st).bind fun x st1 => match x with
    | .str a => (evs es env st1).bind fun ds st2 => smD m a ds st2
    | _ => .bad
  | .idx a b, env, st => (ev a env st).bind fun x st1 => (ev b env st1).bind fun y st2 => idxD x y st2
  | .sl a lo hi, env, st => (ev a env st).bind fun x st1 => (ev lo env st1).bind fun l st2 => (ev hi env st2).bind fun h st3 => slD x l h st3
  | .rev a, env, st => (ev a env st).bind fun x st1 => revD x st1
  | .lc own elt t k es c, env, st => (evs es env st).bind fun ds st1 => match srcD k ds st1 with
    | none => .bad
    | some s => lcLoop s (fun d st2 => (asg t d (wipeE env own) st2).bind fun env1 st3 => (evT c env1 st3).bind fun b st4 =>
        if b then (ev elt env1 st4).bind fun y st5 => .ok (some y) st5 else .ok none st4) (s.len st1 + 1) 0 [] st1
def evs : Es → Env → Sto → Res (List D)
  | .nil, _, st => .ok [] st
  | .cons e es, env, st => (ev e env st).bind fun d st1 => (evs es env st1).bind fun ds st2 => .ok (d :: ds) st2
/-- items, some of them starred: tuples -/
def evss : List Bool → Es → Env → Sto → Res (List D)
  | [], .nil, _, st => .ok [] st
  | true :: fs, .cons e es, env, st => (ev e env st).bind fun d st1 => match d with
    | .tup xs => (evss fs es env st1).bind fun ds st2 => .ok (xs ++ ds) st2
    | _ => .bad
  | false :: fs, .cons e es, env, st => (ev e env st).bind fun d st1 => (evss fs es env st1).bind fun ds st2 => .ok (d :: ds) st2
  | _, _, _, _ => .bad
def evT : T → Env → Sto → Res Bool
  | .val e, env, st => (ev e env st).bind fun x st1 => liftO (truth st1 x) st1
  | .vc op a b, env, st => (ev a env st).bind fun x st1 => (ev b env st1).bind fun y st2 => liftO (cmpD op x y st2) st2
  | .vc2 op op' a b c, env, st => (ev a env st).bind fun x st1 => (ev b env st1).bind fun y st2 => match cmpD op x y st2 with
    | some true => (ev c env st2).bind fun z st3 => liftO (cmpD op' y z st3) st3
    | some false => .ok false st2
    | none => .bad
  | .not t, env, st => (evT t env st).bind fun b st1 => .ok (!b) st1
  | .and1 a, env, st => evT a env st
  | .and2 a r, env, st => (evT a env st).bind fun b st1 => if b then evT r env st1 else .ok false st1
  | .or1 a, env, st => evT a env st
  | .or2 a r, env, st => (evT a env st).bind fun b st1 => if b then .ok true st1 else evT r env st1
  | .yes, _, st => .ok true st
def asg : Tg → D → Env → Sto → Res Env
  | .name i, d, env, st => .ok (env.set i (some d)) st
  | .tup ts, d, env, st => match partsOf d st with
    | some ds => asgs ts ds env st
    | none => .bad
  | .sub o i, d, env, st => (ev o env st).bind fun x st1 => (ev i env st1).bind fun y st2 => match setD x y d st2 with
    | some st3 => .ok env st3
    | none => .bad
def asgs : Tgs → List D → Env → Sto → Res Env
  | .nil, [], env, st => .ok env st
  | .cons t ts, d :: ds, env, st => (asg t d env st).bind fun env1 st1 => asgs ts ds env1 st1
  | _, _, _, _ => .bad
end
/-- how many turns a while may take -/
def whileMost : Nat := 100000
mutual
def ex : S → Env → Sto → Res Out
  | .asg t e, env, st => (ev F G e env st).bind fun d st1 => (asg F G t d env st1).bind fun env1 st2 => .ok (.next env1) st2
  | .asgC i own elt t k es c, env, st => (ev F G (.lc own elt t k es c) env st).bind fun d st1 => .ok (.next (env.set i (some d))) st1
  | .par is es, env, st => (evs F G es env st).bind fun ds st1 => if ds.length = is.length then .ok (.next (setAll env is ds)) st1 else .bad
  | .exp e, env, st => (ev F G e env st).bind fun _ st1 => .ok (.next env) st1
  | .ret e, env, st => (ev F G e env st).bind fun d st1 => .ok (.ret d) st1
  | .retN, _, st => .ok (.ret .non) st
  | .ite c a b, env, st => (evT F G c env st).bind fun k st1 => if k then exs a env st1 else exs b env st1
  | .for_ t k es body, env, st => (evs F G es env st).bind fun ds st1 => match srcD k ds st1 with
    | none => .bad
    | some s => forLoop s (fun d env st => (asg F G t d env st).bind fun env1 st1 => exs body env1 st1) (s.len st1 + 1) 0 env st1
  | .whl c body, env, st => whlLoop (evT F G c) (exs body) whileMost env st
  | .brk, env, st => .ok (.brk env) st
  | .cnt, env, st => .ok (.cnt env) st
  | .pass, env, st => .ok (.next env) st
  | .never, _, _ => .bad
def exs : Ss → Env → Sto → Res Out
  | .nil, env, st => .ok (.next env) st
  | .cons s ss, env, st => (ex s env st).bind fun o st1 => match o with
    | .next env1 => exs ss env1 st1
    | .brk env1 => .ok (.brk env1) st1
    | .cnt env1 => .ok (.cnt env1) st1
    | .ret d => .ok (.ret d) st1
end
end
/-- a def called, at a depth -/
def run (P : Nat → Option Fn) (G : Nat → Option D) : Nat → Nat → List D → Sto → Res D
  | 0, _, _, _ => .bad
  | n + 1, f, ds, st => match (P f) with
    | none => .bad
    | some fn => if ds.length = fn.np then
        (exs (run P G n) G fn.body (ds.map some ++ List.replicate (fn.ns - fn.np) none) st).bind fun o st1 => match o with
          | .ret d => .ok d st1
          | .next _ => .ok .non st1
          | _ => .bad
      else .bad
end PL

set_option Elab.async false
set_option linter.all false
set_option maxRecDepth 100000
/-! PLB: how data and stores stand in the layer's heap. -/
namespace PL
open PySem PySem.Spec PyProof.Rows L2

mutual
theorem layD_of : ∀ p : PyData, p.canLay0 = true → layD p = true
  | .none, _ => rfl
  | .bool _, _ => rfl
  | .int _, _ => rfl
  | .str _, h => h
  | .list xs, h => by rw [layD]; exact layDs_of xs (by rw [PyData.canLay0] at h; exact h)
  | .tuple xs, h => by rw [layD]; exact layDs_of xs (by rw [PyData.canLay0] at h; exact h)
  | .dict _, h => by rw [PyData.canLay0] at h; cases h
theorem layDs_of : ∀ ps : List PyData, PyData.canLayAll0 ps = true → layDs ps = true
  | [], _ => rfl
  | x :: xs, h => by
    rw [PyData.canLayAll0, Bool.and_eq_true] at h
    rw [layDs, layD_of x h.1, layDs_of xs h.2]; rfl
end
theorem optMap_mono {α β : Type} {f g : α → Option β} : ∀ {l : List α} {r : List β}, (∀ a b, f a = some b → g a = some b) → optMap f l = some r → optMap g l = some r
  | [], _, _, h => h
  | a :: l, r, k, h => by
    rw [optMap] at h ⊢
    cases e1 : f a with
    | none => rw [e1] at h; cases h
    | some b =>
      rw [e1] at h
      rw [k a b e1]
      cases e2 : optMap f l with
      | none => rw [e2] at h; cases h
      | some q =>
        rw [e2] at h
        rw [optMap_mono k e2]; exact h
theorem toPyR_of {st : Sto} : ∀ (n : Nat) (d : D) (p : PyData), toPy st n d = some p → toPyR st n d = some p := by
  intro n
  induction n with
  | zero => intro d p h; cases d <;> first | exact h | cases h
  | succ n ih =>
    intro d p h
    cases d with
    | tup xs =>
      simp only [toPy] at h
      obtain ⟨ps, e, rfl⟩ := Option.map_eq_some_iff.mp h
      simp only [toPyR, optMap_mono ih e, Option.map_some]
    | scr xs =>
      simp only [toPy] at h
      obtain ⟨ps, e, rfl⟩ := Option.map_eq_some_iff.mp h
      simp only [toPyR, optMap_mono ih e, Option.map_some]
    | ref r =>
      simp only [toPy] at h
      split at h
      · rename_i xs ho
        obtain ⟨ps, e, rfl⟩ := Option.map_eq_some_iff.mp h
        simp only [toPyR, ho, optMap_mono ih e, Option.map_some]
      · cases h
    | _ => first | exact h | cases h
/-- a list that nobody changes -/
def SqS (K : PySem.W.Frag) (H : Hp) (a : Addr) (vs : List V) : Prop := (∃ o, H a = some (.frz o (.lst vs))) ∨ ∃ o, K.lookup a = some o ∧ SqL K (fun _ => none) a vs
theorem SqS.l {K : PySem.W.Frag} {H : Hp} {a : Addr} {vs : List V} (h : SqS K H a vs) : SqL K H a vs := by
  rcases h with ⟨o, h⟩ | ⟨o, _, h⟩
  · exact .inl (.inr ⟨o, h⟩)
  · rcases h with (z | ⟨_, z⟩) | z
    · cases z
    · cases z
    · exact .inr z
section
variable (K : PySem.W.Frag) (as : List Addr) (H : Hp)
mutual
def RV : D → V → Prop
  | .non, v => v = .non
  | .bl b, v => v = .bl b
  | .int i, v => v = .int i
  | .str x, v => v = .str x
  | .tup ds, v => ∃ a vs, v = .ref a ∧ SqT K H a vs ∧ RVs ds vs
  | .ref n, v => ∃ a, v = .ref a ∧ as[n]? = some a
  | .rep d, v => v = .str d.shown
  | .scr ds, v => ∃ a vs, v = .ref a ∧ SqS K H a vs ∧ RVs ds vs
  | .ent ts, v => ∃ a o, v = .ref a ∧ H a = some (.frz o (.tup (ts.map V.str))) ∧ o.dict = none
def RVs : List D → List V → Prop
  | [], vs => vs = []
  | d :: ds, vs => ∃ v vs', vs = v :: vs' ∧ RV d v ∧ RVs ds vs'
end
def RKV : List (Key × D) → List (Key × V) → Prop
  | [], vs => vs = []
  | kd :: r, vs => ∃ v vs', vs = (kd.1, v) :: vs' ∧ RV K as H kd.2 v ∧ RKV r vs'
def RO : Ob → Addr → Prop
  | .lst ds, a => ∃ vs, H a = some (.lst vs) ∧ RVs K as H ds vs
  | .dct kvs, a => ∃ vs, H a = some (.dK vs) ∧ RKV K as H kvs vs
end
def Ob.mt : Ob → Bool := fun _ => true

structure Rel (K : PySem.W.Frag) (as : List Addr) (st : Sto) (H : Hp) : Prop where
  len : as.length = st.length
  at_ : ∀ (i : Nat) (o : Ob) (a : Addr), st[i]? = some o → as[i]? = some a → RO K as H o a
  inj : ∀ (i j : Nat) (a : Addr) (o o' : Ob), st[i]? = some o → st[j]? = some o' → o.mt = true → o'.mt = true → as[i]? = some a → as[j]? = some a → i = j
/-- what behind keeps of ahead -/
structure Ext (K : PySem.W.Frag) (as : List Addr) (H : Hp) (as' : List Addr) (H' : Hp) : Prop where
  app : ∃ l, as' = as ++ l ∧ ∀ a ∈ l, H a = none ∨ a ∈ as
  frm : ∀ (a : Addr) (o : HO), a ∉ as → H a = some o → H' a = some o
  tup : ∀ (a : Addr) (vs : List V), SqT K H a vs → SqT K H' a vs
  frz : ∀ (a : Addr) (o : Obj) (u : HO), H a = some (.frz o u) → H' a = some (.frz o u)
def REnv (K : PySem.W.Frag) (as : List Addr) (H : Hp) (env : Env) (σ : L2.St) : Prop :=
  env.length = σ.length ∧ ∀ (i : Nat) (d : D), env[i]? = some (some d) → ∃ v, σ[i]? = some (some v) ∧ RV K as H d v

section
variable {K : PySem.W.Frag} {as as' as1 as2 : List Addr} {H H' H1 H2 : Hp} {st st' : Sto}
theorem Ext.refl : Ext K as H as H := ⟨⟨[], by simp, by simp⟩, fun _ _ _ h => h, fun _ _ h => h, fun _ _ _ h => h⟩
theorem Ext.trans (e : Ext K as H as1 H1) (e' : Ext K as1 H1 as2 H2) : Ext K as H as2 H2 := by
  obtain ⟨l, rfl, hl⟩ := e.app
  obtain ⟨l', rfl, hl'⟩ := e'.app
  refine ⟨⟨l ++ l', by simp, fun a ha => ?_⟩, fun a o hn h => ?_, fun a vs h => e'.tup a vs (e.tup a vs h), fun a o u h => e'.frz a o u (e.frz a o u h)⟩
  · rcases List.mem_append.mp ha with h | h
    · exact hl a h
    · by_cases hm : a ∈ as
      · exact .inr hm
      · rcases hl' a h with q | q
        · cases z : H a with
          | none => exact .inl rfl
          | some o => rw [e.frm a o hm z] at q; cases q
        · rcases List.mem_append.mp q with q | q
          · exact absurd q hm
          · exact hl a q
  · have hn1 : a ∉ as ++ l := fun hm => by
      rcases List.mem_append.mp hm with z | z
      · exact hn z
      · rcases hl a z with q | q
        · rw [q] at h; cases h
        · exact hn q
    exact e'.frm a o hn1 (e.frm a o hn h)
theorem Ext.at_ (e : Ext K as H as' H') {i : Nat} {a : Addr} (h : as[i]? = some a) : as'[i]? = some a := by
  obtain ⟨l, rfl, _⟩ := e.app
  obtain ⟨hi, _⟩ := List.getElem?_eq_some_iff.mp h
  rw [List.getElem?_append_left hi]; exact h
/-- an address that is tracked, and none of the store's, is none of the store's behind -/
theorem Ext.out (e : Ext K as H as' H') {a : Addr} {o : HO} (h : H a = some o) (hn : a ∉ as) : a ∉ as' := by
  obtain ⟨l, rfl, hl⟩ := e.app
  intro hm
  rcases List.mem_append.mp hm with z | z
  · exact hn z
  · rcases hl a z with q | q
    · rw [q] at h; cases h
    · exact hn q
/-- what data need: the store's addresses stay, and the tuples -/
structure Wk (K : PySem.W.Frag) (as : List Addr) (H : Hp) (as' : List Addr) (H' : Hp) : Prop where
  at_ : ∀ (i : Nat) (a : Addr), as[i]? = some a → as'[i]? = some a
  tup : ∀ (a : Addr) (vs : List V), SqT K H a vs → SqT K H' a vs
  frz : ∀ (a : Addr) (o : Obj) (u : HO), H a = some (.frz o u) → H' a = some (.frz o u)
theorem SqS.mono (e : Wk K as H as' H') {a : Addr} {vs : List V} (h : SqS K H a vs) : SqS K H' a vs := by
  rcases h with ⟨o, h⟩ | h
  · exact .inl ⟨o, e.frz _ _ _ h⟩
  · exact .inr h
theorem Ext.wk (e : Ext K as H as' H') : Wk K as H as' H' := ⟨fun _ _ h => e.at_ h, e.tup, e.frz⟩
mutual
theorem RV.monoW (e : Wk K as H as' H') : ∀ (d : D) (v : V), RV K as H d v → RV K as' H' d v
  | .non, _, h => h
  | .bl _, _, h => h
  | .int _, _, h => h
  | .str _, _, h => h
  | .rep _, _, h => h
  | .tup ds, _, h => by
    obtain ⟨a, vs, rfl, ht, hs⟩ := h
    exact ⟨a, vs, rfl, e.tup a vs ht, RVs.monoW e ds vs hs⟩
  | .scr ds, _, h => by
    obtain ⟨a, vs, rfl, ht, hs⟩ := h
    exact ⟨a, vs, rfl, ht.mono e, RVs.monoW e ds vs hs⟩
  | .ref n, _, h => by
    obtain ⟨a, rfl, ha⟩ := h
    exact ⟨a, rfl, e.at_ _ _ ha⟩
  | .ent ts, _, h => by
    obtain ⟨a, o, rfl, h1, h2⟩ := h
    exact ⟨a, o, rfl, e.frz _ _ _ h1, h2⟩
theorem RVs.monoW (e : Wk K as H as' H') : ∀ (ds : List D) (vs : List V), RVs K as H ds vs → RVs K as' H' ds vs
  | [], _, h => h
  | d :: ds, _, h => by
    obtain ⟨v, vs', rfl, h1, h2⟩ := h
    exact ⟨v, vs', rfl, RV.monoW e d v h1, RVs.monoW e ds vs' h2⟩
end
theorem RV.mono (e : Ext K as H as' H') (d : D) (v : V) (h : RV K as H d v) : RV K as' H' d v := RV.monoW e.wk d v h
theorem RVs.mono (e : Ext K as H as' H') (ds : List D) (vs : List V) (h : RVs K as H ds vs) : RVs K as' H' ds vs := RVs.monoW e.wk ds vs h
theorem RKV.monoW (e : Wk K as H as' H') : ∀ (kvs : List (Key × D)) (vs : List (Key × V)), RKV K as H kvs vs → RKV K as' H' kvs vs
  | [], _, h => h
  | d :: ds, _, h => by
    obtain ⟨v, vs', rfl, h1, h2⟩ := h
    exact ⟨v, vs', rfl, RV.monoW e _ v h1, RKV.monoW e ds vs' h2⟩
theorem RKV.mono (e : Ext K as H as' H') (kvs : List (Key × D)) (vs : List (Key × V)) (h : RKV K as H kvs vs) : RKV K as' H' kvs vs := RKV.monoW e.wk kvs vs h
theorem REnv.monoW {env : Env} {σ : L2.St} (r : REnv K as H env σ) (e : Wk K as H as' H') : REnv K as' H' env σ :=
  ⟨r.1, fun i d h => let ⟨v, h1, h2⟩ := r.2 i d h; ⟨v, h1, RV.monoW e d v h2⟩⟩
theorem REnv.mono {env : Env} {σ : L2.St} (r : REnv K as H env σ) (e : Ext K as H as' H') : REnv K as' H' env σ :=
  ⟨r.1, fun i d h => let ⟨v, h1, h2⟩ := r.2 i d h; ⟨v, h1, RV.mono e d v h2⟩⟩
theorem REnv.set {env : Env} {σ : L2.St} (r : REnv K as H env σ) {d : D} {v : V} (rv : RV K as H d v) (i : Nat) : REnv K as H (env.set i (some d)) (σ.set i (some v)) := by
  refine ⟨by rw [List.length_set, List.length_set]; exact r.1, fun j d' h => ?_⟩
  by_cases hj : i = j
  · subst hj
    by_cases hi : i < env.length
    · rw [List.getElem?_set_self hi] at h
      cases h
      exact ⟨v, by rw [List.getElem?_set_self (by rw [← r.1]; exact hi)], rv⟩
    · rw [List.getElem?_eq_none (by simpa using hi)] at h; cases h
  · rw [List.getElem?_set_ne hj] at h
    obtain ⟨w, h1, h2⟩ := r.2 j d' h
    exact ⟨w, by rw [List.getElem?_set_ne hj]; exact h1, h2⟩
theorem wipeE_length (env : Env) : ∀ vs, (wipeE env vs).length = env.length
  | [] => rfl
  | v :: vs => by unfold wipeE; rw [List.length_set, wipeE_length env vs]
theorem REnv.wipe {env : Env} {σ : L2.St} (r : REnv K as H env σ) : ∀ vs, REnv K as H (wipeE env vs) (wipe σ vs)
  | [] => r
  | v :: vs => by
    have ih := REnv.wipe r vs
    refine ⟨by unfold wipeE L2.wipe; rw [List.length_set, List.length_set]; exact ih.1, fun j d h => ?_⟩
    unfold wipeE at h
    unfold L2.wipe
    by_cases hj : v = j
    · subst hj
      by_cases hi : v < (wipeE env vs).length
      · rw [List.getElem?_set_self hi] at h; cases h
      · rw [List.getElem?_eq_none (by simpa using hi)] at h; cases h
    · rw [List.getElem?_set_ne hj] at h ⊢
      exact ih.2 j d h
theorem RVs.length : ∀ {ds : List D} {vs : List V}, RVs K as H ds vs → ds.length = vs.length
  | [], _, h => by have h : _ = [] := h; subst h; rfl
  | d :: ds, _, h => by
    obtain ⟨v, vs', rfl, _, h2⟩ := h
    rw [List.length_cons, List.length_cons, RVs.length h2]
theorem RVs.get : ∀ {ds : List D} {vs : List V} {i : Nat} {d : D}, RVs K as H ds vs → ds[i]? = some d → ∃ v, vs[i]? = some v ∧ RV K as H d v
  | [], _, _, _, _, e => by simp at e
  | x :: ds, _, 0, d, h, e => by
    obtain ⟨v, vs', rfl, h1, _⟩ := h
    cases e
    exact ⟨v, rfl, h1⟩
  | x :: ds, _, i + 1, d, h, e => by
    obtain ⟨v, vs', rfl, _, h2⟩ := h
    exact RVs.get (i := i) h2 (by simpa using e)
theorem RVs.none_of {ds : List D} {vs : List V} {i : Nat} (h : RVs K as H ds vs) (e : ds[i]? = none) : vs[i]? = none := by
  have := h.length
  rw [List.getElem?_eq_none_iff] at e ⊢
  omega
theorem RVs.append : ∀ {ds : List D} {vs : List V} {es : List D} {us : List V}, RVs K as H ds vs → RVs K as H es us → RVs K as H (ds ++ es) (vs ++ us)
  | [], _, _, _, h, h' => by have h : _ = [] := h; subst h; exact h'
  | d :: ds, _, _, _, h, h' => by
    obtain ⟨v, vs', rfl, h1, h2⟩ := h
    exact ⟨v, _, rfl, h1, RVs.append h2 h'⟩
theorem RVs.take : ∀ {ds : List D} {vs : List V} (n : Nat), RVs K as H ds vs → RVs K as H (ds.take n) (vs.take n)
  | _, _, 0, _ => rfl
  | [], _, n + 1, h => by have h : _ = [] := h; subst h; rfl
  | d :: ds, _, n + 1, h => by
    obtain ⟨v, vs', rfl, h1, h2⟩ := h
    exact ⟨v, _, rfl, h1, RVs.take n h2⟩
theorem RVs.drop : ∀ {ds : List D} {vs : List V} (n : Nat), RVs K as H ds vs → RVs K as H (ds.drop n) (vs.drop n)
  | _, _, 0, h => h
  | [], _, n + 1, h => by have h : _ = [] := h; subst h; rfl
  | d :: ds, _, n + 1, h => by
    obtain ⟨v, vs', rfl, h1, h2⟩ := h
    exact RVs.drop n h2
theorem RVs.set : ∀ {ds : List D} {vs : List V} {d : D} {v : V} (i : Nat), RVs K as H ds vs → RV K as H d v → RVs K as H (ds.set i d) (vs.set i v)
  | [], _, _, _, _, h, _ => by have h : _ = [] := h; subst h; rfl
  | _ :: ds, _, _, _, 0, h, r => by
    obtain ⟨v, vs', rfl, h1, h2⟩ := h
    exact ⟨_, _, rfl, r, h2⟩
  | _ :: ds, _, _, _, i + 1, h, r => by
    obtain ⟨v, vs', rfl, h1, h2⟩ := h
    exact ⟨_, _, rfl, h1, RVs.set i h2 r⟩
theorem RVs.eraseIdx {ds : List D} {vs : List V} (i : Nat) (h : RVs K as H ds vs) : RVs K as H (ds.eraseIdx i) (vs.eraseIdx i) := by
  rw [List.eraseIdx_eq_take_drop_succ, List.eraseIdx_eq_take_drop_succ]
  exact (h.take i).append (h.drop (i + 1))
theorem RVs.dropLast {ds : List D} {vs : List V} (h : RVs K as H ds vs) : RVs K as H ds.dropLast vs.dropLast := by
  rw [List.dropLast_eq_take, List.dropLast_eq_take, h.length]
  exact h.take _
theorem RVs.one {d : D} {v : V} (r : RV K as H d v) : RVs K as H [d] [v] := ⟨v, [], rfl, r, rfl⟩
theorem RVs.two {d e : D} {v u : V} (r : RV K as H d v) (r' : RV K as H e u) : RVs K as H [d, e] [v, u] := ⟨v, [u], rfl, r, RVs.one r'⟩
theorem rvs_strsE : ∀ ns : List Str, RVs K as H (ns.map D.str) (ns.map V.str)
  | [] => rfl
  | i :: r => ⟨.str i, r.map V.str, rfl, rfl, rvs_strsE r⟩
theorem rv_ent {ts : List Str} {v : V} (h : RV K as H (.ent ts) v) : RV K as H (.tup (ts.map .str)) v := by
  obtain ⟨a, o, rfl, h1, _⟩ := h
  exact ⟨a, _, rfl, .inl (.inr ⟨o, h1⟩), rvs_strsE ts⟩
theorem py_ent {st : Sto} {n : Nat} : ∀ ts : List Str, optMap (toPy st n) (ts.map .str) = some (ts.map PyData.str)
  | [] => rfl
  | t :: ts => by
    have e : toPy st n (.str t) = some (.str t) := by cases n <;> rfl
    rw [List.map_cons, List.map_cons, optMap, e, py_ent ts]
theorem pyR_ent {st : Sto} {n : Nat} : ∀ ts : List Str, optMap (toPyR st n) (ts.map .str) = some (ts.map PyData.str)
  | [] => rfl
  | t :: ts => by
    have e : toPyR st n (.str t) = some (.str t) := by cases n <;> rfl
    rw [List.map_cons, List.map_cons, optMap, e, pyR_ent ts]
theorem RVs.reverse : ∀ {ds : List D} {vs : List V}, RVs K as H ds vs → RVs K as H ds.reverse vs.reverse
  | [], _, h => by have h : _ = [] := h; subst h; rfl
  | d :: ds, _, h => by
    obtain ⟨v, vs', rfl, h1, h2⟩ := h
    rw [List.reverse_cons, List.reverse_cons]
    exact (RVs.reverse h2).append (RVs.one h1)
theorem RVs.rep {ds : List D} {vs : List V} (h : RVs K as H ds vs) : ∀ k : Nat, RVs K as H (List.replicate k ds).flatten (List.replicate k vs).flatten
  | 0 => rfl
  | k + 1 => by
    rw [List.replicate_succ, List.replicate_succ, List.flatten_cons, List.flatten_cons]
    exact h.append (RVs.rep h k)
theorem RVs.isEmpty {ds : List D} {vs : List V} (h : RVs K as H ds vs) : ds.isEmpty = vs.isEmpty := by
  have := h.length
  cases ds <;> cases vs <;> simp_all

/-! ### new objects, objects changed -/
theorem sqT_upd {p : Addr} {ho : HO} (hp : ∀ vs, H p ≠ some (.tup vs)) (hf : ∀ o u, H p ≠ some (.frz o u)) {a : Addr} {vs : List V} (h : SqT K H a vs) : SqT K (upd H p ho) a vs := by
  rcases h with (h | ⟨o, h⟩) | h
  · exact .inl (.inl (by rw [upd_ne (fun z => hp vs (by rw [← z]; exact h))]; exact h))
  · exact .inl (.inr ⟨o, by rw [upd_ne (fun z => hf o (.tup vs) (by rw [← z]; exact h))]; exact h⟩)
  · exact .inr h
/-- a new object of any kind, none of the store's -/
theorem Ext.laid {p : Addr} {ho : HO} (hp : H p = none) : Ext K as H as (upd H p ho) :=
  ⟨⟨[], by simp, by simp⟩, fun a o _ h => by rw [upd_ne (fun z => by rw [z, hp] at h; cases h)]; exact h,
    fun a vs h => sqT_upd (fun vs z => by rw [hp] at z; cases z) (fun _ _ z => by rw [hp] at z; cases z) h,
    fun a o u h => by rw [upd_ne (fun z => by rw [z, hp] at h; cases h)]; exact h⟩
theorem RO.mono (e : Wk K as H as' H') {o : Ob} {a : Addr} (h : RO K as H o a) (hk : ∀ u, H a = some u → (o.mt = true ∨ ∃ o' u', u = .frz o' u') → H' a = some u) : RO K as' H' o a := by
  cases o with
  | lst ds =>
    obtain ⟨vs, h1, h2⟩ := h
    exact ⟨vs, hk _ h1 (.inl rfl), RVs.monoW e _ _ h2⟩
  | dct kvs =>
    obtain ⟨vs, h1, h2⟩ := h
    exact ⟨vs, hk _ h1 (.inl rfl), RKV.monoW e _ _ h2⟩
theorem RO.some_of {o : Ob} {a : Addr} (hm : o.mt = true) (h : RO K as H o a) : ∃ u, H a = some u ∧ Mut (some u) ∧ (∀ vs, u ≠ .tup vs) ∧ ∀ o' u', u ≠ .frz o' u' := by
  cases o with
  | lst ds =>
    obtain ⟨vs, h1, _⟩ := h
    refine ⟨HO.lst vs, h1, True.intro, ?_, ?_⟩
    · intro _ z; cases z
    · intro _ _ z; cases z
  | dct kvs =>
    obtain ⟨vs, h1, _⟩ := h
    refine ⟨HO.dK vs, h1, True.intro, ?_, ?_⟩
    · intro _ z; cases z
    · intro _ _ z; cases z
theorem Rel.get (r : Rel K as st H) {i : Nat} {o : Ob} (h : st[i]? = some o) : ∃ a, as[i]? = some a ∧ RO K as H o a := by
  obtain ⟨hi, _⟩ := List.getElem?_eq_some_iff.mp h
  have hi' : i < as.length := by rw [r.len]; exact hi
  exact ⟨as[i], List.getElem?_eq_getElem hi', r.at_ i o _ h (List.getElem?_eq_getElem hi')⟩
/-- the address is that of the store's object -/
theorem Rel.of_ref (r : Rel K as st H) {i : Nat} {o : Ob} {v : V} (h : st[i]? = some o) (hv : RV K as H (.ref i) v) : ∃ a, v = .ref a ∧ as[i]? = some a ∧ RO K as H o a := by
  obtain ⟨a, rfl, ha⟩ := hv
  exact ⟨a, rfl, ha, r.at_ i o a h ha⟩
theorem Rel.laid (r : Rel K as st H) {p : Addr} {ho : HO} (hp : H p = none) : Rel K as st (upd H p ho) :=
  ⟨r.len, fun i o a h1 h2 => (r.at_ i o a h1 h2).mono (Ext.laid hp).wk fun u h _ => by rw [upd_ne (fun z => by rw [z, hp] at h; cases h)]; exact h, r.inj⟩
/-- a new object of the store -/
theorem Ext.push {p : Addr} {ho : HO} (hp : H p = none) : Ext K as H (as ++ [p]) (upd H p ho) :=
  ⟨⟨[p], rfl, fun a ha => .inl (by simp at ha; rw [ha]; exact hp)⟩, fun a o _ h => by rw [upd_ne (fun z => by rw [z, hp] at h; cases h)]; exact h,
    fun a vs h => sqT_upd (fun vs z => by rw [hp] at z; cases z) (fun _ _ z => by rw [hp] at z; cases z) h,
    fun a o u h => by rw [upd_ne (fun z => by rw [z, hp] at h; cases h)]; exact h⟩
theorem get_snoc {α : Type} {l : List α} {x y : α} {i : Nat} (h : (l ++ [x])[i]? = some y) : l[i]? = some y ∨ (i = l.length ∧ x = y) := by
  by_cases hi : i < l.length
  · rw [List.getElem?_append_left hi] at h; exact .inl h
  · rw [List.getElem?_append_right (by omega)] at h
    by_cases h0 : i - l.length = 0
    · rw [h0] at h; cases h; exact .inr ⟨by omega, rfl⟩
    · rw [List.getElem?_eq_none (by simp; omega)] at h; cases h
theorem Rel.push (r : Rel K as st H) {p : Addr} {ho : HO} {o : Ob} (hp : H p = none) (new : RO K (as ++ [p]) (upd H p ho) o p) : Rel K (as ++ [p]) (st ++ [o]) (upd H p ho) := by
  refine ⟨by simp [r.len], fun i o' a h1 h2 => ?_, fun i j a o1 o2 h1 h2 m1 m2 h3 h4 => ?_⟩
  · rcases get_snoc h1 with h1 | ⟨rfl, rfl⟩
    · rcases get_snoc h2 with h2 | ⟨rfl, rfl⟩
      · exact (r.at_ i o' a h1 h2).mono (Ext.push hp).wk fun u h _ => by rw [upd_ne (fun z => by rw [z, hp] at h; cases h)]; exact h
      · have := (List.getElem?_eq_some_iff.mp h1).1
        rw [r.len] at this; omega
    · rw [← r.len] at h2
      rcases get_snoc h2 with h2 | ⟨_, rfl⟩
      · have := (List.getElem?_eq_some_iff.mp h2).1; omega
      · exact new
  · -- a tracked one of the elder is not the new one
    have old : ∀ (k : Nat) (ob : Ob), st[k]? = some ob → ob.mt = true → ∀ b, as[k]? = some b → b ≠ p := fun k ob hk hm b hb z => by
      obtain ⟨u, hu, _⟩ := RO.some_of hm (r.at_ k ob b hk hb)
      rw [z, hp] at hu; cases hu
    rcases get_snoc h1 with h1 | ⟨e1, f1⟩ <;> rcases get_snoc h2 with h2 | ⟨e2, f2⟩
    · rcases get_snoc h3 with h3 | ⟨e3, f3⟩ <;> rcases get_snoc h4 with h4 | ⟨e4, f4⟩
      · exact r.inj i j a o1 o2 h1 h2 m1 m2 h3 h4
      · exact absurd f4.symm (old i o1 h1 m1 a h3)
      · exact absurd f3.symm (old j o2 h2 m2 a h4)
      · omega
    · rcases get_snoc h3 with h3 | ⟨e3, f3⟩ <;> rcases get_snoc h4 with h4 | ⟨e4, f4⟩
      · have := (List.getElem?_eq_some_iff.mp h4).1; rw [r.len] at this; omega
      · exact absurd f4.symm (old i o1 h1 m1 a h3)
      · have := (List.getElem?_eq_some_iff.mp h1).1; rw [← r.len] at this; omega
      · omega
    · rcases get_snoc h3 with h3 | ⟨e3, f3⟩ <;> rcases get_snoc h4 with h4 | ⟨e4, f4⟩
      · have := (List.getElem?_eq_some_iff.mp h3).1; rw [r.len] at this; omega
      · have := (List.getElem?_eq_some_iff.mp h3).1; rw [r.len] at this; omega
      · exact absurd f3.symm (old j o2 h2 m2 a h4)
      · omega
    · omega
/-- an object of the store is changed -/
theorem Ext.write {a : Addr} {ho : HO} (ha : a ∈ as) (ht : ∀ vs, H a ≠ some (.tup vs)) (hf : ∀ o u, H a ≠ some (.frz o u)) : Ext K as H as (upd H a ho) :=
  ⟨⟨[], by simp, by simp⟩, fun b o hn h => by rw [upd_ne (fun z => hn (by rw [z]; exact ha))]; exact h, fun b vs h => sqT_upd ht hf h, fun b o u h => by rw [upd_ne (fun z => by rw [z] at h; exact hf o u h)]; exact h⟩
theorem Rel.write (r : Rel K as st H) {i : Nat} {a : Addr} {o o' : Ob} {ho : HO} (h : st[i]? = some o) (ha : as[i]? = some a) (hm : o.mt = true) (hm' : o'.mt = true)
    (new : Ext K as H as (upd H a ho) → RO K as (upd H a ho) o' a) : Rel K as (st.set i o') (upd H a ho) ∧ Ext K as H as (upd H a ho) := by
  obtain ⟨u, hu, _, ht, hf⟩ := RO.some_of hm (r.at_ i o a h ha)
  have e : Ext K as H as (upd H a ho) := Ext.write (List.mem_of_getElem? ha) (fun vs z => by rw [hu] at z; cases z; exact ht vs rfl) (fun o u' z => by rw [hu] at z; cases z; exact hf o u' rfl)
  obtain ⟨hi, _⟩ := List.getElem?_eq_some_iff.mp h
  refine ⟨⟨by rw [List.length_set]; exact r.len, fun j o2 b h1 h2 => ?_, fun j k b o1 o2 h1 h2 m1 m2 h3 h4 => ?_⟩, e⟩
  · by_cases hj : i = j
    · subst hj
      rw [List.getElem?_set_self hi] at h1
      cases h1
      rw [ha] at h2; cases h2
      exact new e
    · rw [List.getElem?_set_ne hj] at h1
      refine (r.at_ j o2 b h1 h2).mono e.wk fun u2 hu2 hor => ?_
      have hb : b ≠ a := by
        intro hb
        subst hb
        rcases hor with m2 | ⟨o3, u3, rfl⟩
        · exact hj (r.inj i j b o o2 h h1 hm m2 ha h2)
        · rw [hu] at hu2; cases hu2; exact hf _ _ rfl
      rw [upd_ne hb]; exact hu2
  · have back : ∀ (l : Nat) (ob : Ob), (st.set i o')[l]? = some ob → ob.mt = true → ∃ ob', st[l]? = some ob' ∧ ob'.mt = true := fun l ob hl hb => by
      by_cases hj : i = l
      · subst hj; exact ⟨o, h, hm⟩
      · rw [List.getElem?_set_ne hj] at hl; exact ⟨ob, hl, hb⟩
    obtain ⟨p1, q1, w1⟩ := back j o1 h1 m1
    obtain ⟨p2, q2, w2⟩ := back k o2 h2 m2
    exact r.inj j k b p1 p2 q1 q2 w1 w2 h3 h4

/-! ### an object that is tracked beside the store, and is taken into it later -/
theorem upd_self {H : Hp} {a : Addr} {o : HO} (h : H a = some o) : upd H a o = H := by
  funext b; unfold upd; split
  · rename_i e; rw [e, h]
  · rfl
theorem Ext.side {p : Addr} {u ho : HO} (e : Ext K as H as1 H1) (h0 : H p = none) (h1 : H1 p = some u) (hm : (∀ vs, u ≠ .tup vs) ∧ ∀ o w, u ≠ .frz o w) : Ext K as H as1 (upd H1 p ho) := by
  refine ⟨e.app, fun a o hn h => ?_, fun a vs h => sqT_upd (fun vs z => ?_) (fun o w z => ?_) (e.tup a vs h), fun a o w h => ?_⟩
  · rw [upd_ne (fun z => by rw [z, h0] at h; cases h)]; exact e.frm a o hn h
  · rw [h1] at z; cases z; exact hm.1 vs rfl
  · rw [h1] at z; cases z; exact hm.2 o w rfl
  · rw [upd_ne (fun z => by rw [z, h0] at h; cases h)]; exact e.frz a o w h
theorem Rel.side {p : Addr} {u ho : HO} (r : Rel K as st H) (hp : p ∉ as) (h1 : H p = some u) (hm : (∀ vs, u ≠ .tup vs) ∧ ∀ o w, u ≠ .frz o w) : Rel K as st (upd H p ho) := by
  have wk : Wk K as H as (upd H p ho) := ⟨fun _ _ h => h, fun a vs h => sqT_upd (fun vs z => by rw [h1] at z; cases z; exact hm.1 vs rfl) (fun o w z => by rw [h1] at z; cases z; exact hm.2 o w rfl) h, fun a o w h => by rw [upd_ne (fun z => by rw [z, h1] at h; cases h; exact hm.2 o w rfl)]; exact h⟩
  exact ⟨r.len, fun i o a h1 h2 => (r.at_ i o a h1 h2).mono wk fun u h _ => by rw [upd_ne (fun z => hp (by rw [← z]; exact List.mem_of_getElem? h2))]; exact h, r.inj⟩
theorem Wk.side {p : Addr} {u ho : HO} (h1 : H p = some u) (hm : (∀ vs, u ≠ .tup vs) ∧ ∀ o w, u ≠ .frz o w) : Wk K as H as (upd H p ho) :=
  ⟨fun _ _ h => h, fun a vs h => sqT_upd (fun vs z => by rw [h1] at z; cases z; exact hm.1 vs rfl) (fun o w z => by rw [h1] at z; cases z; exact hm.2 o w rfl) h, fun a o w h => by rw [upd_ne (fun z => by rw [z, h1] at h; cases h; exact hm.2 o w rfl)]; exact h⟩
theorem Ext.adopt {p : Addr} (e : Ext K as H as1 H1) (h0 : H p = none) : Ext K as H (as1 ++ [p]) H1 := by
  obtain ⟨l, rfl, hl⟩ := e.app
  refine ⟨⟨l ++ [p], by simp, fun a ha => ?_⟩, e.frm, e.tup, e.frz⟩
  rcases List.mem_append.mp ha with z | z
  · exact hl a z
  · simp at z; rw [z]; exact .inl h0
theorem Wk.snoc {p : Addr} : Wk K as H (as ++ [p]) H := ⟨fun i a h => by rw [List.getElem?_append_left (List.getElem?_eq_some_iff.mp h).1]; exact h, fun _ _ h => h, fun _ _ _ h => h⟩
theorem Rel.out (r : Rel K as st H) {p : Addr} (h : H p = none) : p ∉ as := fun hm => by
  obtain ⟨i, hi, e⟩ := List.getElem_of_mem hm
  have hi' : i < st.length := by rw [← r.len]; exact hi
  obtain ⟨u, hu, _⟩ := RO.some_of rfl (r.at_ i st[i] as[i] (List.getElem?_eq_getElem hi') (List.getElem?_eq_getElem hi))
  rw [e, h] at hu; cases hu
theorem Rel.adopt {p : Addr} {o : Ob} (r : Rel K as st H) (hp : p ∉ as) (new : RO K (as ++ [p]) H o p) : Rel K (as ++ [p]) (st ++ [o]) H := by
  refine ⟨by simp [r.len], fun i o' a h1 h2 => ?_, fun i j a o1 o2 h1 h2 m1 m2 h3 h4 => ?_⟩
  · rcases get_snoc h1 with h1 | ⟨rfl, rfl⟩
    · rcases get_snoc h2 with h2 | ⟨rfl, rfl⟩
      · exact (r.at_ i o' a h1 h2).mono Wk.snoc fun u h _ => h
      · have := (List.getElem?_eq_some_iff.mp h1).1
        rw [r.len] at this; omega
    · rw [← r.len] at h2
      rcases get_snoc h2 with h2 | ⟨_, rfl⟩
      · have := (List.getElem?_eq_some_iff.mp h2).1; omega
      · exact new
  · have old : ∀ (k : Nat) (b : Addr), as[k]? = some b → b ≠ p := fun k b hb z => hp (by rw [← z]; exact List.mem_of_getElem? hb)
    have l := r.len
    have lt : ∀ (k : Nat) (b : Addr), as[k]? = some b → k < as.length := fun k b hb => (List.getElem?_eq_some_iff.mp hb).1
    have lt2 : ∀ (k : Nat) (b : Ob), st[k]? = some b → k < st.length := fun k b hb => (List.getElem?_eq_some_iff.mp hb).1
    rcases get_snoc h3 with h3 | ⟨e3, f3⟩ <;> rcases get_snoc h4 with h4 | ⟨e4, f4⟩
    · rcases get_snoc h1 with h1 | ⟨e1, f1⟩ <;> rcases get_snoc h2 with h2 | ⟨e2, f2⟩
      · exact r.inj i j a o1 o2 h1 h2 m1 m2 h3 h4
      · have := lt j a h4; omega
      · have := lt i a h3; omega
      · omega
    · exact absurd f4.symm (old i a h3)
    · exact absurd f3.symm (old j a h4)
    · omega
end
end PL

set_option Elab.async false
set_option linter.all false
set_option maxRecDepth 100000
set_option maxHeartbeats 2000000
/-! PLU: a text and a dict are unlike. -/
namespace PySem.SeqAt
open MeetsSeq AutoSeq1
theorem dict_eq_declines_str (l : Addr) (es : Array DictEntry) (n : Nat) (dd : Option Addr) (sl : Array (Option Value)) (b : Str) (u : Tok) :
    Meets (Builtin.«dict.__eq__» ⟨[.ref l, .str b u], []⟩) (fun _ R s => s.heap.get? l = some { cls := .type "dict", dict := dd, data := .dict es n, slots := sl } ∧ R (.ok (.ret .notImplemented)) s) :=
  .of_wp fun prog w A R s h => by obtain ⟨hp, g, d, tk, os⟩ := s; obtain ⟨hl, h⟩ := h; have f1 := F.sub_str_dict; wp_walk using wpAny_loadPart' hl; exact ⟨_, rfl, h⟩
theorem str_eq_declines_dict (b : Str) (u : Tok) (l : Addr) (c : Value) (es : Array DictEntry) (n : Nat) (dd : Option Addr) (sl : Array (Option Value)) :
    Meets (Builtin.«str.__eq__» ⟨[.str b u, .ref l], []⟩) (fun _ R s => s.heap.get? l = some { cls := c, dict := dd, data := .dict es n, slots := sl } ∧ R (.ok (.ret .notImplemented)) s) :=
  .of_wp fun prog w A R s h => by obtain ⟨hp, g, d, tk, os⟩ := s; obtain ⟨hl, h⟩ := h; wp_walk using wpAny_loadPart' hl, wpAny_load hl; exact ⟨_, rfl, h⟩
theorem dict_ne_declines_str (l : Addr) (es : Array DictEntry) (n : Nat) (dd : Option Addr) (sl : Array (Option Value)) (b : Str) (u : Tok) :
    Meets (Builtin.«dict.__ne__» ⟨[.ref l, .str b u], []⟩) (fun _ R s => s.heap.get? l = some { cls := .type "dict", dict := dd, data := .dict es n, slots := sl } ∧ R (.ok (.ret .notImplemented)) s) :=
  .of_wp fun prog w A R s h => by obtain ⟨hp, g, d, tk, os⟩ := s; obtain ⟨hl, h⟩ := h; have f1 := F.sub_str_dict; wp_walk using wpAny_loadPart' hl; exact ⟨_, rfl, h⟩
theorem str_ne_declines_dict (b : Str) (u : Tok) (l : Addr) (c : Value) (es : Array DictEntry) (n : Nat) (dd : Option Addr) (sl : Array (Option Value)) :
    Meets (Builtin.«str.__ne__» ⟨[.str b u, .ref l], []⟩) (fun _ R s => s.heap.get? l = some { cls := c, dict := dd, data := .dict es n, slots := sl } ∧ R (.ok (.ret .notImplemented)) s) :=
  .of_wp fun prog w A R s h => by obtain ⟨hp, g, d, tk, os⟩ := s; obtain ⟨hl, h⟩ := h; wp_walk using wpAny_loadPart' hl, wpAny_load hl; exact ⟨_, rfl, h⟩
section
variable {A : Around} {s : Shared}
def DictAt (s : Shared) (l : Addr) : Prop := ∃ (o : Obj) (es : Array DictEntry) (n : Nat), s.heap.get? l = some o ∧ o.cls = .type "dict" ∧ o.data = .dict es n
theorem RcAt.str_dict {l : Addr} (b : Str) (u : Tok) (hl : DictAt s l) (hu : A.units < cLine) : RcAt A s (.str b u) (.ref l) false := fun prog w E Q h => by
  obtain ⟨⟨cls, dd, data, sl⟩, es, n, ho, hc, hd⟩ := hl
  simp only at hc hd
  subst hc hd
  exact rc_eq_decline_or (k := false) (typeIs_str s b u) ⟨_, ho, rfl⟩ (by decide) F.sub_dict_str F.slot_str_eq F.slot_dict_eq_refl
    (fun _ hq => call_meets F.slot_str_eq (typeIs_str s b u) F.entry_str_eq (F.args_str_eq_2 _ _) (str_eq_declines_dict b u l (.type "dict") es n dd sl) ⟨ho, hq⟩)
    (fun _ hq => call_meets F.slot_dict_eq_refl ⟨_, ho, rfl⟩ F.entry_dict_eq (F.args_dict_eq_2 _ _) (dict_eq_declines_str l es n dd sl b u) ⟨ho, hq⟩)
    (fun _ hq => wpAny_of_eq (rfl : isSame (.str b u) (.ref l) = pure false) hq) (.inr hu) h
theorem EqAt.str_dict {l : Addr} (b : Str) (u : Tok) (hl : DictAt s l) (hu : A.units < cLine) : EqAt A s (.str b u) (.ref l) false := fun prog w E Q h => by
  unfold eqBool
  refine wpAny_holding ?_
  refine wpAny_ite_split (fun hab => absurd (eq_of_beq hab) nofun) (fun _ => ?_)
  exact wpAny_bind (RcAt.str_dict b u hl hu prog w E _ (wpAny_truthy_bool h))
theorem ne_str_dict {prog : Program} {w : World} {E Q : Value → Shared → Prop} {l : Addr} (b : Str) (u : Tok) (hl : DictAt s l) (hu : A.units < cLine) (h : Q (.bool true) s) : wpAny (model prog w) A (richCompare .NotEq (.str b u) (.ref l)) Q E s := by
  obtain ⟨⟨cls, dd, data, sl⟩, es, n, ho, hc, hd⟩ := hl
  simp only at hc hd
  subst hc hd
  exact rc_ne_decline_or (k := false) (typeIs_str s b u) ⟨_, ho, rfl⟩ (by decide) F.sub_dict_str F.slot_str_ne F.slot_dict_ne_refl
    (fun _ hq => call_meets F.slot_str_ne (typeIs_str s b u) F.entry_str_ne (F.args_str_ne_2 _ _) (str_ne_declines_dict b u l (.type "dict") es n dd sl) ⟨ho, hq⟩)
    (fun _ hq => call_meets F.slot_dict_ne_refl ⟨_, ho, rfl⟩ F.entry_dict_ne (F.args_dict_ne_2 _ _) (dict_ne_declines_str l es n dd sl b u) ⟨ho, hq⟩)
    (fun _ hq => wpAny_of_eq (rfl : isSame (.str b u) (.ref l) = pure false) hq) (.inr hu) h
end
end PySem.SeqAt
namespace PL
open PySem PySem.Spec PyProof.Rows L2
section
variable {X : Cx}
theorem tuple_mul1 (l : Addr) (items : Array Value) (n : Nat) (dd : Option Addr) (sl : Array (Option Value)) (u : Tok) :
    Meets (Builtin.«tuple.__mul__» ⟨[.ref l, .int 1 u], []⟩) (fun _ R s => s.heap.get? l = some { cls := .type "tuple", dict := dd, data := .seq items n, slots := sl } ∧ R (.ok (.ret (Value.ref l))) s) :=
  .of_wp fun prog w A R s h => by
    obtain ⟨hp, g, d, tk, os⟩ := s
    obtain ⟨hl, h⟩ := h
    have f1 := AutoSeq1.idx_int
    wp_walk using wpAny_loadPart' hl
    exact ⟨_, rfl, h⟩
/-- a tuple once: the tuple itself -/
theorem op_rep1 : OpR X (binaryOp .Mult) (fun x y H Q => ∃ l xs, x = .ref l ∧ y = .int 1 ∧ SqT X.K H l xs ∧ Q (.ref l) H) := by
  intro pins s σ H x y v u Q I rx ry h
  obtain ⟨l, xs, rfl, rfl, hT, q⟩ := h
  cases rx
  obtain ⟨t, rfl⟩ := ry
  obtain ⟨its, r, ⟨⟨cls, dd, data, sl⟩, ho, hc, n, hd⟩, hs⟩ := I.tuple hT
  simp only at hc hd
  subst hc hd
  refine wpAny_binaryOp_repeat_ref (T := "tuple") (U := "int") (by decide) ⟨_, ho, rfl⟩ (fun s' => typeIs_int s' 1 t) noFill_tuple_mul F.fills_int_mul F.slot_int_rmul repeat_tuple F.slot_int_index.lookup
    (call_meets F.slot_int_rmul (typeIs_int s 1 t) F.entry_int_rmul (F.args_int_rmul_2 _ _) (int_rmul_tuple 1 t l its.toArray n dd sl) ⟨ho, rfl, ⟨_, ho, rfl⟩, ?_⟩)
  exact call_meets F.slot_tuple_mul ⟨_, ho, rfl⟩ F.entry_tuple_mul (F.args_tuple_mul_2 _ _) (tuple_mul1 l its.toArray n dd sl t) ⟨ho, .ref l, H, I, rfl, q⟩
end
end PL

set_option Elab.async false
set_option linter.all false
set_option maxRecDepth 100000
set_option maxHeartbeats 1000000
/-! PLC: what operations of the layer come to, by data. -/
namespace PL
open PySem PySem.Spec PyProof.Rows L2

/-- whatever the result is, P holds of it behind -/
def Good {α : Type} (K : PySem.W.Frag) (P : α → List Addr → Hp → Prop) (as : List Addr) (H : Hp) : Res α → Prop
  | .ok a st' => ∀ as' H', Ext K as H as' H' → Rel K as' st' H' → P a as' H'
  | _ => False
abbrev PE' (K : PySem.W.Frag) (Q : VK) : D → List Addr → Hp → Prop := fun d as' H' => ∀ v, RV K as' H' d v → Q v H'
abbrev PL' (K : PySem.W.Frag) (Q : List V → Hp → Prop) : List D → List Addr → Hp → Prop := fun ds as' H' => ∀ vs, RVs K as' H' ds vs → Q vs H'
abbrev GE (K : PySem.W.Frag) (Q : VK) (as : List Addr) (H : Hp) (r : Res D) : Prop := Good K (PE' K Q) as H r
section
variable {α β : Type} {K : PySem.W.Frag} {as as1 as' : List Addr} {H H1 H' : Hp} {st st1 : Sto}
theorem Good.imp {P P' : α → List Addr → Hp → Prop} {r : Res α} (h : Good K P as H r) (f : ∀ a as' H', Ext K as H as' H' → P a as' H' → P' a as' H') : Good K P' as H r := by
  cases r with
  | ok a st' => exact fun as' H' e r => f a as' H' e (h as' H' e r)
  | exc _ _ _ => exact h
  | bad => exact h
theorem Good.mono {P : α → List Addr → Hp → Prop} {r : Res α} (h : Good K P as H r) (e : Ext K as H as1 H1) : Good K P as1 H1 r := by
  cases r with
  | ok a st' => exact fun as' H' e' r => h as' H' (e.trans e') r
  | exc _ _ _ => exact h
  | bad => exact h
theorem Good.bind {P : β → List Addr → Hp → Prop} {r : Res α} {k : α → Sto → Res β} (h : Good K P as H (r.bind k)) :
    Good K (fun a as1 H1 => ∃ st1, Ext K as H as1 H1 ∧ Rel K as1 st1 H1 ∧ Good K P as1 H1 (k a st1)) as H r := by
  cases r with
  | ok a st' => exact fun as1 H1 e r => ⟨st', e, r, Good.mono (r := k a st') h e⟩
  | exc _ _ _ => exact h
  | bad => exact h
theorem Good.eq {P : α → List Addr → Hp → Prop} {r : Res α} (h : Good K P as H r) : Good K (fun a as1 H1 => ∃ st1, r = .ok a st1 ∧ Ext K as H as1 H1 ∧ Rel K as1 st1 H1 ∧ P a as1 H1) as H r := by
  cases r with
  | ok a st' => exact fun as1 H1 e r => ⟨st', rfl, e, r, h as1 H1 e r⟩
  | exc _ _ _ => exact h
  | bad => exact h
/-- the result is at hand -/
theorem Good.here {P : α → List Addr → Hp → Prop} {a : α} (h : Good K P as H (.ok a st)) (r : Rel K as st H) : P a as H := h as H Ext.refl r
theorem Good.lift {P : α → List Addr → Hp → Prop} {o : Option α} (h : Good K P as H (liftO o st)) : ∃ a, o = some a ∧ Good K P as H (.ok a st) := by
  cases o with
  | some a => exact ⟨a, rfl, h⟩
  | none => exact h.elim
/-- a new list is at hand -/
theorem GE.newL {Q : VK} {ds : List D} {vs : List V} (h : GE K Q as H (.ok (.ref st.length) (st ++ [.lst ds]))) (r : Rel K as st H) (rv : RVs K as H ds vs) :
    ∀ p, H p = none → Q (.ref p) (upd H p (.lst vs)) := fun p hp => by
  have e : Ext K as H (as ++ [p]) (upd H p (.lst vs)) := Ext.push hp
  refine h _ _ e (r.push hp ⟨vs, upd_same, RVs.mono e _ _ rv⟩) _ ⟨p, rfl, ?_⟩
  rw [List.getElem?_append_right (by rw [r.len]; exact Nat.le_refl _), r.len]; simp
theorem GE.newT {Q : VK} {ds : List D} {vs : List V} (h : GE K Q as H (.ok (.tup ds) st)) (r : Rel K as st H) (rv : RVs K as H ds vs) :
    ∀ p, H p = none → Q (.ref p) (upd H p (.tup vs)) := fun p hp =>
  have e : Ext K as H as (upd H p (.tup vs)) := Ext.laid hp
  h _ _ e (r.laid hp) _ ⟨p, vs, rfl, SqT.of upd_same, RVs.mono e _ _ rv⟩
theorem rv_ref {n : Nat} {v : V} {o : Ob} (r : Rel K as st H) (h : st[n]? = some o) (hv : RV K as H (.ref n) v) : ∃ a, v = .ref a ∧ as[n]? = some a ∧ RO K as H o a := r.of_ref h hv
/-- a list of the store, or the script -/
theorem ro_seq {o : Ob} {a : Addr} {xs : List D} (h : RO K as H o a) (ho : o = .lst xs) : ∃ vs, SqL K H a vs ∧ RVs K as H xs vs := by
  subst ho
  obtain ⟨vs, h1, h2⟩ := h; exact ⟨vs, SqL.of h1, h2⟩
end

/-! ### data read by the library -/
section
variable {X : Cx} {pins : List (Addr × Obj)} {σ : L2.St} {H : Hp} {s : Shared} {as : List Addr} {st : Sto}
theorem depthAll_le {n : Nat} : ∀ {ps : List PyData}, (∀ p ∈ ps, p.depth ≤ n) → PyData.depthAll ps ≤ n
  | [], _ => Nat.zero_le _
  | p :: ps, h => by
    rw [PyData.depthAll]
    exact Nat.max_le.mpr ⟨h p List.mem_cons_self, depthAll_le fun q hq => h q (List.mem_cons_of_mem _ hq)⟩
theorem readsAll_of {n : Nat} (ih : ∀ (d : D) (p : PyData) (v : V) (u : Value), toPy st n d = some p → RV X.K as H d v → RelV v u → (∃ bs, Reads s.heap u p bs) ∧ p.depth ≤ n) :
    ∀ (ds : List D) (ps : List PyData) (vs : List V) (us : List Value), optMap (toPy st n) ds = some ps → RVs X.K as H ds vs → Vals vs us → (∃ bs, ReadsAll s.heap us ps bs) ∧ ∀ p ∈ ps, p.depth ≤ n
  | [], _, _, _, h, hv, hu => by
    cases h
    have hv : _ = [] := hv
    subst hv
    cases hu
    exact ⟨⟨_, .nil⟩, by simp⟩
  | d :: ds, ps, vs, us, h, hv, hu => by
    obtain ⟨v, vs', rfl, h1, h2⟩ := hv
    cases hu with
    | cons r1 r2 =>
      unfold optMap at h
      cases e1 : toPy st n d with
      | none => rw [e1] at h; cases h
      | some p =>
        rw [e1] at h
        cases e2 : optMap (toPy st n) ds with
        | none => rw [e2] at h; cases h
        | some r =>
          rw [e2] at h
          cases h
          obtain ⟨⟨b1, q1⟩, q2⟩ := ih d p v _ e1 h1 r1
          obtain ⟨⟨b2, q3⟩, q4⟩ := readsAll_of ih ds r vs' _ e2 h2 r2
          exact ⟨⟨_, .cons q1 q3⟩, fun z hz => by
            rcases List.mem_cons.mp hz with rfl | hz
            · exact q2
            · exact q4 z hz⟩
theorem reads_of (I : Inv X pins σ H s) (rel : Rel X.K as st H) : ∀ (n : Nat) (d : D) (p : PyData) (v : V) (u : Value), toPy st n d = some p → RV X.K as H d v → RelV v u → (∃ bs, Reads s.heap u p bs) ∧ p.depth ≤ n := by
  intro n
  induction n with
  | zero =>
    intro d p v u h hv hu
    cases d <;> simp only [toPy] at h <;> first | (cases h; done) | skip
    all_goals (cases h; have hv : v = _ := hv; subst hv)
    · cases hu; exact ⟨⟨_, .none⟩, Nat.le_refl _⟩
    · cases hu; exact ⟨⟨_, .bool _⟩, Nat.le_refl _⟩
    · obtain ⟨t, rfl⟩ := hu; exact ⟨⟨_, .int _ _⟩, Nat.le_refl _⟩
    · obtain ⟨t, rfl⟩ := hu; exact ⟨⟨_, .str _ _⟩, Nat.le_refl _⟩
  | succ n ih =>
    intro d p v u h hv hu
    cases d with
    | non => cases h; have hv : v = _ := hv; subst hv; cases hu; exact ⟨⟨_, .none⟩, Nat.zero_le _⟩
    | bl b => cases h; have hv : v = _ := hv; subst hv; cases hu; exact ⟨⟨_, .bool _⟩, Nat.zero_le _⟩
    | int i => cases h; have hv : v = _ := hv; subst hv; obtain ⟨t, rfl⟩ := hu; exact ⟨⟨_, .int _ _⟩, Nat.zero_le _⟩
    | str x => cases h; have hv : v = _ := hv; subst hv; obtain ⟨t, rfl⟩ := hu; exact ⟨⟨_, .str _ _⟩, Nat.zero_le _⟩
    | rep _ => simp [toPy] at h
    | tup xs =>
      simp only [toPy] at h
      obtain ⟨ps, e, rfl⟩ := Option.map_eq_some_iff.mp h
      obtain ⟨a, vs, rfl, ht, hs⟩ := hv
      cases hu
      obtain ⟨its, rv, ⟨o, h1, h2, nn, h3⟩, _⟩ := I.tuple ht
      obtain ⟨⟨bs, q⟩, dq⟩ := readsAll_of ih xs ps vs its e hs rv
      refine ⟨⟨_, .tuple h1 h2 h3 q⟩, ?_⟩
      rw [PyData.depth]
      exact Nat.succ_le_succ (depthAll_le dq)
    | ent ts =>
      simp only [toPy] at h
      cases h
      have e := py_ent (st := st) (n := n) ts
      obtain ⟨a, vs, rfl, ht, hs⟩ := rv_ent hv
      cases hu
      obtain ⟨its, rv, ⟨o, h1, h2, nn, h3⟩, _⟩ := I.tuple ht
      obtain ⟨⟨bs, q⟩, dq⟩ := readsAll_of ih _ _ vs its e hs rv
      refine ⟨⟨_, .tuple h1 h2 h3 q⟩, ?_⟩
      rw [PyData.depth]
      exact Nat.succ_le_succ (depthAll_le dq)
    | scr xs =>
      simp only [toPy] at h
      obtain ⟨ps, e, rfl⟩ := Option.map_eq_some_iff.mp h
      obtain ⟨a, vs, rfl, hl, hs⟩ := hv
      cases hu
      obtain ⟨its, rv, ⟨o, nn, h1, h2, _, h3⟩, _⟩ := I.list hl.l
      obtain ⟨⟨bs, q⟩, dq⟩ := readsAll_of ih xs ps vs its e hs rv
      refine ⟨⟨_, .list h1 h2 h3 q⟩, ?_⟩
      rw [PyData.depth]
      exact Nat.succ_le_succ (depthAll_le dq)
    | ref r =>
      simp only [toPy] at h
      split at h
      · rename_i xs ho
        obtain ⟨ps, e, rfl⟩ := Option.map_eq_some_iff.mp h
        obtain ⟨a, rfl, _, hro⟩ := rv_ref rel ho hv
        cases hu
        obtain ⟨vs, hl, hs⟩ := ro_seq hro rfl
        obtain ⟨its, rv, ⟨o, nn, h1, h2, _, h3⟩, _⟩ := I.list hl
        obtain ⟨⟨bs, q⟩, dq⟩ := readsAll_of ih xs ps vs its e hs rv
        refine ⟨⟨_, .list h1 h2 h3 q⟩, ?_⟩
        rw [PyData.depth]
        exact Nat.succ_le_succ (depthAll_le dq)
      · cases h
end

/-! ### data read for repr: dicts too -/
/-- the sys.modules are a dict -/
def sysB (K : PySem.W.Frag) : Bool := match K.lookup sysModules with
  | some ⟨.type c, _, _, _⟩ => decide (c = "dict")
  | _ => false
theorem sysB_ok {K : PySem.W.Frag} (h : sysB K = true) : ∃ o, K.lookup sysModules = some o ∧ o.cls = .type "dict" := by
  unfold sysB at h
  split at h
  · rename_i c _ _ _ e
    exact ⟨_, e, congrArg Value.type (of_decide_eq_true h)⟩
  · cases h
section
variable {X : Cx} {pins : List (Addr × Obj)} {σ : L2.St} {H : Hp} {s : Shared} {as : List Addr} {st : Sto}
theorem no_sys (hs : sysB X.K = true) (I : Inv X pins σ H s) {a : Addr} {o : Obj} (h : s.heap.get? a = some o) (hc : o.cls = .type "list") : sysModules ≠ a := by
  intro z
  subst z
  obtain ⟨o', e, c⟩ := sysB_ok hs
  have e2 := I.kIn _ _ e
  rw [h] at e2
  cases e2
  rw [hc] at c
  exact absurd c (by decide)
def RdR (h : Heap) (u : Value) (p : PyData) : Prop := ∃ bs, Reads h u p bs ∧ sysModules ∉ bs
def RdsR (h : Heap) (us : List Value) (ps : List PyData) : Prop := ∃ bs, ReadsAll h us ps bs ∧ sysModules ∉ bs
theorem RdsR.nil {h : Heap} : RdsR h [] [] := ⟨_, .nil, by simp⟩
theorem RdsR.cons {h : Heap} {u : Value} {us : List Value} {p : PyData} {ps : List PyData} (a : RdR h u p) (b : RdsR h us ps) : RdsR h (u :: us) (p :: ps) := by
  obtain ⟨x, a1, a2⟩ := a
  obtain ⟨y, b1, b2⟩ := b
  exact ⟨_, .cons a1 b1, by rw [List.mem_append]; exact fun z => z.elim a2 b2⟩
theorem readsAllR_of {n : Nat} (ih : ∀ (d : D) (p : PyData) (v : V) (u : Value), toPyR st n d = some p → RV X.K as H d v → RelV v u → RdR s.heap u p ∧ p.depth ≤ n) :
    ∀ (ds : List D) (ps : List PyData) (vs : List V) (us : List Value), optMap (toPyR st n) ds = some ps → RVs X.K as H ds vs → Vals vs us → RdsR s.heap us ps ∧ (∀ p ∈ ps, p.depth ≤ n) ∧ ps.length = ds.length
  | [], _, _, _, h, hv, hu => by
    cases h
    have hv : _ = [] := hv
    subst hv
    cases hu
    exact ⟨.nil, by simp, rfl⟩
  | d :: ds, ps, vs, us, h, hv, hu => by
    obtain ⟨v, vs', rfl, h1, h2⟩ := hv
    cases hu with
    | cons r1 r2 =>
      unfold optMap at h
      cases e1 : toPyR st n d with
      | none => rw [e1] at h; cases h
      | some p =>
        rw [e1] at h
        cases e2 : optMap (toPyR st n) ds with
        | none => rw [e2] at h; cases h
        | some r =>
          rw [e2] at h
          cases h
          obtain ⟨q1, q2⟩ := ih d p v _ e1 h1 r1
          obtain ⟨q3, q4, q5⟩ := readsAllR_of ih ds r vs' _ e2 h2 r2
          refine ⟨.cons q1 q3, fun z hz => ?_, by simp [q5]⟩
          rcases List.mem_cons.mp hz with rfl | hz
          · exact q2
          · exact q4 z hz
theorem key_reads {h : Heap} {k : Key} {u : Value} (e : keyIs k u = true) : RdR h u (keyPy k) ∧ (keyPy k).depth = 0 := by
  rcases keyIs_shape e with ⟨i, t, rfl, rfl⟩ | ⟨x, t, rfl, rfl⟩
  · exact ⟨⟨_, .int _ _, by simp⟩, rfl⟩
  · exact ⟨⟨_, .str _ _, by simp⟩, rfl⟩
/-- a dict's entries: their keys, their values -/
theorem entries_of {P : Program} {w : World} : ∀ {kvs : List (Key × D)} {vs : List (Key × V)} {us : List (Key × Value)} {es : List DictEntry}, RKV X.K as H kvs vs → KV vs us → Pairs (mixKind P w) es us →
    RdsR s.heap (es.map (·.key)) (kvs.map fun kv => keyPy kv.1) ∧ ∃ ws, RVs X.K as H (kvs.map (·.2)) ws ∧ Vals ws (es.map (·.val))
  | [], _, _, _, r, k, p => by
    have r : _ = [] := r
    subst r
    cases k
    cases p
    exact ⟨.nil, [], rfl, .nil⟩
  | kv :: kvs, _, _, _, r, k, p => by
    obtain ⟨v, vs', rfl, r1, r2⟩ := r
    cases k with
    | cons k1 k2 =>
      cases p with
      | cons p1 p2 p3 =>
        obtain ⟨q1, ws, q2, q3⟩ := entries_of r2 k2 p3
        obtain ⟨k3, k4⟩ := k1
        refine ⟨.cons (key_reads (by rw [k3]; exact p1)).1 q1, v :: ws, ⟨v, ws, rfl, r1, q2⟩, .cons ?_ q3⟩
        have k5 : RelV v _ := k4
        rw [← p2] at k5
        exact k5
theorem depthKv_le {n : Nat} : ∀ {ks : List PyData} {ps : List PyData}, (∀ p ∈ ks, p.depth ≤ n) → (∀ p ∈ ps, p.depth ≤ n) → PyData.depthKv (ks.zip ps) ≤ n
  | [], _, _, _ => Nat.zero_le _
  | _ :: _, [], _, _ => Nat.zero_le _
  | k :: ks, p :: ps, h, h' => by
    rw [List.zip_cons_cons, PyData.depthKv]
    have h1 := h k List.mem_cons_self
    have h2 := h' p List.mem_cons_self
    have h3 := depthKv_le (ks := ks) (ps := ps) (fun q hq => h q (List.mem_cons_of_mem _ hq)) fun q hq => h' q (List.mem_cons_of_mem _ hq)
    omega
theorem readsR_of (hs : sysB X.K = true) (I : Inv X pins σ H s) (rel : Rel X.K as st H) : ∀ (n : Nat) (d : D) (p : PyData) (v : V) (u : Value), toPyR st n d = some p → RV X.K as H d v → RelV v u → RdR s.heap u p ∧ p.depth ≤ n := by
  intro n
  induction n with
  | zero =>
    intro d p v u h hv hu
    cases d <;> simp only [toPyR] at h <;> first | (cases h; done) | skip
    all_goals (cases h; have hv : v = _ := hv; subst hv)
    · cases hu; exact ⟨⟨_, .none, by simp⟩, Nat.le_refl _⟩
    · cases hu; exact ⟨⟨_, .bool _, by simp⟩, Nat.le_refl _⟩
    · obtain ⟨t, rfl⟩ := hu; exact ⟨⟨_, .int _ _, by simp⟩, Nat.le_refl _⟩
    · obtain ⟨t, rfl⟩ := hu; exact ⟨⟨_, .str _ _, by simp⟩, Nat.le_refl _⟩
  | succ n ih =>
    intro d p v u h hv hu
    cases d with
    | non => cases h; have hv : v = _ := hv; subst hv; cases hu; exact ⟨⟨_, .none, by simp⟩, Nat.zero_le _⟩
    | bl b => cases h; have hv : v = _ := hv; subst hv; cases hu; exact ⟨⟨_, .bool _, by simp⟩, Nat.zero_le _⟩
    | int i => cases h; have hv : v = _ := hv; subst hv; obtain ⟨t, rfl⟩ := hu; exact ⟨⟨_, .int _ _, by simp⟩, Nat.zero_le _⟩
    | str x => cases h; have hv : v = _ := hv; subst hv; obtain ⟨t, rfl⟩ := hu; exact ⟨⟨_, .str _ _, by simp⟩, Nat.zero_le _⟩
    | rep _ => simp [toPyR] at h
    | tup xs =>
      simp only [toPyR] at h
      obtain ⟨ps, e, rfl⟩ := Option.map_eq_some_iff.mp h
      obtain ⟨a, vs, rfl, ht, hs⟩ := hv
      cases hu
      obtain ⟨its, rv, ⟨o, h1, h2, nn, h3⟩, _⟩ := I.tuple ht
      obtain ⟨⟨bs, q, qs⟩, dq, _⟩ := readsAllR_of ih xs ps vs its e hs rv
      refine ⟨⟨_, .tuple h1 h2 h3 q, qs⟩, ?_⟩
      rw [PyData.depth]
      exact Nat.succ_le_succ (depthAll_le dq)
    | ent ts =>
      simp only [toPyR] at h
      cases h
      have e := pyR_ent (st := st) (n := n) ts
      obtain ⟨a, vs, rfl, ht, hs⟩ := rv_ent hv
      cases hu
      obtain ⟨its, rv, ⟨o, h1, h2, nn, h3⟩, _⟩ := I.tuple ht
      obtain ⟨⟨bs, q, qs⟩, dq, _⟩ := readsAllR_of ih _ _ vs its e hs rv
      refine ⟨⟨_, .tuple h1 h2 h3 q, qs⟩, ?_⟩
      rw [PyData.depth]
      exact Nat.succ_le_succ (depthAll_le dq)
    | scr xs =>
      simp only [toPyR] at h
      obtain ⟨ps, e, rfl⟩ := Option.map_eq_some_iff.mp h
      obtain ⟨a, vs, rfl, hl, hs'⟩ := hv
      cases hu
      obtain ⟨its, rv, ⟨o, nn, h1, h2, _, h3⟩, _⟩ := I.list hl.l
      obtain ⟨⟨bs, q, qs⟩, dq, _⟩ := readsAllR_of ih xs ps vs its e hs' rv
      refine ⟨⟨_, .list h1 h2 h3 q, by rw [List.mem_cons]; exact fun z => z.elim (no_sys hs I h1 h2) qs⟩, ?_⟩
      rw [PyData.depth]
      exact Nat.succ_le_succ (depthAll_le dq)
    | ref r =>
      simp only [toPyR] at h
      split at h
      · rename_i xs ho
        obtain ⟨ps, e, rfl⟩ := Option.map_eq_some_iff.mp h
        obtain ⟨a, rfl, _, hro⟩ := rv_ref rel ho hv
        cases hu
        obtain ⟨vs, hl, hs'⟩ := ro_seq hro rfl
        obtain ⟨its, rv, ⟨o, nn, h1, h2, _, h3⟩, _⟩ := I.list hl
        obtain ⟨⟨bs, q, qs⟩, dq, _⟩ := readsAllR_of ih xs ps vs its e hs' rv
        refine ⟨⟨_, .list h1 h2 h3 q, by rw [List.mem_cons]; exact fun z => z.elim (no_sys hs I h1 h2) qs⟩, ?_⟩
        rw [PyData.depth]
        exact Nat.succ_le_succ (depthAll_le dq)
      · rename_i kvs ho
        obtain ⟨ps, e, rfl⟩ := Option.map_eq_some_iff.mp h
        obtain ⟨a, rfl, _, hro⟩ := rv_ref rel ho hv
        cases hu
        obtain ⟨vs, hl, hs'⟩ := hro
        obtain ⟨_, hsys, us, kv, o, es, ep, h1, h2, h3, _, h4, _⟩ := I.hok a _ hl
        obtain ⟨⟨b1, q1, s1⟩, ws, r1, r2⟩ := entries_of (s := s) hs' kv h4
        obtain ⟨⟨b2, q2, s2⟩, dq, dl⟩ := readsAllR_of ih _ ps ws _ e r1 r2
        have hl2 : (kvs.map fun kv => keyPy kv.1).length = ps.length := by rw [dl, List.length_map, List.length_map]
        refine ⟨⟨_, .dict h1 h2.1 h3 (by rw [List.map_fst_zip (by omega)]; exact q1) (by rw [List.map_snd_zip (by omega)]; exact q2), ?_⟩, ?_⟩
        · have : sysModules ≠ a := fun z => (beq_eq_false_iff_ne.mp hsys) z.symm
          simp only [List.cons_append, List.mem_cons, List.mem_append, not_or]
          exact ⟨this, s1, s2⟩
        · rw [PyData.depth]
          refine Nat.succ_le_succ (depthKv_le (fun q hq => ?_) dq)
          obtain ⟨kv, _, rfl⟩ := List.mem_map.mp hq
          cases kv.1 <;> exact Nat.zero_le _
      · cases h
end
/-! ### texts of data -/
theorem str_len_append (a b : Str) : (a ++ b).length = a.length + b.length := strLen_append a b
theorem join_len (sep : Str) (n : Nat) (hn : sep.length ≤ n) : ∀ ts : List Str, (Str.join sep ts).length ≤ (ts.map fun t => t.length + n).sum
  | [] => by show Str.empty.length ≤ _; exact Nat.zero_le _
  | [x] => by show x.length ≤ _; simp
  | x :: y :: r => by
    have ih := join_len sep n hn (y :: r)
    have e : Str.join sep (x :: y :: r) = x ++ sep ++ Str.join sep (y :: r) := rfl
    rw [e, str_len_append, str_len_append, List.map_cons, List.sum_cons]
    omega
theorem costAll_eq : ∀ xs : List PyData, showCost.costAll xs = (xs.map fun x => showCost x + 2).sum
  | [] => by simp [showCost.costAll]
  | x :: xs => by rw [showCost.costAll, costAll_eq xs, List.map_cons, List.sum_cons]
mutual
theorem shown_len : ∀ d : PyData, layD d = true → d.shown.length ≤ showCost d
  | .none, _ => by rw [PyData.shown_none]; decide
  | .bool b, _ => by rw [PyData.shown_bool]; cases b <;> decide
  | .int i, _ => by
    rw [PyData.shown_int, showCost]
    have := int_text_length_le (a := i) (k := i.natAbs.log2 + 1) (Nat.succ_pos _) (Nat.lt_succ_self _)
    have e : ((toString i : String) : Str).length = (toString i).length := by
      exact PySem.ofString_length _
    rw [e]; exact this
  | .str x, h => by
    rw [PyData.shown_str, showCost]
    refine StrLaws.reprText_len x fun c hc => ?_
    have h' : PyData.strOk x = true := by rw [layD, PyData.canLay0] at h; exact h
    unfold PyData.strOk at h'
    rw [Array.all_eq_true_iff_forall_mem] at h'
    have := h' c (by simpa using hc)
    have : c < 0x110000 := by simpa using this
    omega
  | .list xs, h => by
    have ih := shownAll_len xs (by rw [layD] at h; exact h)
    rw [PyData.shown_list, showCost, costAll_eq, str_len_append, str_len_append]
    have := join_len ", " 2 (by decide) (PyData.shownAll xs)
    have e1 : ("[" : Str).length = 1 := by decide
    have e2 : ("]" : Str).length = 1 := by decide
    omega
  | .tuple xs, h => by
    have ih := shownAll_len xs (by rw [layD] at h; exact h)
    rw [PyData.shown_tuple, showCost, costAll_eq, str_len_append, str_len_append]
    have := join_len ", " 2 (by decide) (PyData.shownAll xs)
    have e1 : ("(" : Str).length = 1 := by decide
    have e2 : ((if xs.length == 1 then ",)" else ")" : String) : Str).length ≤ 2 := by split <;> decide
    omega
  | .dict kvs, h => by
    have ih := shownKv_len kvs (by rw [layD] at h; exact h)
    rw [PyData.shown_dict, showCost, str_len_append, str_len_append]
    have := join_len ", " 2 (by decide) (PyData.shownKv kvs)
    have e1 : ("{" : Str).length = 1 := by decide
    have e2 : ("}" : Str).length = 1 := by decide
    omega
theorem shownAll_len : ∀ xs : List PyData, layDs xs = true → ((PyData.shownAll xs).map fun t => t.length + 2).sum ≤ (xs.map fun x => showCost x + 2).sum
  | [], _ => by rw [PyData.shownAll_nil]; simp
  | x :: xs, h => by
    have h' : layD x = true ∧ layDs xs = true := by rw [layDs, Bool.and_eq_true] at h; exact h
    rw [PyData.shownAll_cons, List.map_cons, List.map_cons, List.sum_cons, List.sum_cons]
    have := shown_len x h'.1
    have := shownAll_len xs h'.2
    omega
theorem shownKv_len : ∀ xs : List (PyData × PyData), layKv xs = true → ((PyData.shownKv xs).map fun t => t.length + 2).sum ≤ showCost.costKv xs
  | [], _ => by rw [PyData.shownKv_nil]; simp
  | (k, v) :: xs, h => by
    have h' : (layD k = true ∧ layD v = true) ∧ layKv xs = true := by rw [layKv, Bool.and_eq_true, Bool.and_eq_true] at h; exact h
    rw [PyData.shownKv_cons, List.map_cons, List.sum_cons, showCost.costKv, str_len_append, str_len_append]
    have := shown_len k h'.1.1
    have := shown_len v h'.1.2
    have := shownKv_len xs h'.2
    have e2 : (": " : Str).length = 2 := by decide
    omega
end
mutual
theorem same_eq : ∀ a b : PyData, same a b = true → a = b
  | .none, b, h => by cases b <;> simp [same] at h <;> rfl
  | .bool x, b, h => by cases b <;> simp [same] at h; rw [h]
  | .int x, b, h => by cases b <;> simp [same] at h; rw [h]
  | .str x, b, h => by cases b <;> simp [same] at h; rw [h]
  | .list x, b, h => by cases b <;> simp [same] at h; rw [sameAll_eq x _ h]
  | .tuple x, b, h => by cases b <;> simp [same] at h; rw [sameAll_eq x _ h]
  | .dict x, b, h => by cases b <;> simp [same] at h; rw [sameKv_eq x _ h]
theorem sameAll_eq : ∀ a b : List PyData, sameAll a b = true → a = b
  | [], b, h => by cases b <;> simp [sameAll] at h; rfl
  | x :: xs, b, h => by
    cases b with
    | nil => simp [sameAll] at h
    | cons y ys =>
      have h' : same x y = true ∧ sameAll xs ys = true := by simpa [sameAll] using h
      rw [same_eq x y h'.1, sameAll_eq xs ys h'.2]
theorem sameKv_eq : ∀ a b : List (PyData × PyData), sameKv a b = true → a = b
  | [], b, h => by cases b <;> simp [sameKv] at h; rfl
  | (k, v) :: xs, b, h => by
    cases b with
    | nil => simp [sameKv] at h
    | cons y ys =>
      obtain ⟨k', v'⟩ := y
      have h' : (same k k' = true ∧ same v v' = true) ∧ sameKv xs ys = true := by rw [sameKv, Bool.and_eq_true, Bool.and_eq_true] at h; exact h
      rw [same_eq k k' h'.1.1, same_eq v v' h'.1.2, sameKv_eq xs ys h'.2]
end

/-! ### binary operators -/
def Bop.op : Bop → Operator
  | .add => .Add | .sub => .Sub | .mul => .Mult | .fdiv => .FloorDiv | .md => .Mod | .pow => .Pow
def rU2 (K : PySem.W.Frag) (f : D → D → Sto → Res D) : R2 := fun v u H Q => ∃ as st x y, Rel K as st H ∧ RV K as H x v ∧ RV K as H y u ∧ GE K Q as H (f x y st)
section
variable {X : Cx}
theorem lst_of {K : PySem.W.Frag} {as : List Addr} {H : Hp} {st : Sto} {n : Nat} {v : V} {xs : List D} (r : Rel K as st H) (h : st[n]? = some (.lst xs)) (hv : RV K as H (.ref n) v) :
    ∃ a vs, v = .ref a ∧ as[n]? = some a ∧ H a = some (.lst vs) ∧ RVs K as H xs vs := by
  obtain ⟨a, rfl, ha, vs, h1, h2⟩ := r.of_ref h hv
  exact ⟨a, vs, rfl, ha, h1, h2⟩
theorem cmul_of {i j : Int} (h : (small64 i || small64 j) = true) : CMul i j := by
  simp only [small64, Bool.or_eq_true, Bool.and_eq_true, decide_eq_true_eq] at h
  exact h
theorem op_bin (op : Bop) : OpR X (binaryOp op.op) (rU2 X.K (binD op)) := by
  intro pins s σ H v u vv uu Q I rv ru h
  obtain ⟨as, st, x, y, rel, rx, ry, g⟩ := h
  unfold binD at g
  split at g
  · have rx : v = _ := rx; have ry : u = _ := ry; subst rx; subst ry
    exact op_add pins s σ H _ _ _ _ Q I rv ru ⟨_, _, rfl, rfl, g.here rel _ rfl⟩
  · have rx : v = _ := rx; have ry : u = _ := ry; subst rx; subst ry
    exact op_sub pins s σ H _ _ _ _ Q I rv ru ⟨_, _, rfl, rfl, g.here rel _ rfl⟩
  · have rx : v = _ := rx; have ry : u = _ := ry; subst rx; subst ry
    split at g
    · rename_i hc
      exact op_mul pins s σ H _ _ _ _ Q I rv ru ⟨_, _, rfl, rfl, cmul_of hc, g.here rel _ rfl⟩
    · exact g.elim
  · have rx : v = _ := rx; have ry : u = _ := ry; subst rx; subst ry
    split at g
    · rename_i hc
      simp only [Bool.and_eq_true, decide_eq_true_eq] at hc
      exact op_fdiv pins s σ H _ _ _ _ Q I rv ru ⟨_, _, rfl, rfl, hc, g.here rel _ rfl⟩
    · exact g.elim
  · have rx : v = _ := rx; have ry : u = _ := ry; subst rx; subst ry
    split at g
    · rename_i hc
      exact op_mod pins s σ H _ _ _ _ Q I rv ru ⟨_, _, rfl, rfl, of_decide_eq_true hc, g.here rel _ rfl⟩
    · exact g.elim
  · have rx : v = _ := rx; have ry : u = _ := ry; subst rx; subst ry
    split at g
    · rename_i hc
      simp only [Bool.and_eq_true, decide_eq_true_eq] at hc
      exact op_pow pins s σ H _ _ _ _ Q I rv ru ⟨_, _, rfl, rfl, hc, g.here rel _ rfl⟩
    · exact g.elim
  · have rx : v = _ := rx; have ry : u = _ := ry; subst rx; subst ry
    split at g
    · rename_i hc
      exact op_add_str pins s σ H _ _ _ _ Q I rv ru ⟨_, _, rfl, rfl, hc, g.here rel _ rfl⟩
    · exact g.elim
  · rename_i xs ys
    obtain ⟨a, vs, rfl, h1, h2⟩ := rx
    obtain ⟨b, us, rfl, h3, h4⟩ := ry
    split at g
    · rename_i hc
      refine op_catA pins s σ H _ _ _ _ Q I rv ru ⟨a, b, vs, us, rfl, rfl, h1, h3, by rw [← h2.length, ← h4.length]; exact hc, fun e => ?_, fun _ e => ?_, fun _ _ => g.newT rel (h2.append h4)⟩
      · have := h2.length; rw [e] at this
        have : xs = [] := List.length_eq_zero_iff.mp this
        subst this
        exact g.here rel _ ⟨b, us, rfl, h3, h4⟩
      · have := h4.length; rw [e] at this
        have : ys = [] := List.length_eq_zero_iff.mp this
        subst this
        rw [List.append_nil] at g
        exact g.here rel _ ⟨a, vs, rfl, h1, h2⟩
    · exact g.elim
  · split at g
    · rename_i xs ys e1 e2
      obtain ⟨a, vs, rfl, _, h1, h2⟩ := lst_of rel e1 rx
      obtain ⟨b, us, rfl, _, h3, h4⟩ := lst_of rel e2 ry
      split at g
      · rename_i hc
        exact op_cat pins s σ H _ _ _ _ Q I rv ru ⟨a, b, vs, us, rfl, rfl, h1, h3, by rw [← h2.length, ← h4.length]; exact hc, g.newL rel (h2.append h4)⟩
      · exact g.elim
    · exact g.elim
  · obtain ⟨a, vs, rfl, h1, h2⟩ := rx
    have ry : u = _ := ry; subst ry
    split at g
    · rename_i xs k hc
      simp only [Bool.and_eq_true, decide_eq_true_eq] at hc
      obtain ⟨c1, c2, c3, c4⟩ := hc
      by_cases hk : k = 1
      · subst hk
        refine op_rep1 pins s σ H _ _ _ _ Q I rv ru ⟨a, vs, rfl, rfl, h1, g.here rel _ ⟨a, vs, rfl, h1, ?_⟩⟩
        have e : (List.replicate (1 : Int).toNat xs).flatten = xs := by
          show (List.replicate 1 xs).flatten = xs
          simp
        rw [e]; exact h2
      · refine op_repT pins s σ H _ _ _ _ Q I rv ru ⟨a, k, vs, rfl, rfl, h1, ?_, by omega, c4, by rw [← h2.length]; exact c2, g.newT rel (h2.rep _)⟩
        intro z
        subst z
        have := h2.length
        cases xs with
        | nil => cases c1
        | cons _ _ => cases this
    · exact g.elim
  · split at g
    · rename_i xs e1
      obtain ⟨a, vs, rfl, _, h1, h2⟩ := lst_of rel e1 rx
      have ry : u = _ := ry; subst ry
      split at g
      · rename_i hc
        simp only [Bool.and_eq_true, decide_eq_true_eq] at hc
        exact op_rep pins s σ H _ _ _ _ Q I rv ru ⟨a, _, vs, rfl, rfl, h1, hc.1, hc.2.1, by rw [← h2.length]; exact hc.2.2, g.newL rel (h2.rep _)⟩
      · exact g.elim
    · exact g.elim
  · exact g.elim

/-! ### truth -/
theorem truV_of {K : PySem.W.Frag} {as : List Addr} {H : Hp} {st : Sto} {d : D} {v : V} {b : Bool} (rel : Rel K as st H) (h : truth st d = some b) (rv : RV K as H d v) : TruV K v H b := by
  unfold truth at h
  split at h
  · cases h; have rv : v = _ := rv; subst rv; rfl
  · cases h; have rv : v = _ := rv; subst rv; rfl
  · cases h; have rv : v = _ := rv; subst rv; rfl
  · have rv : v = _ := rv; subst rv
    split at h
    · rename_i hc; cases h; exact ⟨hc, rfl⟩
    · cases h
  · cases h
    obtain ⟨a, vs, rfl, h1, h2⟩ := rv
    exact .inr (.inl ⟨vs, h1, by rw [h2.isEmpty]⟩)
  · cases h
    obtain ⟨a, vs, rfl, h1, h2⟩ := rv
    exact .inl ⟨vs, h1.l, by rw [h2.isEmpty]⟩
  · split at h
    · rename_i e; cases h
      obtain ⟨a, rfl, _, hro⟩ := rel.of_ref e rv
      obtain ⟨vs, h1, h2⟩ := ro_seq hro rfl
      exact .inl ⟨vs, h1, by rw [h2.isEmpty]⟩
    · rename_i kvs e; cases h
      obtain ⟨a, rfl, _, vs, h1, h2⟩ := rel.of_ref e rv
      refine .inr (.inr ⟨vs, h1, ?_⟩)
      cases kvs with
      | nil => have h2 : vs = [] := h2; subst h2; rfl
      | cons _ _ => obtain ⟨_, _, rfl, _, _⟩ := h2; rfl
    · cases h
  · cases h
  · cases h

/-! ### comparisons -/
def Cop.op : Cop → CmpOp
  | .eq => .Eq | .ne => .NotEq | .lt => .Lt | .le => .LtE | .gt => .Gt | .ge => .GtE | .isn => .Is | .isnn => .IsNot | .isin => .In | .notin => .NotIn
def rC2 (K : PySem.W.Frag) (op : Cop) : R2 := fun v u H Q => ∃ as st x y b, Rel K as st H ∧ RV K as H x v ∧ RV K as H y u ∧ cmpD op x y st = some b ∧ Q (.bl b) H
/-- == of data -/
theorem dict_at {pins : List (Addr × Obj)} {s : Shared} {σ : L2.St} {H : Hp} {as : List Addr} {st : Sto} (I : Inv X pins σ H s) (rel : Rel X.K as st H) {r : Nat} {kvs : List (Key × D)} {v : V} (ho : st[r]? = some (.dct kvs)) (rv : RV X.K as H (.ref r) v) : ∃ a, v = .ref a ∧ SeqAt.DictAt s a := by
  obtain ⟨a, rfl, _, vs, hl, _⟩ := rv_ref rel ho rv
  obtain ⟨_, _, us, kv, o, es, ep, h1, h2, h3, _⟩ := I.hok a _ hl
  exact ⟨a, rfl, o, es, ep, h1, h2.1, h3⟩
theorem eq_run {pins : List (Addr × Obj)} {s : Shared} {σ : L2.St} {H : Hp} {v u : V} {vv uu : Value} {Q : VK} (hu : X.A.units + 64 < cLine) (I : Inv X pins σ H s) (rv : RelV v vv) (ru : RelV u uu)
    {as : List Addr} {st : Sto} {x y : D} {b : Bool} (rel : Rel X.K as st H) (rx : RV X.K as H x v) (ry : RV X.K as H y u) (e : eqD st x y = some b) :
    (Q (.bl b) H → wpAny (model X.prog X.w) X.A (compareOp .Eq vv uu) (EP X pins σ Q) X.xe s) ∧ (Q (.bl (!b)) H → wpAny (model X.prog X.w) X.A (compareOp .NotEq vv uu) (EP X pins σ Q) X.xe s) := by
  have scal_case : ∀ k : Bool, scal v u = true → k = decide (v = u) → (Q (.bl k) H → wpAny (model X.prog X.w) X.A (compareOp .Eq vv uu) (EP X pins σ Q) X.xe s) ∧ (Q (.bl (!k)) H → wpAny (model X.prog X.w) X.A (compareOp .NotEq vv uu) (EP X pins σ Q) X.xe s) := fun k hs hk => by
    subst hk
    exact ⟨fun q => op_eq pins s σ H _ _ _ _ Q I rv ru ⟨hs, q⟩, fun q => op_ne pins s σ H _ _ _ _ Q I rv ru ⟨hs, q⟩⟩
  have gen : ∀ p q, toPy st 60 x = some p → toPy st 60 y = some q → (if p.canLay0 && q.canLay0 then some (PyData.eqv p q) else none) = some b →
      (Q (.bl b) H → wpAny (model X.prog X.w) X.A (compareOp .Eq vv uu) (EP X pins σ Q) X.xe s) ∧ (Q (.bl (!b)) H → wpAny (model X.prog X.w) X.A (compareOp .NotEq vv uu) (EP X pins σ Q) X.xe s) := fun p q e1 e2 e => by
    split at e
    · rename_i hc
      simp only [Bool.and_eq_true] at hc
      cases e
      obtain ⟨⟨bs, q1⟩, d1⟩ := reads_of I rel 60 x p v vv e1 rx rv
      obtain ⟨⟨cs, q2⟩, d2⟩ := reads_of I rel 60 y q u uu e2 ry ru
      have s1 : SeqAt.shaped p = true := by unfold SeqAt.shaped; rw [hc.1, decide_eq_true (Nat.le_trans d1 (by decide))]; rfl
      have s2 : SeqAt.shaped q = true := by unfold SeqAt.shaped; rw [hc.2, decide_eq_true (Nat.le_trans d2 (by decide))]; rfl
      exact ⟨fun k => SeqAt.compareEq_shaped q1 q2 s1 s2 hu ⟨.bl _, H, I, rfl, k⟩, fun k => SeqAt.compareNe_shaped q1 q2 s1 s2 hu ⟨.bl _, H, I, rfl, k⟩⟩
    · cases e
  unfold eqD at e
  split at e
  · split at e
    · rename_i hs; cases e
      have he := same_eq _ _ hs
      subst he
      have rx : v = _ := rx; have ry : u = _ := ry; subst rx; subst ry
      exact scal_case true rfl (by simp)
    · cases e
  · cases e; have rx : v = _ := rx; have ry : u = _ := ry; subst rx; subst ry
    exact scal_case _ rfl (by simp)
  · cases e; have rx : v = _ := rx; have ry : u = _ := ry; subst rx; subst ry
    exact scal_case _ rfl (by simp)
  · cases e; have rx : v = _ := rx; have ry : u = _ := ry; subst rx; subst ry
    exact scal_case _ rfl (by simp)
  · cases e; have rx : v = _ := rx; have ry : u = _ := ry; subst rx; subst ry
    exact scal_case _ rfl (by simp)
  · cases e; have rx : v = _ := rx; have ry : u = _ := ry; subst rx; subst ry
    exact scal_case _ rfl (by simp)
  · cases e; have rx : v = _ := rx; have ry : u = _ := ry; subst rx; subst ry
    exact scal_case _ rfl (by simp)
  · cases e; have rx : v = _ := rx; have ry : u = _ := ry; subst rx; subst ry
    exact scal_case _ rfl (by simp)
  · cases e; have rx : v = _ := rx; have ry : u = _ := ry; subst rx; subst ry
    exact scal_case _ rfl (by simp)
  · cases e; have rx : v = _ := rx; have ry : u = _ := ry; subst rx; subst ry
    exact scal_case _ rfl (by simp)
  · cases e; have rx : v = _ := rx; have ry : u = _ := ry; subst rx; subst ry
    exact scal_case _ rfl (by cases ‹Bool› <;> cases ‹Bool› <;> rfl)
  · split at e
    · rename_i hd
      cases e
      unfold dctEq at hd
      split at hd
      · split at hd
        · rename_i ho
          have rx : v = _ := rx
          subst rx
          obtain ⟨t, rfl⟩ := rv
          obtain ⟨a, rfl, hd⟩ := dict_at I rel ho ry
          cases ru
          exact ⟨fun k => SeqAt.RcAt.str_dict _ t hd (by omega) _ _ _ _ ⟨.bl _, H, I, rfl, k⟩, fun k => SeqAt.ne_str_dict _ t hd (by omega) ⟨.bl _, H, I, rfl, k⟩⟩
        · cases hd
      · cases hd
    · split at e
      · rename_i hd r hn
        cases e
        unfold nilEq at hn
        split at hn
        · split at hn
          · rename_i xs ho ho2
            cases hn
            obtain ⟨a, rfl, _, hro⟩ := rv_ref rel ho rx
            obtain ⟨a2, rfl, _, hro2⟩ := rv_ref rel ho2 ry
            cases rv; cases ru
            obtain ⟨vs, hl, hs⟩ := ro_seq hro rfl
            obtain ⟨vs2, hl2, hs2⟩ := ro_seq hro2 rfl
            obtain ⟨its, rr, ⟨o, nn, h1, h2, _, h3⟩, _⟩ := I.list hl
            obtain ⟨its2, rr2, ⟨o2, nn2, k1, k2, _, k3⟩, _⟩ := I.list hl2
            have z2 : vs2 = [] := hs2
            subst z2
            cases rr2
            have L1 : s.heap.IsList a its.toArray := ⟨o, h1, h2, nn, h3⟩
            have L2 : s.heap.IsList a2 ([] : List Value).toArray := ⟨o2, k1, k2, nn2, k3⟩
            cases xs with
            | nil =>
              have z1 : vs = [] := hs
              subst z1
              cases rr
              have hh := SeqAt.RcAt.lists (A := X.A) (e := fun _ => true) L1 L2 rfl (by omega) fun j j1 _ => absurd j1 (Nat.not_lt_zero j)
              have hn := SeqAt.RcNeAt.lists (A := X.A) (e := fun _ => true) L1 L2 rfl (by omega) fun j j1 _ => absurd j1 (Nat.not_lt_zero j)
              exact ⟨fun k => hh _ _ _ _ ⟨.bl _, H, I, rfl, k⟩, fun k => hn _ _ _ _ ⟨.bl _, H, I, rfl, k⟩⟩
            | cons d ds =>
              obtain ⟨v, vs', rfl, _, _⟩ := hs
              cases rr with
              | cons r1 r2 =>
                have hh := SeqAt.RcAt.lists_lengths (A := X.A) L1 L2 (by simp) (by omega)
                have hn := SeqAt.RcNeAt.lists_lengths (A := X.A) L1 L2 (by simp) (by omega)
                exact ⟨fun k => hh _ _ _ _ ⟨.bl _, H, I, rfl, k⟩, fun k => hn _ _ _ _ ⟨.bl _, H, I, rfl, k⟩⟩
          · cases hn
        · cases hn
      · split at e
        · rename_i e1 e2; exact gen _ _ e1 e2 e
        · cases e

theorem items_at {K : PySem.W.Frag} {as : List Addr} {H : Hp} {st : Sto} {d : D} {v : V} {xs : List D} (rel : Rel K as st H) (rv : RV K as H d v) (h : itemsD d st = some xs) : ∃ a ws, v = .ref a ∧ (SqL K H a ws ∨ SqT K H a ws) ∧ RVs K as H xs ws := by
  unfold itemsD at h
  split at h
  · cases h
    obtain ⟨a, vs, rfl, h1, h2⟩ := rv
    exact ⟨a, vs, rfl, .inr h1, h2⟩
  · cases h
    obtain ⟨a, vs, rfl, h1, h2⟩ := rv
    exact ⟨a, vs, rfl, .inl h1.l, h2⟩
  · split at h
    · rename_i e
      cases h
      obtain ⟨a, rfl, _, hro⟩ := rv_ref rel e rv
      obtain ⟨vs, h1, h2⟩ := ro_seq hro rfl
      exact ⟨a, vs, rfl, .inl h1, h2⟩
    · cases h
  · cases h
theorem strs_at {K : PySem.W.Frag} {as : List Addr} {H : Hp} : ∀ {xs : List D} {ws : List V} {ys : List Str}, RVs K as H xs ws → strsD xs = some ys → ws = ys.map V.str
  | [], _, _, r, h => by
    have r : _ = [] := r
    subst r; cases h; rfl
  | d :: xs, ws, ys, r, h => by
    obtain ⟨v, vs, rfl, h1, h2⟩ := r
    cases d <;> first | (cases h; done) | skip
    unfold strsD at h
    obtain ⟨ks', e1, rfl⟩ := Option.map_eq_some_iff.mp h
    have h1 : v = _ := h1; subst h1
    rw [strs_at h2 e1]; rfl
theorem str_val : ∀ {ys : List Str} {us : List Value} {u : Value}, Vals (ys.map V.str) us → u ∈ us → ∃ t tk, u = .str t tk
  | [], _, _, r, h => by cases r; cases h
  | y :: ys, _, _, r, h => by
    cases r with
    | cons r1 r2 =>
      obtain ⟨t, rfl⟩ := r1
      rcases List.mem_cons.mp h with rfl | h
      · exact ⟨_, _, rfl⟩
      · exact str_val r2 h
theorem in_run {pins : List (Addr × Obj)} {s : Shared} {σ : L2.St} {H : Hp} {v u : V} {vv uu : Value} {Q : VK} (hu : X.A.units + 65 < cLine) (I : Inv X pins σ H s) (rv : RelV v vv) (ru : RelV u uu)
    {as : List Addr} {st : Sto} {x y : D} {b : Bool} (rel : Rel X.K as st H) (rx : RV X.K as H x v) (ry : RV X.K as H y u) (e : inD st x y = some b) :
    (Q (.bl b) H → wpAny (model X.prog X.w) X.A (compareOp .In vv uu) (EP X pins σ Q) X.xe s) ∧ (Q (.bl (!b)) H → wpAny (model X.prog X.w) X.A (compareOp .NotIn vv uu) (EP X pins σ Q) X.xe s) := by
  unfold inD at e
  split at e
  · rename_i hd
    cases e
    unfold dctIn at hd
    split at hd
    · split at hd
      · rename_i ho
        split at hd
        · rename_i xs hi
          obtain ⟨ys, hy⟩ := Option.isSome_iff_exists.mp hd
          obtain ⟨a, rfl, hda⟩ := dict_at I rel ho rx
          cases rv
          obtain ⟨b, ws, rfl, hq, hw⟩ := items_at rel ry hi
          cases ru
          have hw2 := strs_at hw hy
          subst hw2
          have hsz : X.A.in1.units < cLine := by show X.A.units + 1 < cLine; omega
          rcases hq with hq | hq
          · obtain ⟨its, rv2, ⟨o, n, h1, h2, _, h3⟩, _⟩ := I.list hq
            have he : ∀ y, y ∈ its.toArray → SeqAt.EqAt X.A.in1 s y (.ref a) ((fun _ => false) y) := fun y hy2 => by
              obtain ⟨t, tk, rfl⟩ := str_val rv2 (by simpa using hy2)
              exact SeqAt.EqAt.str_dict t tk hda hsz
            have hany : its.toArray.any (fun _ => false) = false := by simp
            exact ⟨fun k => SeqAt.in_listAt (fun _ => false) ⟨o, h1, h2, n, h3⟩ he (by rw [hany]; exact ⟨.bl _, H, I, rfl, k⟩), fun k => SeqAt.notIn_listAt (fun _ => false) ⟨o, h1, h2, n, h3⟩ he (by rw [hany]; exact ⟨.bl _, H, I, rfl, k⟩)⟩
          · obtain ⟨its, rv2, ht, _⟩ := I.tuple hq
            have he : ∀ y, y ∈ its.toArray → SeqAt.EqAt X.A.in1 s y (.ref a) ((fun _ => false) y) := fun y hy2 => by
              obtain ⟨t, tk, rfl⟩ := str_val rv2 (by simpa using hy2)
              exact SeqAt.EqAt.str_dict t tk hda hsz
            have hany : its.toArray.any (fun _ => false) = false := by simp
            exact ⟨fun k => SeqAt.in_tupleAt (fun _ => false) ht he (by rw [hany]; exact ⟨.bl _, H, I, rfl, k⟩), fun k => SeqAt.notIn_tupleAt (fun _ => false) ht he (by rw [hany]; exact ⟨.bl _, H, I, rfl, k⟩)⟩
        · cases hd
      · cases hd
    · cases hd
  split at e
  · rename_i p ys e1 e2
    split at e
    · rename_i hc
      simp only [Bool.and_eq_true] at hc
      cases e
      obtain ⟨⟨bs, q1⟩, d1⟩ := reads_of I rel 60 x p v vv e1 rx rv
      obtain ⟨⟨cs, q2⟩, d2⟩ := reads_of I rel 60 y _ u uu e2 ry ru
      have hr : X.A.units + 1 + min (PyData.depthAll ys) p.depth < cLine := by
        have := Nat.min_le_right (PyData.depthAll ys) p.depth; omega
      exact ⟨fun k => SeqAt.in_list_reads q2 q1 hc.2 hc.1 hr ⟨.bl _, H, I, rfl, k⟩, fun k => SeqAt.notIn_list_reads q2 q1 hc.2 hc.1 hr ⟨.bl _, H, I, rfl, k⟩⟩
    · cases e
  · rename_i p ys e1 e2
    split at e
    · rename_i hc
      simp only [Bool.and_eq_true] at hc
      cases e
      obtain ⟨⟨bs, q1⟩, d1⟩ := reads_of I rel 60 x p v vv e1 rx rv
      obtain ⟨⟨cs, q2⟩, d2⟩ := reads_of I rel 60 y _ u uu e2 ry ru
      have hr : X.A.units + 1 + min (PyData.depthAll ys) p.depth < cLine := by
        have := Nat.min_le_right (PyData.depthAll ys) p.depth; omega
      exact ⟨fun k => SeqAt.in_tuple_reads q2 q1 hc.2 hc.1 hr ⟨.bl _, H, I, rfl, k⟩, fun k => SeqAt.notIn_tuple_reads q2 q1 hc.2 hc.1 hr ⟨.bl _, H, I, rfl, k⟩⟩
    · cases e
  · cases e
theorem rv_non {K : PySem.W.Frag} {as : List Addr} {H : Hp} {d : D} {v : V} (rv : RV K as H d v) (h : d ≠ .non) : v ≠ .non := by
  cases d with
  | non => exact absurd rfl h
  | tup ds => obtain ⟨a, vs, rfl, _⟩ := rv; intro z; cases z
  | ref n => obtain ⟨a, rfl, _⟩ := rv; intro z; cases z
  | scr ds => obtain ⟨a, vs, rfl, _⟩ := rv; intro z; cases z
  | ent ds => obtain ⟨a, vs, rfl, _⟩ := rv; intro z; cases z
  | bl b => have rv : v = _ := rv; subst rv; intro z; cases z
  | int b => have rv : v = _ := rv; subst rv; intro z; cases z
  | str b => have rv : v = _ := rv; subst rv; intro z; cases z
  | rep b => have rv : v = _ := rv; subst rv; intro z; cases z
theorem op_cmp (hu : X.A.units + 65 < cLine) (op : Cop) : OpR X (compareOp op.op) (rC2 X.K op) := by
  intro pins s σ H v u vv uu Q I rv ru h
  obtain ⟨as, st, x, y, b, rel, rx, ry, e, q⟩ := h
  unfold cmpD at e
  split at e
  · exact (eq_run (by omega) I rv ru rel rx ry e).1 q
  · obtain ⟨k, e1, rfl⟩ := Option.map_eq_some_iff.mp e
    exact (eq_run (by omega) I rv ru rel rx ry e1).2 q
  · cases e; have rx : v = _ := rx; have ry : u = _ := ry; subst rx; subst ry
    exact op_lt pins s σ H _ _ _ _ Q I rv ru ⟨_, _, rfl, rfl, q⟩
  · cases e; have rx : v = _ := rx; have ry : u = _ := ry; subst rx; subst ry
    exact op_le pins s σ H _ _ _ _ Q I rv ru ⟨_, _, rfl, rfl, q⟩
  · cases e; have rx : v = _ := rx; have ry : u = _ := ry; subst rx; subst ry
    exact op_gt pins s σ H _ _ _ _ Q I rv ru ⟨_, _, rfl, rfl, q⟩
  · cases e; have rx : v = _ := rx; have ry : u = _ := ry; subst rx; subst ry
    exact op_ge pins s σ H _ _ _ _ Q I rv ru ⟨_, _, rfl, rfl, q⟩
  · cases e; have rx : v = _ := rx; have ry : u = _ := ry; subst rx; subst ry
    exact op_isN pins s σ H _ _ _ _ Q I rv ru ⟨rfl, q⟩
  · rename_i hn; cases e; have ry : u = _ := ry; subst ry
    refine op_isN pins s σ H _ _ _ _ Q I rv ru ⟨rfl, ?_⟩
    rw [decide_eq_false (rv_non rx (fun z => by subst z; simp_all))]; exact q
  · cases e; have rx : v = _ := rx; have ry : u = _ := ry; subst rx; subst ry
    exact op_notN pins s σ H _ _ _ _ Q I rv ru ⟨rfl, q⟩
  · rename_i hn; cases e; have ry : u = _ := ry; subst ry
    refine op_notN pins s σ H _ _ _ _ Q I rv ru ⟨rfl, ?_⟩
    rw [decide_eq_false (rv_non rx (fun z => by subst z; simp_all))]; exact q
  · exact (in_run hu I rv ru rel rx ry e).1 q
  · obtain ⟨k, e1, rfl⟩ := Option.map_eq_some_iff.mp e
    exact (in_run hu I rv ru rel rx ry e1).2 q
  · cases e

/-! ### subscripts, slices -/
theorem RVs.atI {K : PySem.W.Frag} {as : List Addr} {H : Hp} {ds : List D} {vs : List V} {i : Int} {d : D} (h : RVs K as H ds vs) (e : L2.atI ds i = some d) : ∃ v, L2.atI vs i = some v ∧ RV K as H d v := by
  unfold L2.atI at e ⊢
  rw [← h.length]
  cases q : ixN ds.length i with
  | none => rw [q] at e; cases e
  | some j => rw [q] at e; exact h.get e
theorem atI_map {α β : Type} {f : α → β} {xs : List α} {i : Int} {x : α} (h : L2.atI xs i = some x) : L2.atI (xs.map f) i = some (f x) := by
  unfold L2.atI at h ⊢
  rw [List.length_map]
  cases q : ixN xs.length i with
  | none => rw [q] at h; cases h
  | some j =>
    rw [q] at h
    have h : xs[j]? = some x := h
    show (xs.map f)[j]? = _
    rw [List.getElem?_map, h]; rfl
theorem getKV_of {K : PySem.W.Frag} {as : List Addr} {H : Hp} {k : Key} {d : D} : ∀ {kvs : List (Key × D)} {vs : List (Key × V)}, RKV K as H kvs vs → getKV kvs k = some d → ∃ v, valV vs k = some v ∧ RV K as H d v
  | [], _, _, e => by simp [getKV] at e
  | p :: r, _, h, e => by
    obtain ⟨v, vs', rfl, h1, h2⟩ := h
    by_cases hk : p.1 = k
    · have : getKV (p :: r) k = some p.2 := by simp [getKV, List.find?_cons, hk]
      rw [this] at e; cases e
      exact ⟨v, valV_pos hk, h1⟩
    · have : getKV (p :: r) k = getKV r k := by simp [getKV, List.find?_cons, hk]
      rw [this] at e
      obtain ⟨w, e1, e2⟩ := getKV_of h2 e
      exact ⟨w, by rw [valV_neg hk]; exact e1, e2⟩
theorem keyD_of {K : PySem.W.Frag} {as : List Addr} {H : Hp} {d : D} {k : Key} {v : V} (h : keyD d = some k) (rv : RV K as H d v) : v = kV k := by
  unfold keyD at h
  split at h
  · cases h; exact rv
  · cases h; exact rv
  · cases h
theorem ix_all (hu : X.A.units + 1 < cLine) : IxR X (rU2 X.K idxD) := by
  intro value slice pins s σ H v u vv uu Q I rv ru h hs
  obtain ⟨as, st, x, y, rel, rx, ry, g⟩ := h
  unfold idxD at g
  split at g
  · obtain ⟨a, vs, rfl, h1, h2⟩ := rx
    have ry : u = _ := ry; subst ry
    obtain ⟨d, e, g⟩ := g.lift
    obtain ⟨w, e1, e2⟩ := h2.atI e
    exact ix_tup value slice pins s σ H _ _ _ _ Q I rv ru ⟨a, vs, _, w, rfl, rfl, h1, e1, g.here rel _ e2⟩ hs
  · obtain ⟨a, vs, rfl, h1, h2⟩ := rx
    have ry : u = _ := ry; subst ry
    obtain ⟨d, e, g⟩ := g.lift
    obtain ⟨w, e1, e2⟩ := h2.atI e
    exact ix_list value slice pins s σ H _ _ _ _ Q I rv ru ⟨a, vs, _, w, rfl, rfl, h1.l, e1, g.here rel _ e2⟩ hs
  · obtain ⟨a, vs, rfl, h1, h2⟩ := rv_ent rx
    have ry : u = _ := ry; subst ry
    obtain ⟨d, e, g⟩ := g.lift
    obtain ⟨t, e0, rfl⟩ := Option.map_eq_some_iff.mp e
    obtain ⟨w, e1, e2⟩ := h2.atI (atI_map e0)
    exact ix_tup value slice pins s σ H _ _ _ _ Q I rv ru ⟨a, vs, _, w, rfl, rfl, h1, e1, g.here rel _ e2⟩ hs
  · have rx : v = _ := rx; have ry : u = _ := ry; subst rx; subst ry
    split at g
    · rename_i hc
      obtain ⟨d, e, g⟩ := g.lift
      obtain ⟨c, e1, rfl⟩ := Option.map_eq_some_iff.mp e
      exact ix_str value slice pins s σ H _ _ _ _ Q I rv ru ⟨_, _, c, rfl, rfl, hc, e1, g.here rel _ rfl⟩ hs
    · exact g.elim
  · split at g
    · rename_i xs i e
      obtain ⟨a, rfl, _, hro⟩ := rel.of_ref e rx
      obtain ⟨vs, h1, h2⟩ := ro_seq hro rfl
      have ry : u = _ := ry; subst ry
      obtain ⟨d, e, g⟩ := g.lift
      obtain ⟨w, e1, e2⟩ := h2.atI e
      exact ix_list value slice pins s σ H _ _ _ _ Q I rv ru ⟨a, vs, _, w, rfl, rfl, h1, e1, g.here rel _ e2⟩ hs
    · rename_i kvs k e
      obtain ⟨a, rfl, _, vs, h1, h2⟩ := rel.of_ref e rx
      split at g
      · rename_i k' hk
        have := keyD_of hk ry
        subst this
        obtain ⟨d, e, g⟩ := g.lift
        obtain ⟨w, e1, e2⟩ := getKV_of h2 e
        have hdg : DGet H a (kV k') (some w) := by rw [← e1]; exact DGet.k h1
        cases rv
        exact tail_any (dict_typeIs I hdg) PySem.F.slot_dict_getitem.lookup (d_getItem hu I hdg ru fun w' s' I' r' => ⟨w, H, I', r', g.here rel _ e2⟩) hs
      · exact g.elim
    · exact g.elim
  · exact g.elim
end
end PL

set_option Elab.async false
set_option linter.all false
set_option maxRecDepth 100000
set_option maxHeartbeats 4000000
/-! PLS: sorted of tuples, a tuple once. -/
namespace PL
open PySem PySem.Spec PyProof.Rows L2
section
variable {prog : Program} {w : World} {A : Around} {E : Value → Shared → Prop} {sh : Shared}
/-- what a tuple holds, as a new list -/
theorem gather_tup {p : Addr} {us : List Value} {R : List Value → Shared → Prop} (hp : IsTup sh.heap p us.toArray) (hz : us.length ≤ sizeLine)
    (k : R us { sh with heap := (sh.heap.push (seqObj "list" #[] 0)).update sh.heap.objs.size (Obj.mapSeq (· ++ us.toArray)) }) : wpAny (model prog w) A (collect (.ref p)) R E sh := by
  obtain ⟨ob, g1, g2, m, g3⟩ := hp
  unfold collect
  have g4 : (sh.heap.push (seqObj "list" #[] 0)).get? p = some ob := Heap.get?_push_of_some _ g1
  have g5 : (#[] ++ us.toArray).size ≤ sizeLine + 1 := by simp; omega
  have g6 : ((#[] : Array Value) ++ us.toArray).toList = us := by simp
  refine wpAny_bind (wpAny_runValue (codeAny_builtin entry_proto_collect' ?_))
  show wpAny _ _ (do again (.builtin "list.__iadd__" ⟨[← newList [], .ref p], []⟩)) _ _ sh
  refine wpAny_bind (wpAny_newList (wpAny_pure ⟨Code.quiet_builtin _ (by decide +kernel), ?_⟩))
  refine codeAny_builtin entry_list_iadd' ?_
  show wpAny _ _ (Builtin.List.listExtendWith (.ref sh.heap.objs.size) (.ref p) (.ref sh.heap.objs.size)) _ _ { sh with heap := sh.heap.push (seqObj "list" #[] 0) }
  delta Builtin.List.listExtendWith
  refine wpAny_bind (wpAny_typeOf (T := "tuple") ⟨ob, g4, g2⟩ ?_)
  rw [if_pos (by simp)]
  refine wpAny_bind (listItems_at g4 g3 ?_)
  refine wpAny_bind (listItems_at (n := 0) (xs := #[]) (Heap.get?_push_size _ rfl) rfl ?_)
  rw [if_neg (by simp)]
  refine wpAny_bind (listUpdate_at (n := 0) (xs := #[]) (Heap.get?_push_size _ rfl) rfl ?_ (Nat.zero_le _) g5)
  refine wpAny_pure ?_
  show wpAny (model prog w) A (do
      let o ← load sh.heap.objs.size
      match o.data with
      | .seq zs _ => pure zs.toList
      | _ => unsupported "internal:collect") R E { sh with heap := (sh.heap.push (seqObj "list" #[] 0)).update sh.heap.objs.size (Obj.mapSeq (· ++ us.toArray)) }
  refine wpAny_bind (wpAny_load (get?_update_seq (Heap.get?_push_size _ rfl) _) ?_)
  show wpAny _ _ (pure ((#[] : Array Value) ++ us.toArray).toList) R E _
  rw [g6]
  exact wpAny_pure k
/-- sorted of a tuple of ints -/
theorem sort_tup {p : Addr} {us : List Value} {ns : List Int} {R : Value → Shared → Prop} (hp : IsTup sh.heap p us.toArray) (hI : IntsAre us ns) (hz : us.length ≤ sizeLine)
    (k : ∀ (out : Array Value) (ms : List Int), IntsAre out.toList ms → ms.Perm ns → ms.Pairwise (· ≤ ·) → R (.ref (sh.heap.objs.size + 1)) { sh with heap := sortedAll sh.heap us out }) :
    wpAny (model prog w) A (call (.builtin "sorted") [.ref p]) R E sh := by
  refine Calls.call_function_entry kind_sorted plain_sorted entry_sorted (args_sorted1 _) ?_
  delta Builtin.«sorted»
  refine wpAny_bind (m := checkCount "sorted" 1 1 _) (wpAny_pure ?_)
  refine wpAny_bind (gather_tup hp hz ?_)
  refine wpAny_bind (wpAny_newList ?_)
  have e1 : ((sh.heap.push (seqObj "list" #[] 0)).update sh.heap.objs.size (Obj.mapSeq (· ++ us.toArray))).objs.size = sh.heap.objs.size + 1 := by rw [Heap.size_update, size_push']
  have e2 : (((sh.heap.push (seqObj "list" #[] 0)).update sh.heap.objs.size (Obj.mapSeq (· ++ us.toArray))).push (seqObj "list" us.toArray 0)).get? (sh.heap.objs.size + 1) = some (seqObj "list" us.toArray 0) := by
    rw [← e1]; exact Heap.get?_push_size _ rfl
  show wpAny _ _ _ _ _ { sh with heap := ((sh.heap.push (seqObj "list" #[] 0)).update sh.heap.objs.size (Obj.mapSeq (· ++ us.toArray))).push (seqObj "list" us.toArray 0) }
  rw [e1]
  refine wpAny_bind (wpAny_holding (wpAny_call_entry slot_list_sort ⟨_, e2, rfl⟩ entry_list_sort (list_sort_treeAny e2 hI hz fun out ms h1 h2 h3 => ⟨_, rfl, ?_⟩) (args_list_sort _)))
  exact wpAny_pure ⟨_, rfl, k out ms h1 h2 h3⟩
end
section
variable {X : Cx}
theorem cr_sortT : CallR X (.builtin "sorted") (fun vs H Q => ∃ (a : Addr) (ns : List Int), vs = [V.ref a] ∧ SqT X.K H a (ns.map V.int) ∧ ∀ (ms : List Int) (q : Addr), ms.Perm ns → ms.Pairwise (· ≤ ·) → H q = none → Q (.ref q) (upd H q (.lst (ms.map V.int)))) := by
  intro pins s σ H vs us Q I r h
  obtain ⟨a, ns, rfl, ht, k⟩ := h
  obtain ⟨its, rv, hl, hz⟩ := I.tuple ht
  rw [Vals.ref1 r]
  have hi := rv.ints
  have hn : its.length = ns.length := hi.length
  rw [List.length_map] at hz
  refine sort_tup hl hi (by omega) fun out ms h1 h2 h3 => ?_
  obtain ⟨ep, e1⟩ := PyProof.Rows.sortedAll_at s.heap its out
  have e2 : (ms.map V.int).length ≤ sizeLine := by rw [List.length_map, h2.length_eq]; exact hz
  refine ⟨.ref _, upd H (s.heap.objs.size + 1) (.lst (ms.map V.int)), I.laid (t' := s.toks) (fun _ _ => PyProof.Rows.sortedAll_old) (Nat.le_succ _) ?_, rfl, k ms _ h2 h3 (I.hok.fresh (Nat.le_succ _))⟩
  exact ⟨e2, out.toList, ep, vals_of_ints h1, e1⟩
end
/-! ### sorted of pairs by their first ints, unlike ones -/
/-- a tuple of two, an int ahead -/
def FstAt (h : Heap) (v : Value) (i : Int) : Prop := ∃ a o t y n, v = .ref a ∧ h.get? a = some o ∧ o.cls = .type "tuple" ∧ o.data = .seq #[.int i t, y] n
theorem FstAt.keeps {h h' : Heap} {v : Value} {i : Int} (x : FstAt h v i) (k : ∀ b o, h.get? b = some o → o.cls = .type "tuple" → h'.get? b = some o) : FstAt h' v i := by
  obtain ⟨a, o, t, y, n, e, h1, h2, h3⟩ := x
  exact ⟨a, o, t, y, n, e, k a o h1 h2, h2, h3⟩
def fstOf (h : Heap) (v : Value) : Int := match v with
  | .ref a => match h.get? a with
    | some o => match o.data with
      | .seq xs _ => match xs.toList with
        | .int i _ :: _ => i
        | _ => 0
      | _ => 0
    | none => 0
  | _ => 0
theorem FstAt.eq {h : Heap} {v : Value} {i : Int} (x : FstAt h v i) : fstOf h v = i := by
  obtain ⟨a, o, t, y, n, rfl, h1, h2, h3⟩ := x
  simp only [fstOf, h1, h3]
/-- what is sorted: pairs, the ints ahead are unlike -/
def FstsOk (h : Heap) (vs : List Value) : Prop := (∀ v ∈ vs, ∃ i, FstAt h v i) ∧ ∀ u ∈ vs, ∀ v ∈ vs, fstOf h u = fstOf h v → u = v
theorem FstsOk.keeps {h h' : Heap} {vs : List Value} (x : FstsOk h vs) (k : ∀ b o, h.get? b = some o → o.cls = .type "tuple" → h'.get? b = some o) : FstsOk h' vs := by
  refine ⟨fun v hv => let ⟨i, f⟩ := x.1 v hv; ⟨i, f.keeps k⟩, fun u hu v hv e => ?_⟩
  obtain ⟨i, f⟩ := x.1 u hu
  obtain ⟨j, f'⟩ := x.1 v hv
  rw [(f.keeps k).eq, (f'.keeps k).eq] at e
  exact x.2 u hu v hv (by rw [f.eq, f'.eq, e])
theorem fsts_of {h : Heap} : ∀ vs : List Value, (∀ v ∈ vs, ∃ i, FstAt h v i) → ∃ fs, PySem.W.KatTups h vs fs ∧ fs.length = vs.length ∧ ∀ f, f ∈ fs → ∃ n t, f = Value.int n t
  | [], _ => ⟨[], PySem.W.KatTups.nil, rfl, fun f hf => by simp at hf⟩
  | v :: vs, x => by
    obtain ⟨fs, k, hl, hi⟩ := fsts_of vs fun u hu => x u (List.mem_cons_of_mem _ hu)
    obtain ⟨i, a, o, t, y, n, rfl, h1, h2, h3⟩ := x v List.mem_cons_self
    refine ⟨.int i t :: fs, PySem.W.KatTups.cons h1 h2 h3 rfl k, by simp [hl], fun f hf => ?_⟩
    rcases List.mem_cons.mp hf with rfl | hf
    · exact ⟨i, t, rfl⟩
    · exact hi f hf
section
variable {prog : Program} {w : World} {A : Around} {E : Value → Shared → Prop} {s : Shared}
theorem kind_fsts {vs : List Value} (h2 : 2 ≤ vs.length) (x : FstsOk s.heap vs) (r : Value → Int) (hr : ∀ v, v ∈ vs → r v = fstOf s.heap v) (Q : SortKind → Shared → Prop)
    (h : ∀ κ, TS.Cmp prog w A s κ (pairsOf vs) r → Q κ s) : wpAny (model prog w) A (keyKind' vs.toArray) Q E s := by
  obtain ⟨fs, k, hl, hi⟩ := fsts_of vs x.1
  refine PySem.W.kat_kind (T := Value.type "int") k (by omega) (fun f hf => ?_) rfl (h _ ?_)
  · obtain ⟨n, t, rfl⟩ := hi f hf
    exact PySem.W.Looks.of_pure rfl
  · intro p q hp hq Q' E' hQ
    rw [pairsOf_toList] at hp hq
    have mp := (mem_zip_self hp).2
    have mq := (mem_zip_self hq).2
    rw [hr _ mp, hr _ mq] at hQ
    have same := x.2 _ mp _ mq
    obtain ⟨i, f⟩ := x.1 _ mp
    obtain ⟨j, f'⟩ := x.1 _ mq
    rw [f.eq, f'.eq] at hQ same
    obtain ⟨a, o, t, y, n, e1, ho, hc, hd⟩ := f
    obtain ⟨a', o', t', y', n', e2, ho', hc', hd'⟩ := f'
    rw [e1, e2] at same ⊢
    refine PySem.W.kat_lt ho hd ho' hd' ?_
    show PySem.W.KatLex prog w A true (decide (2 < 2)) _ [(.int i t, .int j t'), (y, y')] 0 s
    refine PySem.W.kat_cons (SeqAt.EqAt.int_int i t j t' prog w _ _ ?_)
    refine PySem.W.kat_go (fun z => ?_) (fun z => ?_)
    · have ij : i = j := by simpa using z
      have := same ij
      cases this
      rw [ho] at ho'
      cases ho'
      rw [hd] at hd'
      injection hd' with d1 _
      have d2 := congrArg Array.toList d1
      simp only [List.cons.injEq] at d2
      obtain ⟨_, d3, _⟩ := d2
      subst d3
      refine PySem.W.kat_yes (PySem.W.kat_cons (SeqAt.EqAt.same y prog w _ _ ?_))
      refine PySem.W.kat_yes (PySem.W.kat_nil ?_)
      rw [ij, decide_eq_false (Int.lt_irrefl j)] at hQ
      exact hQ
    · exact PySem.W.kat_no (PyProof.Rows.oneLt_int hQ)
theorem sort_fsts {a : Addr} {vs : List Value} {n : Nat} {P : PySem.Fin → Shared → Prop} (ho : s.heap.get? a = some (seqObj "list" vs.toArray n)) (h64 : vs.length < 64) (x : FstsOk s.heap vs)
    (r : Value → Int) (hr : ∀ v, v ∈ vs → r v = fstOf s.heap v)
    (h : ∀ out : Array Value, out.toList.Perm vs → out.toList.Pairwise (fun u v => r u ≤ r v) → P (.done (.ret .none)) { s with heap := sortedHeap s.heap a vs out }) :
    wpAny (model prog w) A (Builtin.«list.sort» ⟨[.ref a], []⟩) P E s := by
  have keep : ∀ b o, s.heap.get? b = some o → o.cls = .type "tuple" → (TS.midHeap s.heap a vs).get? b = some o := fun b o e hc => by
    refine TS.midHeap_old ?_ e
    rintro rfl
    rw [ho] at e
    have e' : seqObj "list" vs.toArray n = o := Option.some.inj e
    rw [← e'] at hc
    have c' : Value.type "list" = Value.type "tuple" := hc
    injection c' with c''
    exact absurd c'' (by decide)
  refine SK.plain_sort (r := r) ho h64 (fun h2 Q hQ => ?_) fun ps out h1 h2 h3 => ?_
  · refine kind_fsts (s := { s with heap := TS.midHeap s.heap a vs }) h2 (x.keeps keep) r (fun v hv => ?_) Q hQ
    obtain ⟨i, f⟩ := x.1 v hv
    rw [hr v hv, f.eq]
    exact ((f.keeps keep).eq).symm
  · obtain ⟨p, o⟩ := TS.out_rank h1 h2 h3
    exact h out p o
theorem sorted_fsts {l : Addr} {vs : List Value} {Q : Value → Shared → Prop} (hl : s.heap.IsList l vs.toArray) (h64 : vs.length < 64) (x : FstsOk s.heap vs)
    (h : ∀ out : Array Value, out.toList.Perm vs → out.toList.Pairwise (fun u v => fstOf s.heap u ≤ fstOf s.heap v) → Q (.ref (s.heap.objs.size + 1)) { s with heap := sortedAll s.heap vs out }) :
    wpAny (model prog w) A (call (.builtin "sorted") [.ref l]) Q E s := by
  refine Calls.call_function_entry kind_sorted plain_sorted entry_sorted (args_sorted1 _) ?_
  unfold Builtin.«sorted»
  refine wpAny_bind (m := checkCount "sorted" 1 1 _) (wpAny_pure ?_)
  refine wpAny_bind (collect_list hl ?_ (by rw [sizeLine_eq]; omega))
  refine wpAny_bind (wpAny_newList ?_ (by rw [sizeLine_eq]; omega))
  have hsz : ((s.heap.push (seqObj "list" #[] 0)).update s.heap.objs.size (Obj.mapSeq (· ++ vs.toArray))).objs.size = s.heap.objs.size + 1 := by
    rw [Heap.size_update, size_push']
  have hoL : (((s.heap.push (seqObj "list" #[] 0)).update s.heap.objs.size (Obj.mapSeq (· ++ vs.toArray))).push (seqObj "list" vs.toArray 0)).get? (s.heap.objs.size + 1) = some (seqObj "list" vs.toArray 0) := by
    rw [← hsz]; exact Heap.get?_push_size _ rfl
  have keep : ∀ b o, s.heap.get? b = some o → o.cls = .type "tuple" → (((s.heap.push (seqObj "list" #[] 0)).update s.heap.objs.size (Obj.mapSeq (· ++ vs.toArray))).push (seqObj "list" vs.toArray 0)).get? b = some o := fun b o q _ => by
    have hlt : b < s.heap.objs.size := Heap.lt_size q
    rw [Heap.get?_push_ne _ _ _ (by rw [hsz]; exact Nat.ne_of_lt (Nat.lt_succ_of_lt hlt)), Heap.get?_update_ne _ _ _ _ (Nat.ne_of_lt hlt), Heap.get?_push_ne _ _ _ (Nat.ne_of_lt hlt)]
    exact q
  show wpAny _ _ _ _ _ { s with heap := ((s.heap.push (seqObj "list" #[] 0)).update s.heap.objs.size (Obj.mapSeq (· ++ vs.toArray))).push (seqObj "list" vs.toArray 0) }
  rw [hsz]
  refine wpAny_bind (wpAny_holding (wpAny_call_entry slot_list_sort ⟨_, hoL, rfl⟩ entry_list_sort (sort_fsts hoL h64 (x.keeps keep) (fun v => fstOf s.heap v) (fun v hv => ?_) fun out a1 a2 => ⟨_, rfl, ?_⟩) (args_list_sort _)))
  · obtain ⟨i, f⟩ := x.1 v hv
    show fstOf s.heap v = _
    rw [f.eq]
    exact ((f.keeps keep).eq).symm
  · exact wpAny_pure ⟨_, rfl, h out a1 a2⟩
end
theorem insP_perm {α : Type} (p : Int × α) : ∀ l : List (Int × α), (insP p l).Perm (p :: l)
  | [] => .refl _
  | q :: r => by
    unfold insP
    split
    · exact .refl _
    · exact ((insP_perm p r).cons q).trans (List.Perm.swap p q r)
theorem sortP_perm {α : Type} : ∀ l : List (Int × α), (sortP l).Perm l
  | [] => .refl _
  | p :: r => (insP_perm p _).trans ((sortP_perm r).cons p)
theorem insP_pair {α : Type} {p : Int × α} : ∀ {l : List (Int × α)}, l.Pairwise (fun a b => a.1 ≤ b.1) → (insP p l).Pairwise (fun a b => a.1 ≤ b.1)
  | [], _ => by unfold insP; simp
  | q :: r, .cons h t => by
    unfold insP
    split
    · rename_i c
      refine .cons (fun x hx => ?_) (.cons h t)
      rcases List.mem_cons.mp hx with rfl | hx
      · exact c
      · exact Int.le_trans c (h x hx)
    · rename_i c
      refine .cons (fun x hx => ?_) (insP_pair t)
      rcases List.mem_cons.mp ((insP_perm p r).mem_iff.mp hx) with rfl | hx
      · omega
      · exact h x hx
theorem sortP_pair {α : Type} : ∀ l : List (Int × α), (sortP l).Pairwise (fun a b => a.1 ≤ b.1)
  | [] => .nil
  | _ :: r => insP_pair (sortP_pair r)
theorem insP_map {α β : Type} (f : α → β) (p : Int × α) : ∀ l : List (Int × α), insP (p.1, f p.2) (l.map fun q => (q.1, f q.2)) = (insP p l).map fun q => (q.1, f q.2)
  | [] => rfl
  | q :: r => by
    rw [List.map_cons]
    unfold insP
    by_cases c : p.1 ≤ q.1
    · rw [if_pos c, if_pos c]; rfl
    · rw [if_neg c, if_neg c, insP_map f p r]; rfl
theorem sortP_map {α β : Type} (f : α → β) : ∀ l : List (Int × α), sortP (l.map fun q => (q.1, f q.2)) = (sortP l).map fun q => (q.1, f q.2)
  | [] => rfl
  | p :: r => by rw [List.map_cons, sortP, sortP, sortP_map f r, insP_map]
theorem sorted_uniq {α : Type} {r : α → Int} : ∀ {l m : List α}, l.Perm m → l.Pairwise (fun a b => r a ≤ r b) → m.Pairwise (fun a b => r a ≤ r b) → (∀ x ∈ l, ∀ y ∈ l, r x = r y → x = y) → l = m
  | [], m, p, _, _, _ => by rw [List.nil_perm.mp p]
  | a :: l, [], p, _, _, _ => absurd p.symm (by rw [List.nil_perm]; exact fun z => nomatch z)
  | a :: l, b :: m, p, .cons h t, .cons h' t', inj => by
    have h1 : b ∈ a :: l := p.mem_iff.mpr List.mem_cons_self
    have h2 : a ∈ b :: m := p.mem_iff.mp List.mem_cons_self
    have e : a = b := by
      rcases List.mem_cons.mp h1 with e | h3
      · exact e.symm
      · rcases List.mem_cons.mp h2 with e | h4
        · exact e
        · exact inj a List.mem_cons_self b h1 (Int.le_antisymm (h b h3) (h' a h4))
    subst e
    rw [sorted_uniq (List.Perm.cons_inv p) t t' fun x hx y hy => inj x (List.mem_cons_of_mem _ hx) y (List.mem_cons_of_mem _ hy)]
abbrev Zs := List (Int × (D × V × Value))
theorem zs_of {K : PySem.W.Frag} {as : List Addr} {H : Hp} : ∀ {xs : List D} {ps : List (Int × D)} {ws : List V} {us : List Value}, pairsI xs = some ps → RVs K as H xs ws → Vals ws us →
    ∃ zs : Zs, ps = zs.map (fun z => (z.1, z.2.1)) ∧ ws = zs.map (fun z => z.2.2.1) ∧ us = zs.map (fun z => z.2.2.2) ∧ ∀ z ∈ zs, RV K as H (.tup [.int z.1, z.2.1]) z.2.2.1 ∧ RelV z.2.2.1 z.2.2.2
  | [], ps, ws, us, e, r, v => by
    cases e
    have r : ws = [] := r
    subst r
    cases v
    exact ⟨[], rfl, rfl, rfl, fun z hz => by cases hz⟩
  | d :: xs, ps, ws, us, e, r, v => by
    obtain ⟨w, ws', rfl, h1, h2⟩ := r
    cases v with
    | cons r1 r2 =>
      unfold pairsI at e
      split at e
      · cases ‹_ :: _ = []›
      · rename_i i d' r' hq
        cases hq
        obtain ⟨ps', e1, rfl⟩ := Option.map_eq_some_iff.mp e
        obtain ⟨zs, a1, a2, a3, a4⟩ := zs_of e1 h2 r2
        refine ⟨(i, d', w, _) :: zs, by rw [List.map_cons, a1], by rw [List.map_cons, a2], by rw [List.map_cons, a3], fun z hz => ?_⟩
        rcases List.mem_cons.mp hz with rfl | hz
        · exact ⟨h1, r1⟩
        · exact a4 z hz
      · cases e
theorem zs_rvs {K : PySem.W.Frag} {as : List Addr} {H : Hp} : ∀ {zs : Zs}, (∀ z ∈ zs, RV K as H (.tup [.int z.1, z.2.1]) z.2.2.1 ∧ RelV z.2.2.1 z.2.2.2) →
    RVs K as H (zs.map fun z => .tup [.int z.1, z.2.1]) (zs.map fun z => z.2.2.1) ∧ Vals (zs.map fun z => z.2.2.1) (zs.map fun z => z.2.2.2)
  | [], _ => ⟨rfl, .nil⟩
  | z :: zs, h => by
    obtain ⟨a, b⟩ := zs_rvs fun y hy => h y (List.mem_cons_of_mem _ hy)
    obtain ⟨c, d⟩ := h z List.mem_cons_self
    exact ⟨⟨_, _, rfl, c, a⟩, .cons d b⟩
section
variable {X : Cx}
/-- sorted of a list of pairs, told of the store -/
theorem cr_sortF {pins : List (Addr × Obj)} {s : Shared} {σ : L2.St} {H : Hp} {v : V} {us : List Value} {Q : VK} (I : Inv X pins σ H s) (r : Vals [v] us) {as : List Addr} {st : Sto} {xs : List D} {ps : List (Int × D)} {a : Addr} {ws : List V} (rel : Rel X.K as st H)
    (hv : v = .ref a) (hl : SqL X.K H a ws) (hw : RVs X.K as H xs ws) (hp : pairsI xs = some ps) (h64 : ps.length < 64) (hn : (ps.map (·.1)).Nodup)
    (q : ∀ (ws' : List V) (p : Addr), RVs X.K as H ((sortP ps).map fun p => .tup [.int p.1, p.2]) ws' → H p = none → Q (.ref p) (upd H p (.lst ws'))) : wpAny (model X.prog X.w) X.A (call (.builtin "sorted") us) (EP X pins σ Q) X.xe s := by
  subst hv
  obtain ⟨its, rv, hL, hz⟩ := I.list hl
  rw [Vals.ref1 r]
  obtain ⟨zs, rfl, rfl, rfl, hzs⟩ := zs_of hp hw rv
  rw [List.length_map] at h64
  rw [List.map_map] at hn
  have hfst : ∀ z ∈ zs, FstAt s.heap z.2.2.2 z.1 := fun z hz => by
    obtain ⟨⟨b, vs, e, ht, hs⟩, hr⟩ := hzs z hz
    obtain ⟨v1, vs1, rfl, h1, v2, vs2, rfl, h2, h3⟩ := hs
    have h1 : v1 = _ := h1
    have h3 : vs2 = [] := h3
    subst h1 h3
    obtain ⟨its, rv2, ⟨o, ho, hc, n, hd⟩, _⟩ := I.tuple ht
    cases rv2 with
    | cons q1 q2 =>
      cases q2 with
      | cons q3 q4 =>
        cases q4
        obtain ⟨t, rfl⟩ := q1
        rw [e] at hr
        have hr : z.2.2.2 = _ := hr
        exact ⟨b, o, t, _, n, hr, ho, hc, hd⟩
  have inj : ∀ z ∈ zs, ∀ y ∈ zs, z.1 = y.1 → z = y := by
    intro z hz y hy e
    obtain ⟨i, hi⟩ := List.mem_iff_getElem?.mp hz
    obtain ⟨j, hj⟩ := List.mem_iff_getElem?.mp hy
    have hi' := (List.getElem?_eq_some_iff.mp hi).1
    have ei : (zs.map (Prod.fst ∘ fun z => (z.1, z.2.1)))[i]? = some z.1 := by rw [List.getElem?_map, hi]; rfl
    have ej : (zs.map (Prod.fst ∘ fun z => (z.1, z.2.1)))[j]? = some y.1 := by rw [List.getElem?_map, hj]; rfl
    have hij : i = j := (List.getElem?_inj (by rw [List.length_map]; exact hi') hn).mp (by rw [ei, ej, e])
    subst hij
    rw [hi] at hj
    cases hj; rfl
  have ok : FstsOk s.heap (zs.map fun z => z.2.2.2) := by
    refine ⟨fun v hv => ?_, fun u hu v hv e => ?_⟩
    · obtain ⟨z, hz, rfl⟩ := List.mem_map.mp hv
      exact ⟨_, hfst z hz⟩
    · obtain ⟨z, hz, rfl⟩ := List.mem_map.mp hu
      obtain ⟨y, hy, rfl⟩ := List.mem_map.mp hv
      rw [(hfst z hz).eq, (hfst y hy).eq] at e
      rw [inj z hz y hy e]
  refine sorted_fsts hL.isList (by rw [List.length_map]; exact h64) ok fun out h1 h2 => ?_
  have hsp := sortP_perm zs
  have eo : out.toList = (sortP zs).map fun z => z.2.2.2 := by
    refine sorted_uniq (r := fstOf s.heap) (h1.trans (hsp.map _).symm) h2 ?_ fun x hx y hy e => ok.2 x (h1.mem_iff.mp hx) y (h1.mem_iff.mp hy) e
    rw [List.pairwise_map]
    refine List.Pairwise.imp_of_mem (fun {p q} hp hq h => ?_) (sortP_pair zs)
    rw [(hfst p (hsp.mem_iff.mp hp)).eq, (hfst q (hsp.mem_iff.mp hq)).eq]
    exact h
  obtain ⟨g1, g2⟩ := zs_rvs (K := X.K) (as := as) (H := H) (zs := sortP zs) fun z hz => hzs z (hsp.mem_iff.mp hz)
  have e3 : (sortP (zs.map fun z => (z.1, z.2.1))).map (fun p => D.tup [.int p.1, p.2]) = (sortP zs).map fun z => .tup [.int z.1, z.2.1] := by
    rw [sortP_map (fun z : D × V × Value => z.1) zs, List.map_map]; rfl
  rw [e3] at q
  obtain ⟨ep, e1⟩ := PyProof.Rows.sortedAll_at s.heap (zs.map fun z => z.2.2.2) out
  refine ⟨.ref _, upd H (s.heap.objs.size + 1) (.lst ((sortP zs).map fun z => z.2.2.1)), I.laid (t' := s.toks) (fun _ _ => PyProof.Rows.sortedAll_old) (Nat.le_succ _) ?_, rfl, q _ _ g1 (I.hok.fresh (Nat.le_succ _))⟩
  refine ⟨?_, out.toList, ep, by rw [eo]; exact g2, e1⟩
  rw [List.length_map, hsp.length_eq]
  rw [List.length_map] at hz
  exact hz
end
end PL

set_option Elab.async false
set_option linter.all false
set_option maxRecDepth 100000
set_option maxHeartbeats 1000000
/-! PLD: slices, stores, built-ins, methods. -/
namespace PL
open PySem PySem.Spec PyProof.Rows L2

section
variable {X : Cx}
/-! ### slices -/
def tPartA (t : TE) : TO := fun σ H Q => t σ H fun x H1 => (∃ i, x = .int i ∧ Q (some i) H1) ∨ (x = .non ∧ Q none H1)
theorem po_any {e : Expr} {te : TE} (h : L2.PE X e te) : PO X (some e) (tPartA te) := by
  refine ⟨fun pins s σ H Q I hw => ?_⟩
  rw [evalPart_some]
  refine thn (h.run pins s σ H _ I hw) fun u s1 ⟨x, H1, I1, r1, q1⟩ => ?_
  rcases q1 with ⟨i, rfl, q⟩ | ⟨rfl, q⟩
  · obtain ⟨t, rfl⟩ := r1
    exact ⟨some i, H1, I1, .int i t, q⟩
  · cases r1
    exact ⟨none, H1, I1, .none, q⟩
theorem cutD_of {K : PySem.W.Frag} {as : List Addr} {H : Hp} {ds : List D} {vs : List V} (h : RVs K as H ds vs) (lo hi : Option Int) : RVs K as H (cutD ds lo hi) (cutV vs lo hi) := by
  unfold cutD cutV
  rw [h.length]
  exact (h.drop _).take _
/-- a slice by its parts -/
def slO (a : D) (l h : Option Int) (st : Sto) : Res D := match a with
  | .tup xs => .ok (.tup (cutD xs l h)) st
  | .scr xs => .ok (.ref st.length) (st ++ [.lst (cutD xs l h)])
  | .str x => if x.length ≤ sizeLine then .ok (.str ⟨(cutD x.cps.toList l h).toArray⟩) st else .bad
  | .ref r => match st[r]? with
    | some (.lst xs) => .ok (.ref st.length) (st ++ [.lst (cutD xs l h)])
    | _ => .bad
  | _ => .bad
theorem slD_eq {a lo hi : D} {st : Sto} {P : D → List Addr → Hp → Prop} {K : PySem.W.Frag} {as : List Addr} {H : Hp} (g : Good K P as H (slD a lo hi st)) :
    ∃ l h, partD lo = some l ∧ partD hi = some h ∧ Good K P as H (slO a l h st) := by
  unfold slD at g
  split at g
  · rename_i e1 e2; exact ⟨_, _, e1, e2, g⟩
  · rename_i e1 e2; exact ⟨_, _, e1, e2, g⟩
  · rename_i e1 e2; exact ⟨_, _, e1, e2, g⟩
  · rename_i e1 e2; exact ⟨_, _, e1, e2, g⟩
  · exact g.elim
def rSlU (K : PySem.W.Frag) : V → Option Int → Option Int → Hp → VK → Prop := fun v lo hi H Q => ∃ as st x, Rel K as st H ∧ RV K as H x v ∧ GE K Q as H (slO x lo hi st)
theorem cut_str (x : Str) (l h : Option Int) : (⟨(cutD x.cps.toList l h).toArray⟩ : Str) = cutS x l h := by
  unfold cutD cutS
  have e : x.cps.toList.length = x.length := by simp [Str.length]
  rw [e]
theorem sl_all : SlR X (rSlU X.K) := by
  intro pins s σ H v vv vl vu lo hi sl Q I rv hs pl pu h
  obtain ⟨as, st, x, rel, rx, g⟩ := h
  unfold slO at g
  split at g
  · rename_i xs
    obtain ⟨a, vs, rfl, h1, h2⟩ := rx
    refine sl_tupA pins s σ H _ _ vl vu lo hi sl Q I rv hs pl pu ⟨a, vs, rfl, h1, fun hw => ?_, fun _ => g.newT rel (cutD_of h2 lo hi)⟩
    have e : cutD xs lo hi = xs := by
      unfold cutD
      rw [h2.length, hw.1, hw.2, List.drop_zero, Nat.sub_zero]
      exact List.take_of_length_le (by rw [h2.length]; exact Nat.le_refl _)
    rw [e] at g
    exact g.here rel _ ⟨a, vs, rfl, h1, h2⟩
  · obtain ⟨a, vs, rfl, h1, h2⟩ := rx
    exact sl_list pins s σ H _ _ vl vu lo hi sl Q I rv hs pl pu ⟨a, vs, rfl, h1.l, g.newL rel (cutD_of h2 lo hi)⟩
  · have rx : v = _ := rx; subst rx
    split at g
    · rename_i hc
      rw [cut_str] at g
      exact sl_str pins s σ H _ _ vl vu lo hi sl Q I rv hs pl pu ⟨_, rfl, hc, g.here rel _ rfl⟩
    · exact g.elim
  · split at g
    · rename_i e
      obtain ⟨a, rfl, _, hro⟩ := rel.of_ref e rx
      obtain ⟨vs, h1, h2⟩ := ro_seq hro rfl
      exact sl_list pins s σ H _ _ vl vu lo hi sl Q I rv hs pl pu ⟨a, vs, rfl, h1, g.newL rel (cutD_of h2 lo hi)⟩
    · exact g.elim
  · exact g.elim

/-! ### o[i] = v -/
def rSetU (K : PySem.W.Frag) : TSet := fun o i v H Q => ∃ as st x y z st', Rel K as st H ∧ RV K as H x o ∧ RV K as H y i ∧ RV K as H z v ∧ setD x y z st = some st' ∧ ∀ H', Ext K as H as H' → Rel K as st' H' → Q H'
theorem putKV_of {K : PySem.W.Frag} {as : List Addr} {H : Hp} {k : Key} {d : D} {w : V} {kvs : List (Key × D)} {vs : List (Key × V)} (h : RKV K as H kvs vs) (r : RV K as H d w) : RKV K as H (putKV kvs k d) (putK vs k w) := by
  have len : ∀ {kvs : List (Key × D)} {vs : List (Key × V)}, RKV K as H kvs vs → (kvs.any fun kv => decide (kv.1 = k)) = (vs.any fun kv => decide (kv.1 = k)) := by
    intro kvs
    induction kvs with
    | nil => intro vs h; have h : vs = [] := h; subst h; rfl
    | cons p r ih =>
      intro vs h
      obtain ⟨v, vs', rfl, h1, h2⟩ := h
      rw [List.any_cons, List.any_cons, ih h2]
  have repl : ∀ {kvs : List (Key × D)} {vs : List (Key × V)}, RKV K as H kvs vs → RKV K as H (kvs.map fun kv => if kv.1 = k then (kv.1, d) else kv) (vs.map fun kv => if kv.1 = k then (kv.1, w) else kv) := by
    intro kvs
    induction kvs with
    | nil => intro vs h; have h : vs = [] := h; subst h; rfl
    | cons p r0 ih =>
      intro vs h
      obtain ⟨v, vs', rfl, h1, h2⟩ := h
      rw [List.map_cons, List.map_cons]
      by_cases e : p.1 = k
      · rw [if_pos e, if_pos e]; exact ⟨w, _, rfl, r, ih h2⟩
      · rw [if_neg e, if_neg e]; exact ⟨v, _, rfl, h1, ih h2⟩
  have app : ∀ {kvs : List (Key × D)} {vs : List (Key × V)}, RKV K as H kvs vs → RKV K as H (kvs ++ [(k, d)]) (vs ++ [(k, w)]) := by
    intro kvs
    induction kvs with
    | nil => intro vs h; have h : vs = [] := h; subst h; exact ⟨w, [], rfl, r, rfl⟩
    | cons p r0 ih =>
      intro vs h
      obtain ⟨v, vs', rfl, h1, h2⟩ := h
      exact ⟨v, _, rfl, h1, ih h2⟩
  unfold putKV putK
  rw [len h]
  split
  · exact repl h
  · exact app h
theorem RKV.length {K : PySem.W.Frag} {as : List Addr} {H : Hp} : ∀ {kvs : List (Key × D)} {vs : List (Key × V)}, RKV K as H kvs vs → kvs.length = vs.length
  | [], _, h => by have h : _ = [] := h; subst h; rfl
  | p :: r, _, h => by
    obtain ⟨v, vs', rfl, h1, h2⟩ := h
    rw [List.length_cons, List.length_cons, RKV.length h2]
theorem set_all (hu : X.A.units + 1 < cLine) : PSet X (rSetU X.K) := by
  intro pins s σ H o i v ov iv u Q I ro ri rv h
  obtain ⟨as, st, x, y, z, st', rel, rx, ry, rz, e, q⟩ := h
  unfold setD at e
  split at e
  · rename_i r
    split at e
    · rename_i xs k e1
      obtain ⟨j, e2, rfl⟩ := Option.map_eq_some_iff.mp e
      obtain ⟨a, vs, rfl, ha, h1, h2⟩ := lst_of rel e1 rx
      have ry : i = _ := ry; subst ry
      have hw := rel.write (o' := .lst (xs.set j z)) (ho := .lst (vs.set j v)) e1 ha rfl rfl fun ex => ⟨_, upd_same, RVs.mono ex _ _ (h2.set j rz)⟩
      exact set_list pins s σ H _ _ _ _ _ _ Q I ro ri rv ⟨a, vs, k, j, rfl, rfl, h1, by rw [← h2.length]; exact e2, q _ hw.2 hw.1⟩
    · rename_i k kvs e1
      split at e
      · rename_i k' hk
        split at e
        · rename_i hl
          cases e
          obtain ⟨a, rfl, ha, vs, h1, h2⟩ := rel.of_ref e1 rx
          have := keyD_of hk ry
          subst this
          have hw := rel.write (o' := .dct (putKV kvs k' z)) (ho := .dK (putK vs k' v)) e1 ha rfl rfl fun ex => ⟨_, upd_same, RKV.mono ex _ _ (putKV_of h2 rz)⟩
          cases ro
          exact d_setItem hu I (DPut.k h1 (by rw [← h2.length]; exact hl)) ri rv fun s' I' => ⟨_, I', q _ hw.2 hw.1⟩
        · cases e
      · cases e
    · cases e
  · cases e

/-! ### built-ins -/
/-- what a context allows -/
structure Fit (X : Cx) : Prop where
  hu : X.A.units + 100 < cLine
  hg : X.A.guards = some []
  hc : X.calm = true
  sy : sysB X.K = true
def Blt.val : Blt → Value
  | .len => .builtin "len" | .abs => .builtin "abs" | .int => .type "int" | .tuple => .type "tuple" | .list => .type "list" | .min2 => .builtin "min" | .max2 => .builtin "max"
  | .repr => .builtin "repr" | .strI => .type "str" | .isi _ => .builtin "isinstance" | .dictP => .type "dict" | .srt => .builtin "sorted"
def rCallU (K : PySem.W.Frag) (b : Blt) : List V → Hp → VK → Prop := fun vs H Q => ∃ as st ds, Rel K as st H ∧ RVs K as H ds vs ∧ GE K Q as H (bltD b ds st)
theorem rvs_one {K : PySem.W.Frag} {as : List Addr} {H : Hp} {d : D} {vs : List V} (h : RVs K as H [d] vs) : ∃ v, vs = [v] ∧ RV K as H d v := by
  obtain ⟨v, vs', rfl, h1, h2⟩ := h
  have h2 : vs' = [] := h2
  subst h2
  exact ⟨v, rfl, h1⟩
theorem rvs_two {K : PySem.W.Frag} {as : List Addr} {H : Hp} {d e : D} {vs : List V} (h : RVs K as H [d, e] vs) : ∃ v u, vs = [v, u] ∧ RV K as H d v ∧ RV K as H e u := by
  obtain ⟨v, vs', rfl, h1, h2⟩ := h
  obtain ⟨u, rfl, h3⟩ := rvs_one h2
  exact ⟨v, u, rfl, h1, h3⟩
def Ty.nm : Ty → String
  | .int => "int" | .bool => "bool" | .str => "str" | .tup => "tuple" | .lst => "list" | .dct => "dict"
theorem kit_all (u t : Ty) : kitB u.nm t.nm = some (decide (u = t) || (decide (u = .bool) && decide (t = .int))) := by
  cases u <;> cases t <;> decide +kernel
theorem kit_none (t : Ty) : kitB "NoneType" t.nm = some false := by
  cases t <;> decide +kernel
theorem tyX_of {K : PySem.W.Frag} {as : List Addr} {H : Hp} {st : Sto} {d : D} {v : V} {t : Ty} (rel : Rel K as st H) (h : tyD st d = some t) (rv : RV K as H d v) : TyX K H v (.type t.nm) := by
  have sq : ∀ a vs, SqL K H a vs → TyX K H (.ref a) (.type "list") := fun a vs h => by
    rcases h with (h | ⟨o, h⟩) | ⟨o, its, n, h, hc, _⟩
    · exact .base (.lst h)
    · exact .base (.frz h)
    · exact .kList h hc
  unfold tyD at h
  split at h
  · cases h; have rv : v = _ := rv; subst rv; exact .base (.bl _)
  · cases h; have rv : v = _ := rv; subst rv; exact .base (.int _)
  · cases h; have rv : v = _ := rv; subst rv; exact .base (.str _)
  · cases h
    obtain ⟨a, vs, rfl, h1, _⟩ := rv
    rcases h1 with (h | ⟨o, h⟩) | ⟨o, its, n, h, hc, _⟩
    · exact .base (.tup h)
    · exact .fTuple h
    · exact .kTuple h hc
  · cases h
    obtain ⟨a, vs, rfl, h1, _⟩ := rv
    exact sq a vs h1.l
  · split at h
    · rename_i e; cases h
      obtain ⟨a, rfl, _, hro⟩ := rel.of_ref e rv
      obtain ⟨vs, h1, _⟩ := ro_seq hro rfl
      exact sq a vs h1
    · rename_i e; cases h
      obtain ⟨a, rfl, _, vs, h1, _⟩ := rel.of_ref e rv
      exact .base (.dK h1)
    · cases h
  · cases h; have rv : v = _ := rv; subst rv; exact .base (.str _)
  · cases h
  · cases h
theorem isi_run {pins : List (Addr × Obj)} {s : Shared} {σ : L2.St} {H : Hp} {v : V} {us : List Value} {Q : VK} {t : Ty} (I : Inv X pins σ H s) (r : Vals [v, .ty t.nm] us)
    {as : List Addr} {st : Sto} {d : D} {b : Bool} (rel : Rel X.K as st H) (rv : RV X.K as H d v) (e : isiD st t d = some b) (q : Q (.bl b) H) : wpAny (model X.prog X.w) X.A (call (.builtin "isinstance") us) (EP X pins σ Q) X.xe s := by
  unfold isiD at e
  split at e
  · cases e; have rv : v = _ := rv; subst rv
    exact call_isi pins s σ H _ us Q I r ⟨_, _, _, _, _, rfl, .ty _, .base .non, kit_ty (kit_none t), q⟩
  · split at e
    · rename_i u hu; cases e
      exact call_isi pins s σ H _ us Q I r ⟨_, _, _, _, _, rfl, .ty _, tyX_of rel hu rv, kit_ty (kit_all u t), q⟩
    · cases e
theorem repr_run (fx : Fit X) {pins : List (Addr × Obj)} {s : Shared} {σ : L2.St} {H : Hp} {v : V} {u : Value} {Q : VK} (I : Inv X pins σ H s) (r : RelV v u)
    {as : List Addr} {st : Sto} {d : D} {p : PyData} (rel : Rel X.K as st H) (rv : RV X.K as H d v) (e : toPyR st 60 d = some p) (h1 : layD p = true) (h2 : p.showable = true) (h3 : showCost p ≤ sizeLine) (q : Q (.str p.shown) H) :
    wpAny (model X.prog X.w) X.A (call (.builtin "repr") [u]) (EP X pins σ Q) X.xe s := by
  obtain ⟨⟨bs, rd, rs⟩, dp⟩ := readsR_of fx.sy I rel 60 d p v u e rv r
  have hsz : p.shown.length ≤ sizeLine := Nat.le_trans (shown_len p h1) h3
  have hu := fx.hu
  have fin : ∀ t, EP X pins σ Q (.str p.shown t) { s with toks := s.toks + 1 } := fun t => ⟨.str p.shown, H, I.tok _, ⟨t, rfl⟩, q⟩
  cases rd with
  | none => exact PySem.P.repr_of_none (fin _)
  | bool b => exact PySem.P.repr_of_bool (by have := fin s.toks; rw [PyData.shown_bool] at this; exact this)
  | int i t => exact PySem.P.repr_of_int (by simpa [PyData.showable] using h2) (by have := fin s.toks; rw [PyData.shown_int] at this; exact this)
  | str x t => exact PySem.P.repr_of_str (by have := fin s.toks; rw [PyData.shown_str] at this; exact this) (by rw [PyData.shown_str] at hsz; exact hsz)
  | list a1 a2 a3 a4 => exact repr_of_reads' (.list a1 a2 a3 a4) h2 (fun _ => rs) fx.hg (by omega) (fun _ _ e => e) (fun h' u tk hk => ⟨.str _, H, I.kept hk, ⟨u, rfl⟩, q⟩) hsz
  | tuple a1 a2 a3 a4 => exact repr_of_reads' (.tuple a1 a2 a3 a4) h2 (fun _ => rs) fx.hg (by omega) (fun _ _ e => e) (fun h' u tk hk => ⟨.str _, H, I.kept hk, ⟨u, rfl⟩, q⟩) hsz
  | dict a1 a2 a3 a4 a5 => exact repr_of_reads' (.dict a1 a2 a3 a4 a5) h2 (fun _ => rs) fx.hg (by omega) (fun _ _ e => e) (fun h' u tk hk => ⟨.str _, H, I.kept hk, ⟨u, rfl⟩, q⟩) hsz
theorem insI_perm (i : Int) : ∀ l : List Int, (insI i l).Perm (i :: l)
  | [] => .refl _
  | j :: r => by
    unfold insI
    split
    · exact .refl _
    · exact ((insI_perm i r).cons j).trans (.swap i j r)
theorem insI_pair {i : Int} : ∀ {l : List Int}, l.Pairwise (· ≤ ·) → (insI i l).Pairwise (· ≤ ·)
  | [], _ => .cons (fun _ h => by cases h) .nil
  | j :: r, .cons h t => by
    unfold insI
    split
    · rename_i c
      exact .cons (fun x hx => by
        rcases List.mem_cons.mp hx with rfl | hx
        · exact c
        · exact Int.le_trans c (h x hx)) (.cons h t)
    · rename_i c
      refine .cons (fun x hx => ?_) (insI_pair t)
      rcases List.mem_cons.mp ((insI_perm i r).mem_iff.mp hx) with rfl | hx
      · omega
      · exact h x hx
theorem sortI_perm : ∀ l : List Int, (sortI l).Perm l
  | [] => .refl _
  | i :: r => (insI_perm i _).trans ((sortI_perm r).cons i)
theorem sortI_pair : ∀ l : List Int, (sortI l).Pairwise (· ≤ ·)
  | [] => .nil
  | _ :: r => insI_pair (sortI_pair r)
theorem pair_uniq : ∀ {l m : List Int}, l.Perm m → l.Pairwise (· ≤ ·) → m.Pairwise (· ≤ ·) → l = m
  | [], m, p, _, _ => by rw [List.nil_perm.mp p]
  | a :: l, [], p, _, _ => absurd p.symm (by rw [List.nil_perm]; exact fun z => nomatch z)
  | a :: l, b :: m, p, .cons h t, .cons h' t' => by
    have e : a = b := by
      have h1 : b ∈ a :: l := p.mem_iff.mpr List.mem_cons_self
      have h2 : a ∈ b :: m := p.mem_iff.mp List.mem_cons_self
      rcases List.mem_cons.mp h1 with e | h1
      · exact e.symm
      · rcases List.mem_cons.mp h2 with e | h2
        · exact e
        · exact Int.le_antisymm (h b h1) (h' a h2)
    subst e
    rw [pair_uniq (List.Perm.cons_inv p) t t']
theorem sortI_of {ms ns : List Int} (p : ms.Perm ns) (q : ms.Pairwise (· ≤ ·)) : ms = sortI ns := pair_uniq (p.trans (sortI_perm ns).symm) q (sortI_pair ns)
theorem rvs_intsL {K : PySem.W.Frag} {as : List Addr} {H : Hp} : ∀ ns : List Int, RVs K as H (ns.map D.int) (ns.map V.int)
  | [] => rfl
  | i :: r => ⟨.int i, r.map V.int, rfl, rfl, rvs_intsL r⟩
theorem ints_rvs {K : PySem.W.Frag} {as : List Addr} {H : Hp} : ∀ {xs : List D} {ns : List Int} {ws : List V}, intsD xs = some ns → RVs K as H xs ws → ws = ns.map V.int
  | [], _, _, e, r => by cases e; exact r
  | d :: xs, ns, ws, e, r => by
    obtain ⟨v, vs, rfl, h1, h2⟩ := r
    cases d <;> first | (cases e; done) | skip
    obtain ⟨ms, e1, rfl⟩ := Option.map_eq_some_iff.mp e
    have h1 : v = _ := h1
    rw [h1, ints_rvs e1 h2]; rfl
def Blt.plain : Blt → Bool
  | .isi _ => false
  | .dictP => false
  | _ => true
theorem call_all (fx : Fit X) (b : Blt) (hb : b.plain = true) : CallR X b.val (rCallU X.K b) := by
  intro pins s σ H vs us Q I r h
  obtain ⟨as, st, ds, rel, rd, g⟩ := h
  have hc := fx.hc
  unfold bltD at g
  split at g
  · obtain ⟨v, rfl, a, ws, rfl, h1, h2⟩ := rvs_one rd
    refine call_len_seq pins s σ H _ us Q I r ⟨a, ws, rfl, .inr h1, ?_⟩
    rw [← h2.length]; exact g.here rel _ rfl
  · obtain ⟨v, rfl, a, ws, rfl, h1, h2⟩ := rvs_one rd
    refine call_len_seq pins s σ H _ us Q I r ⟨a, ws, rfl, .inl h1.l, ?_⟩
    rw [← h2.length]; exact g.here rel _ rfl
  · obtain ⟨v, rfl, rv⟩ := rvs_one rd
    obtain ⟨a, ws, rfl, h1, h2⟩ := rv_ent rv
    refine call_len_seq pins s σ H _ us Q I r ⟨a, ws, rfl, .inr h1, ?_⟩
    rw [← h2.length, List.length_map]; exact g.here rel _ rfl
  · obtain ⟨v, rfl, rv⟩ := rvs_one rd
    have rv : v = _ := rv; subst rv
    split at g
    · rename_i hl; exact call_len_str pins s σ H _ us Q I r ⟨_, rfl, hl, g.here rel _ rfl⟩
    · exact g.elim
  · obtain ⟨v, rfl, rv⟩ := rvs_one rd
    split at g
    · rename_i e
      obtain ⟨a, rfl, _, hro⟩ := rel.of_ref e rv
      obtain ⟨ws, h1, h2⟩ := ro_seq hro rfl
      refine call_len_seq pins s σ H _ us Q I r ⟨a, ws, rfl, .inl h1, ?_⟩
      rw [← h2.length]; exact g.here rel _ rfl
    · exact g.elim
  · obtain ⟨v, rfl, rv⟩ := rvs_one rd
    have rv : v = _ := rv; subst rv
    exact call_abs pins s σ H _ us Q I r ⟨_, rfl, g.here rel _ rfl⟩
  · obtain ⟨v, rfl, rv⟩ := rvs_one rd
    have rv : v = _ := rv; subst rv
    exact call_int1 pins s σ H _ us Q I r (.inl ⟨_, rfl, g.here rel _ rfl⟩)
  · obtain ⟨v, rfl, rv⟩ := rvs_one rd
    have rv : v = _ := rv; subst rv
    exact call_int1 pins s σ H _ us Q I r (.inr ⟨_, rfl, g.here rel _ rfl⟩)
  · obtain ⟨v, rfl, a, ws, rfl, h1, h2⟩ := rvs_one rd
    exact call_tuple_of pins s σ H _ us Q I r ⟨a, ws, rfl, .inr ⟨h1, g.here rel _ ⟨a, ws, rfl, h1, h2⟩⟩⟩
  · obtain ⟨v, rfl, a, ws, rfl, h1, h2⟩ := rvs_one rd
    exact call_tuple_of pins s σ H _ us Q I r ⟨a, ws, rfl, .inl ⟨h1.l, g.newT rel h2⟩⟩
  · obtain ⟨v, rfl, rv⟩ := rvs_one rd
    split at g
    · rename_i e
      obtain ⟨a, rfl, _, hro⟩ := rel.of_ref e rv
      obtain ⟨ws, h1, h2⟩ := ro_seq hro rfl
      exact call_tuple_of pins s σ H _ us Q I r ⟨a, ws, rfl, .inl ⟨h1, g.newT rel h2⟩⟩
    · exact g.elim
  · obtain ⟨v, rfl, a, ws, rfl, h1, h2⟩ := rvs_one rd
    exact call_list_of pins s σ H _ us Q I r ⟨a, ws, rfl, .inr h1, g.newL rel h2⟩
  · obtain ⟨v, rfl, a, ws, rfl, h1, h2⟩ := rvs_one rd
    exact call_list_of pins s σ H _ us Q I r ⟨a, ws, rfl, .inl h1.l, g.newL rel h2⟩
  · obtain ⟨v, rfl, rv⟩ := rvs_one rd
    split at g
    · rename_i e
      obtain ⟨a, rfl, _, hro⟩ := rel.of_ref e rv
      obtain ⟨ws, h1, h2⟩ := ro_seq hro rfl
      exact call_list_of pins s σ H _ us Q I r ⟨a, ws, rfl, .inl h1, g.newL rel h2⟩
    · exact g.elim
  · obtain ⟨v, u, rfl, rv, ru⟩ := rvs_two rd
    have rv : v = _ := rv; have ru : u = _ := ru; subst rv; subst ru
    exact call_min2 hc pins s σ H _ us Q I r ⟨_, _, rfl, g.here rel _ rfl⟩
  · obtain ⟨v, u, rfl, rv, ru⟩ := rvs_two rd
    have rv : v = _ := rv; have ru : u = _ := ru; subst rv; subst ru
    exact call_max2 hc pins s σ H _ us Q I r ⟨_, _, rfl, g.here rel _ rfl⟩
  · obtain ⟨v, rfl, rv⟩ := rvs_one rd
    obtain ⟨u, rfl, ru⟩ := r.one
    split at g
    · rename_i p e
      split at g
      · rename_i hk
        simp only [Bool.and_eq_true, decide_eq_true_eq] at hk
        exact repr_run fx I ru rel rv e hk.1 hk.2.1 hk.2.2 (g.here rel _ rfl)
      · exact g.elim
    · exact g.elim
  · obtain ⟨v, rfl, rv⟩ := rvs_one rd
    have rv : v = _ := rv; subst rv
    split at g
    · rename_i hl; exact call_str_int pins s σ H _ us Q I r ⟨_, rfl, of_decide_eq_true hl, g.here rel _ rfl⟩
    · exact g.elim
  · cases hb
  · obtain ⟨v, rfl, rv⟩ := rvs_one rd
    split at g
    · rename_i xs e
      split at g
      · rename_i ns en
        split at g
        · rename_i hl
          have fin : ∀ (ms : List Int) (q : Addr), ms.Perm ns → ms.Pairwise (· ≤ ·) → H q = none → Q (.ref q) (upd H q (.lst (ms.map V.int))) := fun ms q p1 p2 hq => by
            rw [sortI_of p1 p2]
            exact g.newL rel (rvs_intsL _) q hq
          unfold itemsD at e
          split at e
          · cases e
            obtain ⟨a, ws, rfl, h1, h2⟩ := rv
            rw [ints_rvs en h2] at h1
            exact cr_sortT pins s σ H _ us Q I r ⟨a, ns, rfl, h1, fin⟩
          · cases e
            obtain ⟨a, ws, rfl, h1, h2⟩ := rv
            rw [ints_rvs en h2] at h1
            exact cr_sorted pins s σ H _ us Q I r ⟨a, ns, rfl, h1.l, hl, fin⟩
          · split at e
            · rename_i e2
              cases e
              obtain ⟨a, rfl, _, hro⟩ := rel.of_ref e2 rv
              obtain ⟨ws, h1, h2⟩ := ro_seq hro rfl
              rw [ints_rvs en h2] at h1
              exact cr_sorted pins s σ H _ us Q I r ⟨a, ns, rfl, h1, hl, fin⟩
            · cases e
          · cases e
        · exact g.elim
      · split at g
        · rename_i ps ep
          split at g
          · rename_i hl
            unfold itemsD at e
            simp only [] at e
            split at e
            · rename_i e2
              cases e
              obtain ⟨a, rfl, _, hro⟩ := rel.of_ref e2 rv
              obtain ⟨ws, h1, h2⟩ := ro_seq hro rfl
              exact cr_sortF I r rel rfl h1 h2 ep hl.1 hl.2 fun ws' p rw' hp => g.newL rel rw' p hp
            · cases e
          · exact g.elim
        · exact g.elim
    · exact g.elim
  · cases hb
  · exact g.elim

/-! ### methods of lists -/
def Mt.id : Mt → String
  | .append => "list.append" | .pop0 => "list.pop" | .popAt => "list.pop" | .insert => "list.insert" | .extend => "list.extend"
def rMtU (K : PySem.W.Frag) (m : Mt) : V → List V → Hp → VK → Prop := fun v vs H Q => ∃ as st o ds, Rel K as st H ∧ RV K as H o v ∧ RVs K as H ds vs ∧ GE K Q as H (methD m o ds st)
theorem mt_all (m : Mt) : MtR X m.id (rMtU X.K m) := by
  intro pins s σ H v vs vv us Q I rv rvs h
  obtain ⟨as, st, o, ds, rel, ro, rd, g⟩ := h
  unfold methD at g
  split at g
  · rename_i n
    split at g
    · rename_i xs e
      obtain ⟨a, ws, rfl, ha, h1, h2⟩ := lst_of rel e ro
      have wr : ∀ (ys : List D) (zs : List V) (d : D) (w : V), RVs X.K as H ys zs → RV X.K as H d w → GE X.K Q as H (.ok d (st.set n (.lst ys))) → Q w (upd H a (.lst zs)) := fun ys zs d w r1 r2 g => by
        have hw := rel.write (o' := .lst ys) (ho := .lst zs) e ha rfl rfl fun ex => ⟨_, upd_same, RVs.mono ex _ _ r1⟩
        exact g _ _ hw.2 hw.1 _ (RV.mono hw.2 _ _ r2)
      split at g
      · obtain ⟨y, rfl, ry⟩ := rvs_one rd
        split at g
        · rename_i hl
          exact mt_append pins s σ H _ _ _ _ Q I rv rvs ⟨a, ws, y, rfl, rfl, h1, by rw [← h2.length]; exact hl, wr _ _ .non _ (h2.append (RVs.one ry)) rfl g⟩
        · exact g.elim
      · have rd : vs = [] := rd
        subst rd
        split at g
        · rename_i d hd
          obtain ⟨w, e1, e2⟩ := h2.get hd
          exact mt_pop pins s σ H _ _ _ _ Q I rv rvs ⟨a, ws, w, rfl, rfl, h1, by rw [← h2.length]; exact e1, wr _ _ _ _ h2.dropLast e2 g⟩
        · exact g.elim
      · obtain ⟨y, rfl, ry⟩ := rvs_one rd
        have ry : y = _ := ry; subst ry
        split at g
        · rename_i hb
          simp only [Bool.and_eq_true, decide_eq_true_eq] at hb
          split at g
          · rename_i k hk
            split at g
            · rename_i d hd
              obtain ⟨w, e1, e2⟩ := h2.get hd
              exact mt_popAt pins s σ H _ _ _ _ Q I rv rvs ⟨a, ws, _, k, w, rfl, rfl, h1, hb.1, hb.2, by rw [← h2.length]; exact hk, e1, wr _ _ _ _ (h2.eraseIdx k) e2 g⟩
            · exact g.elim
          · exact g.elim
        · exact g.elim
      · obtain ⟨y, u, rfl, ry, ru⟩ := rvs_two rd
        have ry : y = _ := ry; subst ry
        split at g
        · rename_i hb
          simp only [Bool.and_eq_true, decide_eq_true_eq] at hb
          exact mt_insert pins s σ H _ _ _ _ Q I rv rvs ⟨a, ws, _, u, rfl, rfl, h1, by rw [← h2.length]; exact hb.1, hb.2.1, hb.2.2, wr _ _ .non _ (((h2.take _).append (RVs.one ru)).append (h2.drop _)) rfl g⟩
        · exact g.elim
      · obtain ⟨y, rfl, ry⟩ := rvs_one rd
        split at g
        · rename_i ys e2
          obtain ⟨b, zs, rfl, _, h3, h4⟩ := lst_of rel e2 ry
          split at g
          · rename_i hl
            exact mt_extend pins s σ H _ _ _ _ Q I rv rvs ⟨a, b, ws, zs, rfl, rfl, h1, h3, by rw [← h2.length, ← h4.length]; exact hl, wr _ _ .non _ (h2.append h4) rfl g⟩
          · exact g.elim
        · exact g.elim
      · exact g.elim
    · exact g.elim
  · exact g.elim
end
end PL

set_option Elab.async false
set_option linter.all false
set_option maxRecDepth 100000
set_option maxHeartbeats 1000000
/-! PLI: what for and comprehensions walk: lists and tuples, numbered ones, two beside one another, in any mix. -/
namespace PL
open PySem PySem.Spec PyProof.Rows L2

/-- a list, a tuple -/
inductive Sk where | L | T
def SqK (k : Sk) (K : PySem.W.Frag) (H : Hp) (a : Addr) (xs : List V) : Prop := match k with
  | .L => SqL K H a xs
  | .T => SqT K H a xs
def SeqIs (k : Sk) (h : Heap) (a : Addr) (items : Array Value) : Prop := match k with
  | .L => h.IsList a items
  | .T => h.IsTuple a items
def ItIs (k : Sk) (h : Heap) (it a : Addr) (i : Nat) : Prop := match k with
  | .L => h.IsListIter it a i
  | .T => h.IsTupleIter it a i
def itObj (k : Sk) (a : Addr) : Obj := match k with
  | .L => { cls := .type "list_iterator", data := .fields #[.ref a, .int 0 0] }
  | .T => { cls := .type "tuple_iterator", data := .fields #[.ref a, .int 0 0] }
section
variable {X : Cx} {pins : List (Addr × Obj)} {σ : L2.St} {H : Hp} {s : Shared} {a : Addr} {xs ys : List V} {k : Sk}
theorem inv_seq (I : Inv X pins σ H s) (h : SqK k X.K H a xs) : ∃ its : List Value, Vals xs its ∧ SeqIs k s.heap a its.toArray ∧ xs.length ≤ sizeLine ∧ a < s.heap.objs.size := by
  cases k with
  | L =>
    obtain ⟨its, r, p, hz⟩ := I.list h
    exact ⟨its, r, p.isList, hz, p.lt⟩
  | T =>
    obtain ⟨its, r, p, hz⟩ := I.tuple h
    exact ⟨its, r, p, hz, p.lt⟩
theorem inv_inj (I : Inv X pins σ H s) (h : SqK k X.K H a xs) (h' : SqK k X.K H a ys) : xs = ys := by
  cases k with
  | L => exact I.list_inj h h'
  | T => exact I.tuple_inj h h'
end
theorem itIs_new (k : Sk) (h : Heap) (it a : Addr) (e : h.get? it = some (itObj k a)) : ItIs k h it a 0 := by
  cases k with
  | L => exact ⟨_, e, rfl, rfl⟩
  | T => exact ⟨_, e, rfl, rfl⟩
theorem itIs_at {k : Sk} {h h' : Heap} {it a : Addr} {i : Nat} (x : ItIs k h it a i) (e : ∀ o, h.get? it = some o → h'.get? it = some o) : ItIs k h' it a i := by
  cases k with
  | L => exact Heap.IsListIter.at x e
  | T => exact Heap.IsTupleIter.at x e
theorem itIs_obj {k : Sk} {h : Heap} {it a : Addr} {i : Nat} (x : ItIs k h it a i) : ∃ o, h.get? it = some o ∧ ∀ v, o.data ≠ .cell v := by
  cases k with
  | L => obtain ⟨o, e, c, d⟩ := x; exact ⟨o, e, fun v z => by rw [d] at z; cases z⟩
  | T => obtain ⟨o, e, c, d⟩ := x; exact ⟨o, e, fun v z => by rw [d] at z; cases z⟩
theorem begins_seq (k : Sk) (a : Addr) (items : Array Value) : Begins (.ref a) (itObj k a) fun h => SeqIs k h a items := by
  cases k with
  | L => exact begins_list a items
  | T => exact begins_tuple a items
theorem draws_seq (k : Sk) {prog : Program} {w : World} {A : Around} (hh : A.handled = none) (it a : Addr) (hne : a ≠ it) (items : Array Value) :
    Draws prog w A it [it, a] items.size (fun i v => items[i]? = some v) (fun i h => ItIs k h it a i ∧ SeqIs k h a items) := by
  cases k with
  | L => exact Draws.list hh it a hne items
  | T => exact Draws.tuple hh it a hne items
theorem seqIs_at {k : Sk} {h h' : Heap} {a : Addr} {items : Array Value} (x : SeqIs k h a items) (e : ∀ o, h.get? a = some o → h'.get? a = some o) : SeqIs k h' a items := by
  cases k with
  | L => exact Heap.IsList.at x e
  | T => exact Heap.IsTuple.at x e

/-! ### enumerate -/
def IteK (k : Sk) (K : PySem.W.Frag) (a : Addr) : It :=
  ⟨fun i H => ∃ (xs : List V) (x : V), SqK k K H a xs ∧ xs[i]? = some x, fun i H v H' => ∃ T x, v = .ref T ∧ H T = none ∧ H' = upd H T (.tup [.int (i : Nat), x]) ∧ ∀ xs, SqK k K H a xs → xs[i]? = some x,
    fun i H => ∃ xs : List V, SqK k K H a xs ∧ xs.length = i⟩
theorem turn_enumK {P : Program} {w : World} {K : PySem.W.Frag} {elts : List Expr} {kk : Nat} {tpos : Pos} (k : Sk) (a e it : Addr) :
    Turn P w K (.Tuple elts kk tpos) (IteK k K a) [e, it] e (fun i h => (∃ old, IsEnum h e it ((i : Nat) : Int) old) ∧ ItIs k h it a i ∧ e ≠ it ∧ a ≠ it ∧ a ≠ e) where
  mem := by simp
  obj := fun i h st b hb => by
    obtain ⟨⟨old, he⟩, hi, _⟩ := st
    have e' : b = e ∨ b = it := by simpa using hb
    rcases e' with z | z
    · rw [z]; exact ⟨_, he, fun v q => nomatch q⟩
    · rw [z]; exact itIs_obj hi
  keep := fun i h h' st kp => let ⟨⟨old, he⟩, hi, hne⟩ := st; ⟨⟨old, kp e (by simp) _ he⟩, itIs_at hi fun o q => kp it (by simp) o q, hne⟩
  item := by
    intro X hP hw hK hc i pins s σ H E I hf st hg
    subst hP hw hK
    obtain ⟨⟨old, he⟩, hit, hne, ha1, ha2⟩ := st
    obtain ⟨xs, x, hq, hx⟩ := hg
    obtain ⟨its, rv, p, hz, hal⟩ := inv_seq I hq
    obtain ⟨u, hu, ru⟩ := rv.get hx
    have hel : e < s.heap.objs.size := Heap.lt_size he
    have hil : it < s.heap.objs.size := by obtain ⟨o, q, _⟩ := itIs_obj hit; exact Heap.lt_size q
    have hi : i < its.toArray.size := by
      have := (List.getElem?_eq_some_iff.mp hu).1; simpa using this
    have W := GoesN.enumFrom (prog := X.prog) (w := X.w) (A := X.A) (elts := elts) (x1 := kk) (pos := tpos) 0 (draws_seq k (A := X.A.in1) (I.ok.hd hc) it a ha1 its.toArray) e hne (by simp [hne, Ne.symm ha2]) (by simp)
    refine W.goes i s _ E hi ⟨⟨old, by simpa using he⟩, hit, p⟩ fun v h' tk hY hst hk htk => ?_
    obtain ⟨T, t, y, rfl, hTn, hPy, hT⟩ := hY
    obtain ⟨⟨old', he'⟩, hit', p'⟩ := hst
    have hyu : y = u := by
      have h2 : its.toArray[i]? = some u := by simpa using hu
      rw [h2] at hPy; exact (Option.some.inj hPy).symm
    subst hyu
    have new : ObjOk X.prog X.w (upd H T (.tup [.int (i : Nat), x])) h' T (.tup [.int (i : Nat), x]) := by
      refine ⟨by show 2 ≤ sizeLine; decide, [.int (0 + (i : Int)) t, y], .cons ⟨_, by rw [Int.zero_add]⟩ (.cons ru .nil), ?_⟩
      obtain ⟨o, e1, e2, n, e3⟩ := hT
      exact ⟨o, e1, e2, n, e3⟩
    have I1 : Inv X pins σ (upd H T (.tup [.int (i : Nat), x])) { s with heap := h', toks := tk } :=
      I.turnedNew (ch := [e, it]) (fun b ob hb q => hk b ob hb q) hf hTn new
    refine ⟨.ref T, _, I1, rfl, ⟨T, x, rfl, I.hok.fresh hTn, rfl, fun ys hy => by rw [inv_inj I hy hq]; exact hx⟩, ⟨⟨old', ?_⟩, hit', hne, ha1, ha2⟩, fun b hb => ?_⟩
    · have e1 : (0 : Int) + ((i + 1 : Nat) : Int) = ((i + 1 : Nat) : Int) := by omega
      rw [← e1]; exact he'
    · have hb' : b < s.heap.objs.size := by
        have e' : b = e ∨ b = it := by simpa using hb
        rcases e' with z | z
        · rw [z]; exact hel
        · rw [z]; exact hil
      rw [upd_ne (Nat.ne_of_lt (Nat.lt_of_lt_of_le hb' hTn))]
      exact (hf b hb).1
  done := by
    intro X hP hw hK hc i pins s σ H E I hf st hg
    subst hP hw hK
    obtain ⟨⟨old, he⟩, hit, hne, ha1, ha2⟩ := st
    obtain ⟨xs, hq, hx⟩ := hg
    obtain ⟨its, rv, p, hz, hal⟩ := inv_seq I hq
    have hl := rv.length
    have hn : its.toArray.size = i := by simp; omega
    have W := GoesN.enumFrom (prog := X.prog) (w := X.w) (A := X.A) (elts := elts) (x1 := kk) (pos := tpos) 0 (draws_seq k (A := X.A.in1) (I.ok.hd hc) it a ha1 its.toArray) e hne (by simp [hne, Ne.symm ha2]) (by simp)
    refine W.stops s _ E ⟨⟨old, by rw [hn]; simpa using he⟩, by rw [hn]; exact hit, p⟩ fun h' tk hk htk => ?_
    exact I.turnedL (ch := [e, it]) (fun b o hb q => hk b o hb q) hf
  self := fun A i s Q E st h => let ⟨⟨_, he⟩, _⟩ := st; wpAny_pyIter_enum he h
theorem meets_enumerate_newB1 {v : Value} {o : Obj} {H : Heap → Prop} (B : Begins v o H) :
    Meets (Builtin.«enumerate.__new__» ⟨[.type "enumerate", v], []⟩) (fun _ R s => H s.heap ∧
      R (.ok (.ret (.ref (s.heap.push o).objs.size))) { s with heap := (s.heap.push o).push { cls := .type "enumerate", data := .fields #[.none, .bool false, .ref s.heap.objs.size, rawInt 0, .none, .none] } }) :=
  .of_wp fun prog w A R s h => by
    obtain ⟨hp, g, d, tk, os⟩ := s; obtain ⟨h1, h⟩ := h
    have hsub := sub_enumerate
    have q1 : ∀ {A' : Around} {E : Value → Shared → Prop} {Q : Value → Shared → Prop}, Q (.ref hp.objs.size) ⟨hp.push o, g, d, tk, os⟩ → wpAny (model prog w) A' (pyIter v) Q E ⟨hp, g, d, tk, os⟩ :=
      fun q => B.iter prog w _ _ ⟨hp, g, d, tk, os⟩ _ h1 q
    wp_walk using q1
    refine wpAny_stack_any fun st => wpAny_pure ?_
    split
    · rename_i c _ _ _ _ _
      cases (c == Value.type "enumerate")
      · wp_walk using q1
        exact ⟨_, rfl, h⟩
      · wp_walk using q1
        exact ⟨_, rfl, h⟩
    · wp_walk using q1
      exact ⟨_, rfl, h⟩

section
variable {prog : Program} {w : World} {A : Around} {E : Value → Shared → Prop} {s : Shared}
/-- enumerate(v): its two new cells -/
theorem enum_begins1 {v : Value} {o : Obj} {H : Heap → Prop} {Q : Value → Shared → Prop} (B : Begins v o H) (h1 : H s.heap)
    (h : ∀ h', IsEnum h' (s.heap.objs.size + 1) s.heap.objs.size 0 .none → h'.get? s.heap.objs.size = some o → h'.objs.size = s.heap.objs.size + 2 →
      (∀ b o, s.heap.get? b = some o → h'.get? b = some o) → Q (.ref (s.heap.objs.size + 1)) { s with heap := h' }) :
    wpAny (model prog w) A (call (.type "enumerate") [v]) Q E s := by
  refine callType_new F.called_enumerate (by decide) (F.typeCall_enumerate_1 _) (F.newCall_enumerate_1 _) (fun obj => F.args_object_init_2 obj _) F.entry_enumerate_new
    (meets_enumerate_newB1 B) ⟨h1, ?_⟩
  have hz : (s.heap.push o).objs.size = s.heap.objs.size + 1 := Heap.size_push ..
  show _ ∧ _
  rw [hz]
  have he : IsEnum ((s.heap.push o).push { cls := .type "enumerate", data := .fields #[.none, .bool false, .ref s.heap.objs.size, rawInt 0, .none, .none] }) (s.heap.objs.size + 1) s.heap.objs.size 0 .none := by
    have := Heap.get?_push_size (s.heap.push o) (o := { cls := .type "enumerate", data := .fields #[.none, .bool false, .ref s.heap.objs.size, rawInt 0, .none, .none] }) rfl
    rw [hz] at this; exact this
  refine ⟨⟨_, he, rfl⟩, h _ he (Heap.get?_push_of_some _ (Heap.get?_push_size _ B.free)) (by rw [Heap.size_push, hz]) fun b o x => Heap.get?_push_of_some _ (Heap.get?_push_of_some _ x)⟩
end
def iEnumK (K : PySem.W.Frag) (ta : TA) : TI := fun σ H R => ta σ H fun vs H1 => ∃ k a xs, vs = [.ref a] ∧ SqK k K H1 a xs ∧ R (IteK k K a) H1
theorem pi_enumK {X : Cx} {e : Expr} {ta : TA} {p pos tpos : Pos} {elts : List Expr} {kk : Nat} (hg : Gl X "enumerate") (hm : X.mg "enumerate" = none) (ha : PA X [e] ta) (hs : starEach [e] X.env = [(false, eval e X.env)]) :
    PI X (.Tuple elts kk tpos) (.Call (.Name "enumerate" p) [e] [] pos) (iEnumK X.K ta) := by
  refine ⟨fun pins s σ H R I h => ?_⟩
  refine Call_ (ld_blt I hg hm boot_enumerate (PyProof.Rows.callWith_type1 (thn (ha.run pos pins s σ H _ I h) fun us s1 ⟨vs, H1, I1, r1, q1⟩ => ?_) hs rfl))
  obtain ⟨k, a, xs, ex, hq, q⟩ := q1
  subst ex
  cases r1 with
  | cons r rr =>
    cases rr
    cases r
    obtain ⟨its, rv, p', hz, hal⟩ := inv_seq I1 hq
    refine enum_begins1 (begins_seq k a its.toArray) p' fun h' he hit hsz hk => wpAny_pyIter_enum he ?_
    have I2 : Inv X pins σ H1 { s1 with heap := h' } := I1.kept (t' := s1.toks) hk
    refine ⟨s1.heap.objs.size + 1, [s1.heap.objs.size + 1, s1.heap.objs.size], _, _, H1, rfl, I2, turn_enumK k a (s1.heap.objs.size + 1) s1.heap.objs.size,
      ⟨⟨.none, he⟩, itIs_new k _ _ _ hit, Nat.succ_ne_self _, Nat.ne_of_lt hal, Nat.ne_of_lt (Nat.lt_succ_of_lt hal)⟩, fun b hb => ?_, q⟩
    have e' : b = s1.heap.objs.size + 1 ∨ b = s1.heap.objs.size := by simpa using hb
    have hle : s1.heap.objs.size ≤ b := by
      rcases e' with z | z
      · rw [z]; exact Nat.le_add_right _ _
      · rw [z]; exact Nat.le_refl _
    exact I1.fpOk hle (I1.hok.fresh hle)

/-! ### zip of two -/
def ItzK (k k' : Sk) (K : PySem.W.Frag) (a b : Addr) : It :=
  ⟨fun i H => ∃ (xs ys : List V) (x y : V), SqK k K H a xs ∧ SqK k' K H b ys ∧ xs[i]? = some x ∧ ys[i]? = some y,
    fun i H v H' => ∃ T x y, v = .ref T ∧ H T = none ∧ H' = upd H T (.tup [x, y]) ∧ (∀ xs, SqK k K H a xs → xs[i]? = some x) ∧ ∀ ys, SqK k' K H b ys → ys[i]? = some y,
    fun i H => ∃ xs ys : List V, SqK k K H a xs ∧ SqK k' K H b ys ∧ i = min xs.length ys.length⟩
/-- how the cells of a zip lie -/
structure ZApart (z TI TO i1 i2 a b : Addr) : Prop where
  TIz : TI ≠ z
  TOz : TO ≠ z
  TITO : TI ≠ TO
  TIi1 : TI ≠ i1
  TIi2 : TI ≠ i2
  zi1 : z ≠ i1
  zi2 : z ≠ i2
  TOi1 : TO ≠ i1
  TOi2 : TO ≠ i2
  i12 : i1 ≠ i2
  az : a ≠ z
  aTO : a ≠ TO
  ai1 : a ≠ i1
  ai2 : a ≠ i2
  bz : b ≠ z
  bTO : b ≠ TO
  bi1 : b ≠ i1
  bi2 : b ≠ i2
theorem zapart_new (N a b : Nat) (ha : a < N) (hb : b < N) : ZApart (N + 4) (N + 2) (N + 3) N (N + 1) a b := by
  have ne : ∀ {x y : Nat}, x ≠ y → (x : Addr) ≠ (y : Addr) := fun h => h
  constructor <;> (apply ne; omega)
theorem ZApart.sep {z TI TO i1 i2 a b : Addr} (D : ZApart z TI TO i1 i2 a b) : ZipSep2 z TI TO i1 i2 [i1, a] [i2, b] :=
  ⟨D.TIz, D.TOz, D.TITO, D.TIi1, by simp, by simp [D.zi1, Ne.symm D.az], by simp [D.TOi1, Ne.symm D.aTO], D.TIi2, by simp, by simp [D.zi2, Ne.symm D.bz], by simp [D.TOi2, Ne.symm D.bTO],
    by simp [D.i12, Ne.symm D.bi1], by simp [Ne.symm D.i12, Ne.symm D.ai2]⟩
theorem turn_zipK {P : Program} {w : World} {K : PySem.W.Frag} {elts : List Expr} {kk : Nat} {tpos : Pos} (k k' : Sk) {a b z TI TO i1 i2 : Addr} (D : ZApart z TI TO i1 i2 a b) :
    Turn P w K (.Tuple elts kk tpos) (ItzK k k' K a b) [z, TI, TO, i1, i2] z (fun i h => IsZip h z TI TO .none ∧ IsTupOf2 h TI (.ref i1) (.ref i2) ∧ (∃ x y, IsTupOf2 h TO x y) ∧ ItIs k h i1 a i ∧ ItIs k' h i2 b i) where
  mem := by simp
  obj := fun i h st c hc => by
    obtain ⟨hz, hTI, ⟨x, y, hTO⟩, h1, h2⟩ := st
    have e' : c = z ∨ c = TI ∨ c = TO ∨ c = i1 ∨ c = i2 := by simpa using hc
    rcases e' with q | q | q | q | q
    · rw [q]; exact ⟨_, hz, fun v q => nomatch q⟩
    · rw [q]; exact ⟨_, hTI, fun v q => nomatch q⟩
    · rw [q]; exact ⟨_, hTO, fun v q => nomatch q⟩
    · rw [q]; exact itIs_obj h1
    · rw [q]; exact itIs_obj h2
  keep := fun i h h' st kp => by
    obtain ⟨hz, hTI, ⟨x, y, hTO⟩, h1, h2⟩ := st
    exact ⟨kp z (by simp) _ hz, kp TI (by simp) _ hTI, ⟨x, y, kp TO (by simp) _ hTO⟩, itIs_at h1 fun o q => kp i1 (by simp) o q, itIs_at h2 fun o q => kp i2 (by simp) o q⟩
  item := by
    intro X hP hw hK hc i pins s σ H E I hf st hg
    subst hP hw hK
    obtain ⟨hz, hTI, hTO, h1, h2⟩ := st
    obtain ⟨xs, ys, x, y, hqx, hqy, hx, hy⟩ := hg
    obtain ⟨its, rv, p, _, hal⟩ := inv_seq I hqx
    obtain ⟨its2, rv2, p2, _, hbl⟩ := inv_seq I hqy
    obtain ⟨u, hu, ru⟩ := rv.get hx
    obtain ⟨u2, hu2, ru2⟩ := rv2.get hy
    have hi : i < min its.toArray.size its2.toArray.size := by
      have q1 := (List.getElem?_eq_some_iff.mp hu).1
      have q2 := (List.getElem?_eq_some_iff.mp hu2).1
      simp only [List.size_toArray]; omega
    have old : ∀ c ∈ [z, TI, TO, i1, i2], c < s.heap.objs.size := fun c hc => by
      have e' : c = z ∨ c = TI ∨ c = TO ∨ c = i1 ∨ c = i2 := by simpa using hc
      obtain ⟨x0, y0, hTO'⟩ := hTO
      rcases e' with q | q | q | q | q
      · rw [q]; exact Heap.lt_size hz
      · rw [q]; exact Heap.lt_size hTI
      · rw [q]; exact Heap.lt_size hTO'
      · rw [q]; obtain ⟨_, e1, _⟩ := itIs_obj h1; exact Heap.lt_size e1
      · rw [q]; obtain ⟨_, e1, _⟩ := itIs_obj h2; exact Heap.lt_size e1
    have W := GoesN.zip2 (prog := X.prog) (w := X.w) (A := X.A) (elts := elts) (x1 := kk) (pos := tpos) D.sep (draws_seq k (A := X.A.in1) (I.ok.hd hc) i1 a D.ai1 its.toArray) (draws_seq k' (A := X.A.in1) (I.ok.hd hc) i2 b D.bi2 its2.toArray)
    refine W.goes i s _ E hi ⟨hz, hTI, hTO, ⟨h1, p⟩, ⟨h2, p2⟩⟩ fun v h' tk hY hst hk htk => ?_
    obtain ⟨T, u', u2', rfl, hTn, hP1, hP2, hT⟩ := hY
    obtain ⟨hz', hTI', hTO', ⟨h1', _⟩, ⟨h2', _⟩⟩ := hst
    have e1 : u' = u := by
      have q : its.toArray[i]? = some u := by simpa using hu
      rw [q] at hP1; exact (Option.some.inj hP1).symm
    have e2 : u2' = u2 := by
      have q : its2.toArray[i]? = some u2 := by simpa using hu2
      rw [q] at hP2; exact (Option.some.inj hP2).symm
    subst e1 e2
    have new : ObjOk X.prog X.w (upd H T (.tup [x, y])) h' T (.tup [x, y]) := by
      refine ⟨by show 2 ≤ sizeLine; decide, [u', u2'], .cons ru (.cons ru2 .nil), ?_⟩
      obtain ⟨o, e1, e2, n, e3⟩ := hT
      exact ⟨o, e1, e2, n, e3⟩
    have I1 : Inv X pins σ (upd H T (.tup [x, y])) { s with heap := h', toks := tk } :=
      I.turnedNew (ch := [z, TO, i1, i2]) (fun c ob hb q => hk c ob hb q) (fun c hc => hf c (by
        have e' : c = z ∨ c = TO ∨ c = i1 ∨ c = i2 := by simpa using hc
        rcases e' with q | q | q | q <;> simp [q])) hTn new
    refine ⟨.ref T, _, I1, rfl, ⟨T, x, y, rfl, I.hok.fresh hTn, rfl, fun l hl => by rw [inv_inj I hl hqx]; exact hx, fun l hl => by rw [inv_inj I hl hqy]; exact hy⟩, ⟨hz', hTI', hTO', h1', h2'⟩, fun c hcm => ?_⟩
    rw [upd_ne (Nat.ne_of_lt (Nat.lt_of_lt_of_le (old c hcm) hTn))]
    exact (hf c hcm).1
  done := by
    intro X hP hw hK hc i pins s σ H E I hf st hg
    subst hP hw hK
    obtain ⟨hz, hTI, hTO, h1, h2⟩ := st
    obtain ⟨xs, ys, hqx, hqy, hend⟩ := hg
    obtain ⟨its, rv, p, _, hal⟩ := inv_seq I hqx
    obtain ⟨its2, rv2, p2, _, hbl⟩ := inv_seq I hqy
    have l1 := rv.length
    have l2 := rv2.length
    have hn : min its.toArray.size its2.toArray.size = i := by simp only [List.size_toArray]; omega
    have W := GoesN.zip2 (prog := X.prog) (w := X.w) (A := X.A) (elts := elts) (x1 := kk) (pos := tpos) D.sep (draws_seq k (A := X.A.in1) (I.ok.hd hc) i1 a D.ai1 its.toArray) (draws_seq k' (A := X.A.in1) (I.ok.hd hc) i2 b D.bi2 its2.toArray)
    refine W.stops s _ E ⟨hz, hTI, hTO, ⟨by rw [hn]; exact h1, p⟩, ⟨by rw [hn]; exact h2, p2⟩⟩ fun h' tk hk htk => ?_
    exact I.turnedL (ch := [z, TO, i1, i2]) (fun c ob hb q => hk c ob hb q) (fun c hc => hf c (by
        have e' : c = z ∨ c = TO ∨ c = i1 ∨ c = i2 := by simpa using hc
        rcases e' with q | q | q | q <;> simp [q]))
  self := fun A i s Q E st h => wpAny_pyIter_zip st.1 h
def iZipK (K : PySem.W.Frag) (ta : TA) : TI := fun σ H R => ta σ H fun vs H1 => ∃ k k' a b xs ys, vs = [.ref a, .ref b] ∧ SqK k K H1 a xs ∧ SqK k' K H1 b ys ∧ R (ItzK k k' K a b) H1
theorem pi_zipK {X : Cx} {e e2 : Expr} {ta : TA} {p pos tpos : Pos} {elts : List Expr} {kk : Nat} (hg : Gl X "zip") (hm : X.mg "zip" = none) (ha : PA X [e, e2] ta)
    (hs : starEach [e, e2] X.env = (false, eval e X.env) :: starEach [e2] X.env) (hpl : (backTo pos (starEach [e2] X.env)).any (·.1) = false) :
    PI X (.Tuple elts kk tpos) (.Call (.Name "zip" p) [e, e2] [] pos) (iZipK X.K ta) := by
  refine ⟨fun pins s σ H R I h => ?_⟩
  refine Call_ (ld_blt I hg hm PyProof.Rows.boot_zip (PyProof.Rows.callWith_type1 (thn (ha.run pos pins s σ H _ I h) fun us s1 ⟨vs, H1, I1, r1, q1⟩ => ?_) hs hpl))
  obtain ⟨k, k', a, b, xs, ys, ex, hqx, hqy, q⟩ := q1
  subst ex
  cases r1 with
  | cons r rr =>
    cases rr with
    | cons r' rr =>
      cases rr
      cases r
      cases r'
      obtain ⟨its, rv, p1, _, hal⟩ := inv_seq I1 hqx
      obtain ⟨its2, rv2, p2, _, hbl⟩ := inv_seq I1 hqy
      refine zip_begins2 (begins_seq k a its.toArray) (begins_seq k' b its2.toArray) p1 p2 fun h' hz hTI hTO h1 h2 hsz hk => wpAny_pyIter_zip hz ?_
      have I2 : Inv X pins σ H1 { s1 with heap := h' } := I1.kept (t' := s1.toks) hk
      have D : ZApart (s1.heap.objs.size + 4) (s1.heap.objs.size + 2) (s1.heap.objs.size + 3) s1.heap.objs.size (s1.heap.objs.size + 1) a b := zapart_new _ _ _ hal hbl
      refine ⟨s1.heap.objs.size + 4, [s1.heap.objs.size + 4, s1.heap.objs.size + 2, s1.heap.objs.size + 3, s1.heap.objs.size, s1.heap.objs.size + 1], _, _, H1, rfl, I2, turn_zipK k k' D,
        ⟨hz, hTI, ⟨_, _, hTO⟩, itIs_new k _ _ _ h1, itIs_new k' _ _ _ h2⟩, fun c hcm => ?_, q⟩
      have e' : c = s1.heap.objs.size + 4 ∨ c = s1.heap.objs.size + 2 ∨ c = s1.heap.objs.size + 3 ∨ c = s1.heap.objs.size ∨ c = s1.heap.objs.size + 1 := by simpa using hcm
      have hle : s1.heap.objs.size ≤ c := by
        rcases e' with z | z | z | z | z
        · rw [z]; exact Nat.le_add_right _ _
        · rw [z]; exact Nat.le_add_right _ _
        · rw [z]; exact Nat.le_add_right _ _
        · rw [z]; exact Nat.le_refl _
        · rw [z]; exact Nat.le_add_right _ _
      exact I1.fpOk hle (I1.hok.fresh hle)

/-! ### a list, a tuple, a text -/
def iPlain (K : PySem.W.Frag) (tl : TE) : TI := fun σ H R => tl σ H fun x H1 => (∃ k a xs, x = .ref a ∧ SqK k K H1 a xs ∧ R (match k with | .L => Itl K a | .T => Itt K a) H1) ∨ ∃ z, x = .str z ∧ R (Its z) H1
theorem pi_plain {X : Cx} {tg l : Expr} {tl : TE} (hl : L2.PE X l tl) : PI X tg l (iPlain X.K tl) := by
  refine ⟨fun pins s σ H R I h => ?_⟩
  have lift : ∀ {t' : TI}, PI X tg l t' → t' σ H R → wpAny (model X.prog X.w) X.A (eval l X.env) (fun v s1 => wpAny (model X.prog X.w) X.A (pyIter v) (PIE X pins σ tg R) X.xe s1) X.xe s := fun p q => p.run pins s σ H R I q
  refine thn (hl.run pins s σ H _ I h) fun v s1 ⟨x, H1, I1, r1, q1⟩ => ?_
  have here : L2.PE X l (fun _ _ _ => True) → True := fun _ => trivial
  rcases q1 with ⟨k, a, xs, rfl, hq, q⟩ | ⟨z, rfl, q⟩
  · cases r1
    cases k with
    | L =>
      obtain ⟨its, rv, p, _⟩ := I1.list hq
      refine wpAny_pyIter_list p.isList ?_
      exact pi_one I1 _ (turn_list a s1.heap.objs.size) ⟨_, Heap.get?_push_size _ rfl, rfl, rfl⟩ q
    | T =>
      obtain ⟨its, rv, p, _⟩ := I1.tuple hq
      refine wpAny_pyIter_tuple (show s1.heap.IsTuple a its.toArray from p) ?_
      exact pi_one I1 _ (turn_tuple a s1.heap.objs.size) ⟨_, Heap.get?_push_size _ rfl, rfl, rfl⟩ q
  · obtain ⟨t, rfl⟩ := r1
    cases ha : z.cps.all (· < 128)
    · exact wpAny_pyIter_wide ha (pi_one I1 _ (turn_str s1.heap.objs.size z t "str_iterator" (.inr rfl)) ⟨_, Heap.get?_push_size _ rfl, rfl, rfl⟩ q)
    · exact wpAny_pyIter_ascii ha (pi_one I1 _ (turn_str s1.heap.objs.size z t "str_ascii_iterator" (.inl rfl)) ⟨_, Heap.get?_push_size _ rfl, rfl, rfl⟩ q)
end PL

set_option Elab.async false
set_option linter.all false
set_option maxRecDepth 100000
set_option maxHeartbeats 1000000
/-! PLE: calls of defs where no repr is under way, the shapes of the program's expressions, and the look that holds them against the small language. -/
namespace PL
open PySem PySem.Spec PyProof.Rows L2

/-! ### defs -/
structure FnOkG (P : Program) (w : World) (K : PySem.W.Frag) (mg : Str → Option Value) (base : Heap) (CX : CXT) (k : Nat) (f : Addr) (fd : FuncData) (ps : List Str) (sp : Sp) : Prop where
  len : ∀ vs H Q E, sp vs H Q E → vs.length = ps.length
  run : ∀ (A : Around) (outer : List PySem.Env) (s : Shared) (H : Hp) (args : Args) (us : List Value) (vs : List V) (Q : VK) (E : XK), A.guards = some [] → Room k A → Env0 P w K mg base A outer s H → BindsTo s fd args (ps.zip us) → Vals vs us → sp vs H Q E →
    codeAny (model P w) A (.call (.ref f) args) (CR CX outer P w H s Q E) s
section
variable {X : Cx} {CX : CXT} {k : Nat} {f : Addr} {fd : FuncData} {ps : List Str} {sp : Sp} {E : XK} {x : Str} {p pos : Pos} {e : Expr} {es : List Expr} {t : TA}
theorem run_fnG {pins : List (Addr × Obj)} {σ : L2.St} {H : Hp} {s : Shared} {Q : VK} {us ws : List Value} {kw : List (Str × Value)} {vs : List V} (F : FnOkG X.prog X.w X.K X.mg X.base CX k f fd ps sp) (hg : X.A.guards = some []) (hr : Room k X.A) (hx : Passes CX X E)
    (I : Inv X pins σ H s) (hb : BindsTo s fd ⟨us, kw⟩ (ps.zip ws)) (r : Vals vs ws) (h : sp vs H Q E) : wpAny (model X.prog X.w) X.A (call (.ref f) us kw) (EP X pins σ Q) X.xe s := by
  refine wpAny_call (codeAny_mono (F.run X.A X.stack s H ⟨us, kw⟩ ws vs Q E hg hr I.env0 hb r h) fun r s' hq => ?_)
  cases r with
  | error e => exact hx pins σ H s e s' I hq
  | ok fl =>
    cases fl with
    | ret u => exact I.after hq
    | next => exact False.elim hq
    | brk => exact False.elim hq
    | cont => exact False.elim hq
/-- how a def binds what is handed in -/
structure FnAt (X : Cx) (CX : CXT) (k : Nat) (x : Str) (ps : List Str) (kws : List (Nat × List Str × List Nat)) (sp : Sp) (f : Addr) (fd : FuncData) : Prop where
  mg : X.mg x = some (.ref f)
  keep : PySem.W.keepIn X.K (.ref f) = true
  bind : ∀ (s : Shared) (us : List Value), us.length = ps.length → BindsTo s fd ⟨us, []⟩ (ps.zip us)
  bindK : ∀ q ∈ kws, ∀ (s : Shared) (us ws : List Value), us.length = q.1 → ws.length = q.2.1.length → BindsTo s fd ⟨us, q.2.1.zip ws⟩ (ps.zip (q.2.2.map fun j => (us ++ ws).getD j .none))
  ok : FnOkG X.prog X.w X.K X.mg X.base CX k f fd ps sp
theorem pe_callG {kws : List (Nat × List Str × List Nat)} (F : FnAt X CX k x ps kws sp f fd) (hg : X.A.guards = some []) (hr : Room k X.A) (hgl : Gl X x) (hx : Passes CX X E)
    (ha : PA X (e :: es) t) (hdb : (x == ("__debug__" : Str)) = false) (he : starEach (e :: es) X.env = (false, eval e X.env) :: starEach es X.env) (hpl : (backTo pos (starEach es X.env)).any (·.1) = false) :
    L2.PE X (.Call (.Name x p) (e :: es) [] pos) (tCall sp [] E t) := by
  refine ⟨fun pins s σ H Q I h => ?_⟩
  refine wpAny_Call_Name_kw (ld_glob I hgl F.mg ?_ hdb)
  refine PySem.W.callWith_K (h₀ := X.base) I.ok.mod.kin F.keep (thn (ha.run pos pins s σ H _ I h) fun us s1 ⟨vs, H1, I1, r, q⟩ => ⟨I1.kIn, ?_⟩) he hpl
  have q' : sp vs H1 Q E := by simpa using q
  exact run_fnG F.ok hg hr hx I1 (F.bind s1 us (by rw [← r.length]; exact F.ok.len _ _ _ _ q')) r q'
theorem pe_callG0 {kws : List (Nat × List Str × List Nat)} (F : FnAt X CX k x ps kws sp f fd) (hg : X.A.guards = some []) (hr : Room k X.A) (hgl : Gl X x) (hx : Passes CX X E)
    (hdb : (x == ("__debug__" : Str)) = false) : L2.PE X (.Call (.Name x p) [] [] pos) (tCall sp [] E tNil) := by
  refine ⟨fun pins s σ H Q I h => ?_⟩
  refine wpAny_Call_Name_kw (ld_glob I hgl F.mg ?_ hdb)
  have q' : sp [] H Q E := by simpa [tCall, tNil] using h
  exact PySem.W.callWith_K0 I.kIn F.keep (run_fnG (us := []) (ws := []) F.ok hg hr hx I (F.bind s [] (F.ok.len _ _ _ _ q')) .nil q')
/-- what is handed in by place, then by names; put in the parameters' order -/
def tCallP (sp : Sp) (n m : Nat) (g : List Nat) (E : XK) (t tk : TA) : TE := fun σ H Q => t σ H fun vs H1 => tk σ H1 fun zs H2 => vs.length = n ∧ zs.length = m ∧ sp (g.map fun j => (vs ++ zs).getD j .non) H2 Q E
theorem vals_getD {vs : List V} {us : List Value} (r : Vals vs us) (j : Nat) : RelV (vs.getD j .non) (us.getD j .none) := by
  by_cases hj : j < vs.length
  · have h1 : vs[j]? = some vs[j] := List.getElem?_eq_getElem hj
    obtain ⟨u, h2, h3⟩ := r.get h1
    rw [List.getD_eq_getElem?_getD, List.getD_eq_getElem?_getD, h1, h2]
    exact h3
  · have h1 : vs[j]? = none := List.getElem?_eq_none (by omega)
    rw [List.getD_eq_getElem?_getD, List.getD_eq_getElem?_getD, h1, r.none_of h1]
    rfl
theorem vals_perm {vs : List V} {us : List Value} (r : Vals vs us) : ∀ g : List Nat, Vals (g.map fun j => vs.getD j .non) (g.map fun j => us.getD j .none)
  | [] => .nil
  | j :: g => .cons (vals_getD r j) (vals_perm r g)
theorem pe_callGK {kws : List (Nat × List Str × List Nat)} (F : FnAt X CX k x ps kws sp f fd) (hg : X.A.guards = some []) (hr : Room k X.A) (hgl : Gl X x) (hx : Passes CX X E) {q : Nat × List Str × List Nat} (hq : q ∈ kws)
    {kl : List Keyword} {tk : TA} (ha : PA X (e :: es) t) (hkw : PK X kl tk) (hall : (backToKw pos (keywordEach kl X.env)).all (·.1.isSome) = true) (hks : (backToKw pos (keywordEach kl X.env)).filterMap (·.1) = q.2.1)
    (hdb : (x == ("__debug__" : Str)) = false) (he : starEach (e :: es) X.env = (false, eval e X.env) :: starEach es X.env)
    (hpl : ((backTo pos (starEach (e :: es) X.env)).any (·.1) || (backToKw pos (keywordEach kl X.env)).any (·.1.isNone)) = false) :
    L2.PE X (.Call (.Name x p) (e :: es) kl pos) (tCallP sp q.1 q.2.1.length q.2.2 E t tk) := by
  refine ⟨fun pins s σ H Q I h => ?_⟩
  refine wpAny_Call_Name_kw (ld_glob I hgl F.mg ?_ hdb)
  refine PySem.W.callWith_KW (h₀ := X.base) I.ok.mod.kin F.keep hall (thn (ha.run pos pins s σ H _ I h) fun us s1 ⟨vs, H1, I1, r, q1⟩ => ?_) hpl he
  refine thn (hkw.run pos pins s1 σ H1 _ I1 q1) fun ws s2 ⟨zs, H2, I2, rz, l1, l2, q2⟩ => ⟨I2.kIn, ?_⟩
  rw [hks]
  exact run_fnG F.ok hg hr hx I2 (F.bindK q hq s2 us ws (r.length.symm.trans l1) (rz.length.symm.trans l2)) (vals_perm (r.append rz) _) q2
theorem pe_callGK0 {kws : List (Nat × List Str × List Nat)} (F : FnAt X CX k x ps kws sp f fd) (hg : X.A.guards = some []) (hr : Room k X.A) (hgl : Gl X x) (hx : Passes CX X E) {q : Nat × List Str × List Nat} (hq : q ∈ kws)
    {kl : List Keyword} {tk : TA} (hkw : PK X kl tk) (hall : (backToKw pos (keywordEach kl X.env)).all (·.1.isSome) = true) (hks : (backToKw pos (keywordEach kl X.env)).filterMap (·.1) = q.2.1)
    (hdb : (x == ("__debug__" : Str)) = false) (hpl : ((backTo pos (starEach [] X.env)).any (·.1) || (backToKw pos (keywordEach kl X.env)).any (·.1.isNone)) = false) :
    L2.PE X (.Call (.Name x p) [] kl pos) (tCallP sp q.1 q.2.1.length q.2.2 E tNil tk) := by
  refine ⟨fun pins s σ H Q I h => ?_⟩
  refine wpAny_Call_Name_kw (ld_glob I hgl F.mg ?_ hdb)
  refine PySem.W.callWith_KW0 (h₀ := X.base) I.ok.mod.kin F.keep hall ?_ hpl
  refine thn (hkw.run pos pins s σ H _ I h) fun ws s2 ⟨zs, H2, I2, rz, l1, l2, q2⟩ => ⟨I2.kIn, ?_⟩
  rw [hks]
  exact run_fnG F.ok hg hr hx I2 (F.bindK q hq s2 [] ws l1 (rz.length.symm.trans l2)) (vals_perm rz _) q2
end

/-! ### shapes -/
def asName : Expr → Option Str | .Name x _ => some x | _ => none
def asConst : Expr → Option Const | .Constant c _ _ => some c | _ => none
def asBin : Expr → Option (Expr × Operator × Expr) | .BinOp a o b _ => some (a, o, b) | _ => none
def asUn : Expr → Option (UnaryOp × Expr) | .UnaryOp o a _ => some (o, a) | _ => none
def asBool : Expr → Option (BoolOp × List Expr × Pos) | .BoolOp o l p => some (o, l, p) | _ => none
def asCmp : Expr → Option (Expr × List CmpOp × List Expr) | .Compare a o l _ => some (a, o, l) | _ => none
def asIf : Expr → Option (Expr × Expr × Expr) | .IfExp c a b _ => some (c, a, b) | _ => none
def asTup : Expr → Option (List Expr) | .Tuple l _ _ => some l | _ => none
def asStar : Expr → Option Expr | .Starred e _ => some e | _ => none
theorem asStar_eq {e x : Expr} (h : asStar e = some x) : ∃ p, e = .Starred x p := by cases e <;> simp [asStar] at h; exact ⟨_, by rw [h]⟩
def asLst : Expr → Option (List Expr) | .List l _ => some l | _ => none
def asDic : Expr → Option (List (Option Expr) × List Expr) | .Dict k v _ => some (k, v) | _ => none
def asCall : Expr → Option (Str × List Expr × List Keyword) | .Call (.Name x _) a k _ => some (x, a, k) | _ => none
def asMeth : Expr → Option (Expr × Str × Bool × List Expr) | .Call (.Attribute o m ap) a [] cp => some (o, m, ap.endLine == cp.line, a) | _ => none
def asSub : Expr → Option (Expr × Expr) | .Subscript a b _ => some (a, b) | _ => none
def asSlice : Expr → Option (Option Expr × Option Expr) | .Slice a b none _ => some (a, b) | _ => none
def asRev : Expr → Option Expr | .Subscript e (.Slice none none (some (.UnaryOp .USub (.Constant (.int 1) _ _) _)) _) _ => some e | _ => none
def asLc : Expr → Option (Expr × Expr × Expr × List Expr × Scope) | .ListComp e [⟨t, i, c, 0⟩] s _ => some (e, t, i, c, s) | _ => none
theorem asName_eq {e : Expr} {x : Str} (h : asName e = some x) : ∃ p, e = .Name x p := by cases e <;> simp [asName] at h; exact ⟨_, by rw [h]⟩
theorem asConst_eq {e : Expr} {c : Const} (h : asConst e = some c) : ∃ k p, e = .Constant c k p := by cases e <;> simp [asConst] at h; exact ⟨_, _, by rw [h]⟩
theorem asBin_eq {e a b : Expr} {o : Operator} (h : asBin e = some (a, o, b)) : ∃ p, e = .BinOp a o b p := by cases e <;> simp [asBin] at h; obtain ⟨rfl, rfl, rfl⟩ := h; exact ⟨_, rfl⟩
theorem asUn_eq {e a : Expr} {o : UnaryOp} (h : asUn e = some (o, a)) : ∃ p, e = .UnaryOp o a p := by cases e <;> simp [asUn] at h; obtain ⟨rfl, rfl⟩ := h; exact ⟨_, rfl⟩
theorem asBool_eq {e : Expr} {o : BoolOp} {l : List Expr} {p : Pos} (h : asBool e = some (o, l, p)) : e = .BoolOp o l p := by cases e <;> simp [asBool] at h; obtain ⟨rfl, rfl, rfl⟩ := h; rfl
theorem asCmp_eq {e a : Expr} {o : List CmpOp} {l : List Expr} (h : asCmp e = some (a, o, l)) : ∃ p, e = .Compare a o l p := by cases e <;> simp [asCmp] at h; obtain ⟨rfl, rfl, rfl⟩ := h; exact ⟨_, rfl⟩
theorem asIf_eq {e c a b : Expr} (h : asIf e = some (c, a, b)) : ∃ p, e = .IfExp c a b p := by cases e <;> simp [asIf] at h; obtain ⟨rfl, rfl, rfl⟩ := h; exact ⟨_, rfl⟩
theorem asTup_eq {e : Expr} {l : List Expr} (h : asTup e = some l) : ∃ k p, e = .Tuple l k p := by cases e <;> simp [asTup] at h; exact ⟨_, _, by rw [h]⟩
theorem asLst_eq {e : Expr} {l : List Expr} (h : asLst e = some l) : ∃ p, e = .List l p := by cases e <;> simp [asLst] at h; exact ⟨_, by rw [h]⟩
theorem asDic_eq {e : Expr} {k : List (Option Expr)} {v : List Expr} (h : asDic e = some (k, v)) : ∃ p, e = .Dict k v p := by cases e <;> simp [asDic] at h; obtain ⟨rfl, rfl⟩ := h; exact ⟨_, rfl⟩
theorem asCall_eq {e : Expr} {x : Str} {a : List Expr} {k : List Keyword} (h : asCall e = some (x, a, k)) : ∃ p pos, e = .Call (.Name x p) a k pos := by
  unfold asCall at h; split at h
  · cases h; exact ⟨_, _, rfl⟩
  · cases h
theorem asMeth_eq {e o : Expr} {m : Str} {b : Bool} {a : List Expr} (h : asMeth e = some (o, m, b, a)) : ∃ ap cp, e = .Call (.Attribute o m ap) a [] cp ∧ (ap.endLine == cp.line) = b := by
  unfold asMeth at h; split at h
  · cases h; exact ⟨_, _, rfl, rfl⟩
  · cases h
theorem asSub_eq {e a b : Expr} (h : asSub e = some (a, b)) : ∃ p, e = .Subscript a b p := by cases e <;> simp [asSub] at h; obtain ⟨rfl, rfl⟩ := h; exact ⟨_, rfl⟩
theorem asSlice_eq {e : Expr} {a b : Option Expr} (h : asSlice e = some (a, b)) : ∃ p, e = .Slice a b none p := by
  unfold asSlice at h; split at h
  · cases h; exact ⟨_, rfl⟩
  · cases h
theorem asRev_eq {e a : Expr} (h : asRev e = some a) : ∃ k p1 p2 p3 p, e = .Subscript a (.Slice none none (some (.UnaryOp .USub (.Constant (.int 1) k p1) p2)) p3) p := by
  unfold asRev at h; split at h
  · cases h; exact ⟨_, _, _, _, _, rfl⟩
  · cases h
theorem asLc_eq {e a t i : Expr} {c : List Expr} {s : Scope} (h : asLc e = some (a, t, i, c, s)) : ∃ p, e = .ListComp a [⟨t, i, c, 0⟩] s p := by
  unfold asLc at h; split at h
  · cases h; exact ⟨_, rfl⟩
  · cases h
/-- no star, no slice, no set, no comprehension -/
def noStar : Expr → Bool | .Starred _ _ => false | _ => true
def noSlice : Expr → Bool | .Slice _ _ _ _ => false | _ => true
def noSet : Expr → Bool | .Set _ _ _ => false | _ => true
def noComp : Expr → Bool | .ListComp _ _ _ _ => false | .SetComp _ _ _ _ => false | .DictComp _ _ _ _ _ => false | _ => true
def plainT : Expr → Bool | .UnaryOp .Not _ _ => false | .BoolOp _ _ _ => false | .IfExp _ _ _ _ => false | .Compare _ _ _ _ => false | _ => true
def noBase : Expr → Bool | .Call (.Name _ _) [] [] _ => false | _ => true
theorem star_cons {e : Expr} (h : noStar e = true) (es : List Expr) (env : PySem.Env) : starEach (e :: es) env = (false, eval e env) :: starEach es env := by
  cases e <;> first | rfl | cases h
theorem stars_plain {pos : Pos} {env : PySem.Env} : ∀ {es : List Expr}, es.all noStar = true → (backTo pos (starEach es env)).any (·.1) = false
  | [], _ => rfl
  | e :: es, h => by
    rw [List.all_cons, Bool.and_eq_true] at h
    rw [star_cons h.1]
    have := stars_plain (pos := pos) (env := env) h.2
    simpa [backTo] using this
theorem stars_all {pos : Pos} {env : PySem.Env} : ∀ {es : List Expr}, es.all noStar = true → (backTo pos (starEach es env)).all (fun x => !x.1) = true
  | [], _ => rfl
  | e :: es, h => by
    rw [List.all_cons, Bool.and_eq_true] at h
    rw [star_cons h.1]
    have := stars_all (pos := pos) (env := env) h.2
    simpa [backTo] using this
theorem noSlice_ix {e : Expr} (h : noSlice e = true) : PlainIx e := by
  intro o i
  cases e <;> first | rfl | cases h
theorem noSet_fold {e : Expr} (h : noSet e = true) (env : PySem.Env) : ∀ x, foldedSetIterable e env x = pure x := by
  intro x
  cases e <;> first | rfl | cases h
theorem noSet_marks {e : Expr} (h : noSet e = true) (op : CmpOp) : behindInMarks op e = false := by
  cases e <;> first | rfl | cases h
theorem plainT_is {e : Expr} (h : plainT e = true) (env : PySem.Env) : ∀ whole, isTrue e env whole = (do let v ← whole; standAt e.pos; holding [v] (truthy v)) := by
  intro whole
  cases e <;> first | rfl | (cases h; done) | skip
  rename_i op a p
  cases op <;> first | rfl | cases h
theorem noBase_is {o : Expr} (h : noBase o = true) (m : Str) (env : PySem.Env) (w : Sem Value) : attributeBase o m env w = w := by
  unfold attributeBase
  split
  · cases h
  · rfl
theorem noComp_sw {e : Expr} (h : noComp e = true) (t : Option Expr) (n : Nat) (env : PySem.Env) : swapsWith e t n env = pure false := by
  cases e <;> first | rfl | cases h
end PL

set_option Elab.async false
set_option linter.all false
set_option maxRecDepth 100000
set_option maxHeartbeats 2000000
/-! PLF: the look that holds the program's own syntax against the small language, and what it is good for: expressions. -/
namespace PL
open PySem PySem.Spec PyProof.Rows L2

structure Tab where
  fns : List (Nat × Str × List Str)
  kws : List (Nat × Nat × List Str × List Nat)
  free : List Str
  cons : List (Nat × Str × D)
  kds : List (Nat × Str × List (Str × D)) := []
def Tab.kwsOf (B : Tab) (i : Nat) : List (Nat × List Str × List Nat) := B.kws.filterMap fun q => if q.1 = i then some q.2 else none
def CXP : CXT := fun _ _ _ _ _ _ => False
theorem passP {X : Cx} {E : XK} : Passes CXP X E := fun _ _ _ _ _ _ _ h => h.elim
def spU (K : PySem.W.Frag) (m : List D → Sto → Res D) (n : Nat) : Sp := fun vs H Q _ => ∃ as st ds, Rel K as st H ∧ RVs K as H ds vs ∧ ds.length = n ∧ GE K Q as H (m ds st)
/-- what is known of a dict of constants -/
def KdFact (K : PySem.W.Frag) (w : World) (mg : Str → Option Value) (G : Nat → Option D) (i : Nat) (x : Str) (kvs : List (Str × D)) : Prop :=
  G i = some (.tup (kvs.map fun q => .tup [.str q.1, q.2])) ∧ ∃ d es n, mg x = some (.ref d) ∧ KDict K w d es n ∧ ∀ q ∈ kvs, ∃ u v, PySem.W.nsIn K d q.1 = some (some u) ∧ RelV v u ∧ ∀ as H, RV K as H q.2 v
structure Ctx (B : Tab) (F : Nat → List D → Sto → Res D) (G : Nat → Option D) (N : List Str) (sc : Scope) (k : Nat) (X : Cx) : Prop where
  fit : Fit X
  hN : X.N = N
  nd : N.Nodup
  sub : ∀ (x : Str) (q : NameKind), sc.names.lookup x = some q → ∃ q', X.env.scope.names.lookup x = some q' ∧ (q' = q ∨ (q = .free ∧ q' = .cell))
  fnc : ∀ x : Str, sc.names.lookup x = some .cell → X.fn x = true
  room : Room k X.A
  fns : ∀ (i : Nat) (x : Str) (ps : List Str), (B.fns.lookup i) = some (x, ps) → ∃ f fd, FnAt X CXP k x ps (B.kwsOf i) (spU X.K (F i) ps.length) f fd
  free : ∀ x ∈ B.free, X.mg x = none
  con : ∀ (i : Nat) (x : Str) (d : D), (B.cons.lookup i) = some (x, d) → (G i) = some d ∧ ∃ u v, X.mg x = some u ∧ RelV v u ∧ ∀ as H, RV X.K as H d v
  kds : ∀ (i : Nat) (x : Str) (kvs : List (Str × D)), (B.kds.lookup i) = some (x, kvs) → KdFact X.K X.w X.mg G i x kvs

/-! ### the look -/
def dbgB (x : Str) : Bool := !(x == ("__debug__" : Str))
def visB (sc : Scope) (x : Str) : Bool := (match sc.names.lookup x with | some .local => true | some .cell => true | some .free => true | _ => false) && (dbgB x && !(x == ("__classdict__" : Str)))
def glB (sc : Scope) (x : Str) : Bool := (match sc.names.lookup x with | some .globalImplicit => true | _ => false) && dbgB x
def locB (sc : Scope) (x : Str) : Bool := match sc.names.lookup x with | some .local => true | some .cell => true | _ => false
def Blt.nm : Blt → Str
  | .len => "len" | .abs => "abs" | .int => "int" | .tuple => "tuple" | .list => "list" | .min2 => "min" | .max2 => "max" | .repr => "repr" | .strI => "str" | .isi _ => "isinstance" | .dictP => "dict" | .srt => "sorted"
def Ty.sn (t : Ty) : Str := Str.ofString t.nm
def Mt.nm : Mt → Str
  | .append => "append" | .pop0 => "pop" | .popAt => "pop" | .insert => "insert" | .extend => "extend"
def Tm.nm : Tm → Str
  | .join => "join" | .split => "split" | .upper => "upper"
def ItK.nm : ItK → Str
  | .plain => "" | .range1 => "range" | .range2 => "range" | .range3 => "range" | .enum => "enumerate" | .zip => "zip"
def keyB (k : Key) (e : Option Expr) : Bool := match e with
  | some e => (match asConst e, k with
    | some (.int j), .inl i => decide (i = j)
    | some (.str y), .inr x => decide (x = y)
    | _, _ => false)
  | none => false
def keysB : List Key → List (Option Expr) → Bool
  | [], [] => true
  | k :: ks, e :: es => keyB k e && keysB ks es
  | _, _ => false
def fnB (B : Tab) (f : Nat) (x : Str) (n : Nat) : Bool := match (B.fns.lookup f) with
  | some (y, ps) => decide (x = y) && decide (n = ps.length)
  | none => false
def kwB (B : Tab) (f : Nat) (x : Str) (n : Nat) (kl : List Keyword) (g : List Nat) : Bool := (match (B.fns.lookup f) with
  | some (y, ps) => decide (x = y) && decide (g.length = ps.length)
  | none => false) && (kl.all (·.arg.isSome) && decide ((f, n, kl.filterMap (·.arg), g) ∈ B.kws))
def conB (B : Tab) (i : Nat) (x : Str) : Bool := match (B.cons.lookup i) with
  | some (y, _) => decide (x = y)
  | none => false
def kdB (B : Tab) (i : Nat) (x : Str) : Bool := match (B.kds.lookup i) with
  | some (y, _) => decide (x = y)
  | none => false
def strsB : List Str → List Expr → Bool
  | [], [] => true
  | y :: ys, e :: es => (match asConst e with | some (.str z) => decide (z = y) | _ => false) && strsB ys es
  | _, _ => false
def freeB (B : Tab) (sc : Scope) (x y : Str) : Bool := decide (x = y) && (decide (y ∈ B.free) && glB sc x)
def tgOwn : Tg → List Nat → Bool
  | .name i, own => own.contains i
  | .tup ts, own => tgsOwn ts own
  | .sub _ _, _ => true
where tgsOwn : Tgs → List Nat → Bool
  | .nil, _ => true
  | .cons t ts, own => tgOwn t own && tgsOwn ts own
def isTup : Expr → Bool | .Tuple _ _ _ => true | _ => false

def isN : E → Bool | .cN => true | _ => false
def isYes : T → Bool | .yes => true | _ => false
def onlyIf (b : Bool) (l : List Expr) : Option (List Expr) := match b with | true => some l | false => none
theorem onlyIf_of {b : Bool} {l l' : List Expr} (h : onlyIf b l = some l') : b = true ∧ l = l' := by
  cases b
  · cases h
  · cases h; exact ⟨rfl, rfl⟩
/-- the arguments of a built-in that are looked at -/
def bltA (B : Tab) (sc : Scope) (b : Blt) (e : Expr) : Option (List Expr) := match asCall e with
  | some (x, args, []) => (match b, args with
    | .isi t, [a, c] => onlyIf (freeB B sc x "isinstance" && (match asName c with | some y => freeB B sc y t.sn | none => false)) [a]
    | .isi _, _ => none
    | .dictP, [c] => (match asCall c with
      | some (y, [a, b], []) => onlyIf (freeB B sc x "dict" && freeB B sc y "zip") [a, b]
      | _ => none)
    | .dictP, _ => none
    | b, a0 :: al => onlyIf (freeB B sc x b.nm) (a0 :: al)
    | _, _ => none)
  | _ => none
/-- what is walked: the arguments that are looked at -/
def itA (B : Tab) (sc : Scope) (k : ItK) (it tg : Expr) : Option (List Expr) := match k with
  | .plain => some [it]
  | k => match asCall it with
    | some (x, args, []) => onlyIf (freeB B sc x k.nm && (match k, args with
        | .range1, [_] => true
        | .range2, [_, _] => true
        | .range3, [_, _, _] => true
        | .enum, [_] => isTup tg
        | .zip, [_, _] => isTup tg
        | _, _ => false)) args
    | _ => none
section
variable (B : Tab) (N : List Str)
mutual
def chkE : E → Scope → Expr → Bool
  | .var i, sc, e => match asName e with | some x => decide (N[i]? = some x) && visB sc x | none => false
  | .cI i, _, e => match asConst e with | some (.int j) => decide (i = j) | _ => false
  | .cB b, _, e => match asConst e with | some (.bool c) => b == c | _ => false
  | .cS x, _, e => match asConst e with | some (.str y) => decide (x = y) | _ => false
  | .cN, _, e => match asConst e with | some .none => true | _ => false
  | .gcon i, sc, e => match asName e with | some x => conB B i x && glB sc x | none => false
  | .gkd i a, sc, e => match asSub e with | some (x, y) => (match asName x with | some nm => kdB B i nm && glB sc nm | none => false) && (noSlice y && chkE a sc y) | none => false
  | .ixl ys a, sc, e => match asMeth e with
    | some (o, nm, ln, [y]) => (decide (nm = "index") && (ln && noBase o)) && ((match asTup o with | some l => strsB ys l && decide (ys.length ≤ 1000) | none => false) && (noStar y && chkE a sc y))
    | _ => false
  | .ent ts, _, e => match asTup e with | some l => strsB ts l && decide (ts.length ≤ 1000) | none => false
  | .ixm o a, sc, e => match asMeth e with | some (x, nm, ln, [y]) => (decide (nm = "index") && (ln && noBase x)) && (chkE o sc x && (noStar y && chkE a sc y)) | _ => false
  | .stup fs es, sc, e => match asTup e with | some l => chkSt fs es sc l | none => false
  | .bin op a b, sc, e => match asBin e with | some (x, o, y) => decide (o = op.op) && (chkE a sc x && chkE b sc y) | none => false
  | .neg a, sc, e => match asUn e with | some (.USub, x) => chkE a sc x | _ => false
  | .notE a, sc, e => match asUn e with | some (.Not, x) => chkE a sc x | _ => false
  | .and1 a, sc, e => match asBool e with | some (.And, [x], _) => chkE a sc x | _ => false
  | .and2 a r, sc, e => match asBool e with | some (.And, x :: y :: l, p) => chkE a sc x && chkE r sc (.BoolOp .And (y :: l) p) | _ => false
  | .or1 a, sc, e => match asBool e with | some (.Or, [x], _) => chkE a sc x | _ => false
  | .or2 a r, sc, e => match asBool e with | some (.Or, x :: y :: l, p) => chkE a sc x && chkE r sc (.BoolOp .Or (y :: l) p) | _ => false
  | .cmp op a b, sc, e => match asCmp e with | some (x, [o], [y]) => decide (o = op.op) && (noSet y && (chkE a sc x && chkE b sc y)) | _ => false
  | .cmp2 op op' a b c, sc, e => match asCmp e with | some (x, [o, o'], [y, z]) => (decide (o = op.op) && decide (o' = op'.op)) && (noSet z && (chkE a sc x && (chkE b sc y && chkE c sc z))) | _ => false
  | .ife c a b, sc, e => match asIf e with | some (x, y, z) => chkT c sc x && (chkE a sc y && chkE b sc z) | none => false
  | .tup es, sc, e => match asTup e with | some l => chkEs es sc l | none => false
  | .lst es, sc, e => match asLst e with | some l => chkEs es sc l | none => false
  | .dic ks es, sc, e => match asDic e with | some (kl, vl) => (keysB ks kl && (decide (kl.length = vl.length) && decide (kl.length ≤ 15))) && chkEs es sc vl | none => false
  | .call f es, sc, e => match asCall e with | some (x, args, []) => (fnB B f x args.length && glB sc x) && chkEs es sc args | _ => false
  | .callK f es ks g, sc, e => match asCall e with | some (x, args, k0 :: kl) => (kwB B f x args.length (k0 :: kl) g && glB sc x) && (chkEs es sc args && chkEs ks sc ((k0 :: kl).map (·.value))) | _ => false
  | .blt b es, sc, e => match bltA B sc b e with | some l => chkEs es sc l | none => false
  | .meth m o es, sc, e => match asMeth e with | some (x, nm, ln, args) => (decide (nm = m.nm) && (ln && (noBase x && decide (args.length < 30)))) && (chkE o sc x && chkEs es sc args) | none => false
  | .smeth m o es, sc, e => match asMeth e with | some (x, nm, ln, args) => (decide (nm = m.nm) && (ln && (noBase x && decide (args.length < 30)))) && (chkE o sc x && chkEs es sc args) | none => false
  | .idx a b, sc, e => match asSub e with | some (x, y) => noSlice y && (chkE a sc x && chkE b sc y) | none => false
  | .sl a lo hi, sc, e => match asSub e with
    | some (x, y) => (match asSlice y with
      | some (l, h) => chkE a sc x && ((match l with | some l => chkE lo sc l | none => isN lo) && (match h with | some h => chkE hi sc h | none => isN hi))
      | none => false)
    | none => false
  | .rev a, sc, e => match asRev e with | some x => chkE a sc x | none => false
  | .lc own elt t k es c, sc, e => match asLc e with
    | some (x, tg, it, ifs, sc') => (blkC N sc sc' (own.map fun j => (N.getD j "", j)) && (tgOwn t own && noSet it)) && ((match itA B sc k it tg with | some l => chkEs es sc l | none => false) && (chkTg t sc' tg && ((match ifs with | [] => isYes c | [y] => chkT c sc' y | _ => false) && chkE elt sc' x)))
    | none => false
def chkEs : Es → Scope → List Expr → Bool
  | .nil, _, [] => true
  | .cons e es, sc, x :: l => noStar x && (chkE e sc x && chkEs es sc l)
  | _, _, _ => false
def chkSt : List Bool → Es → Scope → List Expr → Bool
  | [], .nil, _, [] => true
  | true :: fs, .cons e es, sc, x :: l => (match asStar x with | some y => chkE e sc y | none => false) && chkSt fs es sc l
  | false :: fs, .cons e es, sc, x :: l => noStar x && (chkE e sc x && chkSt fs es sc l)
  | _, _, _, _ => false
def chkT : T → Scope → Expr → Bool
  | .val a, sc, e => plainT e && chkE a sc e
  | .vc op a b, sc, e => match asCmp e with | some (x, [o], [y]) => decide (o = op.op) && (noSet y && (chkE a sc x && chkE b sc y)) | _ => false
  | .vc2 op op' a b c, sc, e => match asCmp e with | some (x, [o, o'], [y, z]) => (decide (o = op.op) && decide (o' = op'.op)) && (noSet z && (chkE a sc x && (chkE b sc y && chkE c sc z))) | _ => false
  | .not a, sc, e => match asUn e with | some (.Not, x) => chkT a sc x | _ => false
  | .and1 a, sc, e => match asBool e with | some (.And, [x], _) => chkT a sc x | _ => false
  | .and2 a r, sc, e => match asBool e with | some (.And, x :: y :: l, p) => chkT a sc x && chkT r sc (.BoolOp .And (y :: l) p) | _ => false
  | .or1 a, sc, e => match asBool e with | some (.Or, [x], _) => chkT a sc x | _ => false
  | .or2 a r, sc, e => match asBool e with | some (.Or, x :: y :: l, p) => chkT a sc x && chkT r sc (.BoolOp .Or (y :: l) p) | _ => false
  | .yes, _, _ => false
def chkTg : Tg → Scope → Expr → Bool
  | .name i, sc, e => match asName e with | some x => decide (N[i]? = some x) && locB sc x | none => false
  | .tup ts, sc, e => match asTup e with | some l => chkTgs ts sc l | none => false
  | .sub o i, sc, e => match asSub e with | some (x, y) => noSlice y && (chkE o sc x && chkE i sc y) | none => false
def chkTgs : Tgs → Scope → List Expr → Bool
  | .nil, _, [] => true
  | .cons t ts, sc, x :: l => noStar x && (chkTg t sc x && chkTgs ts sc l)
  | _, _, _ => false
end
end
end PL

set_option Elab.async false
set_option linter.all false
set_option maxRecDepth 100000
set_option maxHeartbeats 2000000
/-! PLG: the small language's meanings as the layer's meanings; one lemma for each form of expression. -/
namespace PL
open PySem PySem.Spec PyProof.Rows L2

def tE (K : PySem.W.Frag) (m : Env → Sto → Res D) : TE := fun σ H Q => ∃ as st env, Rel K as st H ∧ REnv K as H env σ ∧ GE K Q as H (m env st)
def tT (K : PySem.W.Frag) (m : Env → Sto → Res Bool) : TT := fun σ H Q => ∃ as st env, Rel K as st H ∧ REnv K as H env σ ∧ Good K (fun b _ H' => Q b H') as H (m env st)
def tA (K : PySem.W.Frag) (m : Env → Sto → Res (List D)) : TA := fun σ H Q => ∃ as st env, Rel K as st H ∧ REnv K as H env σ ∧ Good K (PL' K Q) as H (m env st)
abbrev PG' (K : PySem.W.Frag) (own : List Nat → Bool) (σ : L2.St) (Q : L2.St → Hp → Prop) : Env → List Addr → Hp → Prop := fun env' as' H' => ∀ σ', REnv K as' H' env' σ' → (∀ vs, own vs = true → wipe σ' vs = wipe σ vs) → Q σ' H'
def tG (K : PySem.W.Frag) (own : List Nat → Bool) (m : D → Env → Sto → Res Env) : TG := fun v σ H Q => ∃ as st env d, Rel K as st H ∧ REnv K as H env σ ∧ RV K as H d v ∧ Good K (PG' K own σ Q) as H (m d env st)
def tGs (K : PySem.W.Frag) (own : List Nat → Bool) (m : List D → Env → Sto → Res Env) : TGs := fun vs σ H Q => ∃ as st env ds, Rel K as st H ∧ REnv K as H env σ ∧ RVs K as H ds vs ∧ Good K (PG' K own σ Q) as H (m ds env st)
theorem pe_imp {X : Cx} {e : Expr} {t t' : TE} (h : L2.PE X e t) (f : ∀ σ H Q, t' σ H Q → t σ H Q) : L2.PE X e t' := ⟨fun pins s σ H Q I q => h.run pins s σ H Q I (f σ H Q q)⟩
theorem pt_imp {X : Cx} {e : Expr} {t t' : TT} (h : L2.PT X e t) (f : ∀ σ H Q, t' σ H Q → t σ H Q) : L2.PT X e t' := ⟨fun pins s σ H Q I q => h.run pins s σ H Q I (f σ H Q q)⟩
theorem pw_imp {X : Cx} {e : Expr} {t t' : TT} (h : PW X e t) (f : ∀ σ H Q, t' σ H Q → t σ H Q) : PW X e t' := ⟨fun wh pins s σ H Q I q => h.run wh pins s σ H Q I (f σ H Q q)⟩
theorem pa_imp {X : Cx} {e : List Expr} {t t' : TA} (h : PA X e t) (f : ∀ σ H Q, t' σ H Q → t σ H Q) : PA X e t' := ⟨fun p pins s σ H Q I q => h.run p pins s σ H Q I (f σ H Q q)⟩
theorem pk_imp {X : Cx} {e : List Keyword} {t t' : TA} (h : PK X e t) (f : ∀ σ H Q, t' σ H Q → t σ H Q) : PK X e t' := ⟨fun p pins s σ H Q I q => h.run p pins s σ H Q I (f σ H Q q)⟩
theorem pg_imp {X : Cx} {e : Expr} {t t' : TG} (h : PG X e t) (f : ∀ v σ H Q, t' v σ H Q → t v σ H Q) : PG X e t' := ⟨fun pins s σ H v u Q I r q => h.run pins s σ H v u Q I r (f v σ H Q q)⟩
theorem pgs_imp {X : Cx} {e : List Expr} {t t' : TGs} (h : PGs X e t) (f : ∀ v σ H Q, t' v σ H Q → t v σ H Q) : PGs X e t' := ⟨fun pins s σ H v u Q I r q => h.run pins s σ H v u Q I r (f v σ H Q q)⟩
theorem pi_imp {X : Cx} {tg e : Expr} {t t' : TI} (h : PI X tg e t) (f : ∀ σ H R, t' σ H R → t σ H R) : PI X tg e t' := ⟨fun pins s σ H R I q => h.run pins s σ H R I (f σ H R q)⟩
theorem pg_or {X : Cx} {e : Expr} {t u : TG} (h : PG X e t) (h' : PG X e u) : PG X e (fun v σ H Q => t v σ H Q ∨ u v σ H Q) := ⟨fun pins s σ H v uu Q I r q => by
  rcases q with q | q
  · exact h.run pins s σ H v uu Q I r q
  · exact h'.run pins s σ H v uu Q I r q⟩

section
variable {K : PySem.W.Frag} {σ : L2.St} {H : Hp} {Q : VK}
variable {ma mb mc : Env → Sto → Res D}
/-- one value, then more -/
theorem one_of {β : Type} {P : β → List Addr → Hp → Prop} {as : List Addr} {st : Sto} {env : Env} {f : D → Sto → Res β} (rel : Rel K as st H) (re : REnv K as H env σ) (g : Good K P as H ((ma env st).bind f)) :
    tE K ma σ H fun v H1 => ∃ as1 st1 d, Ext K as H as1 H1 ∧ Rel K as1 st1 H1 ∧ REnv K as1 H1 env σ ∧ RV K as1 H1 d v ∧ Good K P as1 H1 (f d st1) :=
  ⟨as, st, env, rel, re, g.bind.imp fun d as1 H1 e1 ⟨st1, _, r1, g1⟩ v rv => ⟨as1, st1, d, e1, r1, re.mono e1, rv, g1⟩⟩
theorem two_of {β : Type} {P : β → List Addr → Hp → Prop} {as : List Addr} {st : Sto} {env : Env} {f : D → D → Sto → Res β} (rel : Rel K as st H) (re : REnv K as H env σ) (g : Good K P as H ((ma env st).bind fun x st1 => (mb env st1).bind fun y st2 => f x y st2)) :
    tE K ma σ H fun v H1 => tE K mb σ H1 fun u H2 => ∃ as2 st2 x y, Ext K as H as2 H2 ∧ Rel K as2 st2 H2 ∧ REnv K as2 H2 env σ ∧ RV K as2 H2 x v ∧ RV K as2 H2 y u ∧ Good K P as2 H2 (f x y st2) :=
  ⟨as, st, env, rel, re, g.bind.imp fun d as1 H1 e1 ⟨st1, _, r1, g1⟩ v rv => ⟨as1, st1, env, r1, re.mono e1, g1.bind.imp fun y as2 H2 e2 ⟨st2, _, r2, g2⟩ u ru => ⟨as2, st2, d, y, e1.trans e2, r2, re.mono (e1.trans e2), RV.mono e2 _ _ rv, ru, g2⟩⟩⟩
theorem GE.here' {as : List Addr} {st : Sto} {d : D} {v : V} (g : GE K Q as H (.ok d st)) (rel : Rel K as st H) (rv : RV K as H d v) : Q v H := g.here rel v rv
theorem tE_mono {m : Env → Sto → Res D} {Q' : VK} (h : tE K m σ H Q) (f : ∀ v H', Q v H' → Q' v H') : tE K m σ H Q' := by
  obtain ⟨as, st, env, rel, re, g⟩ := h
  exact ⟨as, st, env, rel, re, g.imp fun d _ _ _ q v rv => f _ _ (q v rv)⟩
theorem tT_mono {m : Env → Sto → Res Bool} {Q Q' : Bool → Hp → Prop} (h : tT K m σ H Q) (f : ∀ v H', Q v H' → Q' v H') : tT K m σ H Q' := by
  obtain ⟨as, st, env, rel, re, g⟩ := h
  exact ⟨as, st, env, rel, re, g.imp fun d _ _ _ q => f _ _ q⟩
theorem tA_mono {m : Env → Sto → Res (List D)} {Q Q' : List V → Hp → Prop} (h : tA K m σ H Q) (f : ∀ v H', Q v H' → Q' v H') : tA K m σ H Q' := by
  obtain ⟨as, st, env, rel, re, g⟩ := h
  exact ⟨as, st, env, rel, re, g.imp fun d _ _ _ q v rv => f _ _ (q v rv)⟩
theorem all_of {β : Type} {m : Env → Sto → Res (List D)} {P : β → List Addr → Hp → Prop} {as : List Addr} {st : Sto} {env : Env} {f : List D → Sto → Res β} (rel : Rel K as st H) (re : REnv K as H env σ) (g : Good K P as H ((m env st).bind f)) :
    tA K m σ H fun vs H1 => ∃ as1 st1 ds, Ext K as H as1 H1 ∧ Rel K as1 st1 H1 ∧ REnv K as1 H1 env σ ∧ RVs K as1 H1 ds vs ∧ Good K P as1 H1 (f ds st1) :=
  ⟨as, st, env, rel, re, g.bind.imp fun d as1 H1 e1 ⟨st1, _, r1, g1⟩ v rv => ⟨as1, st1, d, e1, r1, re.mono e1, rv, g1⟩⟩
theorem test_of {β : Type} {m : Env → Sto → Res Bool} {P : β → List Addr → Hp → Prop} {as : List Addr} {st : Sto} {env : Env} {f : Bool → Sto → Res β} (rel : Rel K as st H) (re : REnv K as H env σ) (g : Good K P as H ((m env st).bind f)) :
    tT K m σ H fun b H1 => ∃ as1 st1, Ext K as H as1 H1 ∧ Rel K as1 st1 H1 ∧ REnv K as1 H1 env σ ∧ Good K P as1 H1 (f b st1) :=
  ⟨as, st, env, rel, re, g.bind.imp fun d as1 H1 e1 ⟨st1, _, r1, g1⟩ => ⟨as1, st1, e1, r1, re.mono e1, g1⟩⟩
end

section
variable {X : Cx} {a b c : Expr} {ma mb mc : Env → Sto → Res D} {ta tb : Env → Sto → Res Bool} {pos : Pos}
theorem s_var {i : Nat} {x : Str} {p : Pos} (hN : X.N[i]? = some x) (hv : Vis X.env.scope x) (hd : (x == ("__debug__" : Str)) = false) (hcd : (x == ("__classdict__" : Str)) = false) :
    L2.PE X (.Name x p) (tE X.K fun env st => match env[i]? with | some (some d) => .ok d st | _ => .bad) := by
  refine pe_imp (pe_var hN hv hd hcd) fun σ H Q ⟨as, st, env, rel, re, g⟩ => ?_
  simp only [] at g
  split at g
  · rename_i d e
    obtain ⟨v, h1, h2⟩ := re.2 i d e
    exact ⟨v, h1, g.here rel _ h2⟩
  · exact g.elim
theorem s_c {e : Expr} {d : D} {v : V} (h : L2.PE X e (tC v)) (hd : ∀ as H, RV X.K as H d v) : L2.PE X e (tE X.K fun _ st => .ok d st) :=
  pe_imp h fun σ H Q ⟨as, st, env, rel, re, g⟩ => g.here rel _ (hd _ _)
theorem s_gcon {x : Str} {d : D} {u : Value} {v : V} {p : Pos} {G : Nat → Option D} {i : Nat} (hg : Gl X x) (hm : X.mg x = some u) (r : RelV v u) (hdb : (x == ("__debug__" : Str)) = false) (hd : ∀ as H, RV X.K as H d v) (hG : (G i) = some d) :
    L2.PE X (.Name x p) (tE X.K fun _ st => liftO (G i) st) := by
  rw [hG]; exact s_c (pe_glob hg hm r hdb) hd
theorem s_bin {op : Bop} (ha : L2.PE X a (tE X.K ma)) (hb : L2.PE X b (tE X.K mb)) : L2.PE X (.BinOp a op.op b pos) (tE X.K fun env st => (ma env st).bind fun x st1 => (mb env st1).bind fun y st2 => binD op x y st2) :=
  pe_imp (pe_op (op_bin op) ha hb) fun σ H Q ⟨as, st, env, rel, re, g⟩ => tE_mono (two_of rel re g) fun v H1 h => tE_mono h fun u H2 ⟨as2, st2, x, y, _, r2, _, rx, ry, g2⟩ => ⟨as2, st2, x, y, r2, rx, ry, g2⟩
theorem s_neg (ha : L2.PE X a (tE X.K ma)) : L2.PE X (.UnaryOp .USub a pos) (tE X.K fun env st => (ma env st).bind fun x st1 => match x with | .int i => .ok (.int (-i)) st1 | _ => .bad) :=
  pe_imp (pe_un un_neg ha) fun σ H Q ⟨as, st, env, rel, re, g⟩ => tE_mono (one_of rel re g) fun v H1 ⟨as1, st1, d, _, r1, _, rv, g1⟩ => by
    split at g1
    · have rv : v = _ := rv
      exact ⟨_, rv, g1.here r1 _ rfl⟩
    · exact g1.elim
theorem s_not (ha : L2.PE X a (tE X.K ma)) : L2.PE X (.UnaryOp .Not a pos) (tE X.K fun env st => (ma env st).bind fun x st1 => liftO ((truth st1 x).map fun b => .bl (!b)) st1) :=
  pe_imp (pe_notT ha) fun σ H Q ⟨as, st, env, rel, re, g⟩ => tE_mono (one_of rel re g) fun v H1 ⟨as1, st1, d, _, r1, _, rv, g1⟩ => by
    obtain ⟨z, e, g2⟩ := g1.lift
    obtain ⟨k, e1, rfl⟩ := Option.map_eq_some_iff.mp e
    exact ⟨k, truV_of r1 e1 rv, g2.here r1 _ rfl⟩
theorem s_and {l : List Expr} (ha : L2.PE X a (tE X.K ma)) (hb : L2.PE X (.BoolOp .And (b :: l) pos) (tE X.K mb)) :
    L2.PE X (.BoolOp .And (a :: b :: l) pos) (tE X.K fun env st => (ma env st).bind fun x st1 => match truth st1 x with | some true => mb env st1 | some false => .ok x st1 | none => .bad) :=
  pe_imp (pe_andT ha hb) fun σ H Q ⟨as, st, env, rel, re, g⟩ => tE_mono (one_of rel re g) fun v H1 ⟨as1, st1, d, e1, r1, re1, rv, g1⟩ => by
    split at g1
    · rename_i e; exact ⟨true, truV_of r1 e rv, by rw [if_pos rfl]; exact ⟨as1, st1, env, r1, re1, g1⟩⟩
    · rename_i e; exact ⟨false, truV_of r1 e rv, by rw [if_neg (by simp)]; exact g1.here r1 _ rv⟩
    · exact g1.elim
theorem s_or {l : List Expr} (ha : L2.PE X a (tE X.K ma)) (hb : L2.PE X (.BoolOp .Or (b :: l) pos) (tE X.K mb)) :
    L2.PE X (.BoolOp .Or (a :: b :: l) pos) (tE X.K fun env st => (ma env st).bind fun x st1 => match truth st1 x with | some true => .ok x st1 | some false => mb env st1 | none => .bad) :=
  pe_imp (pe_orT ha hb) fun σ H Q ⟨as, st, env, rel, re, g⟩ => tE_mono (one_of rel re g) fun v H1 ⟨as1, st1, d, e1, r1, re1, rv, g1⟩ => by
    split at g1
    · rename_i e; exact ⟨true, truV_of r1 e rv, by rw [if_pos rfl]; exact g1.here r1 _ rv⟩
    · rename_i e; exact ⟨false, truV_of r1 e rv, by rw [if_neg (by simp)]; exact ⟨as1, st1, env, r1, re1, g1⟩⟩
    · exact g1.elim
def mCmp (op : Cop) (ma mb : Env → Sto → Res D) : Env → Sto → Res D := fun env st => (ma env st).bind fun x st1 => (mb env st1).bind fun y st2 => liftO ((cmpD op x y st2).map .bl) st2
def mCmp2 (op op' : Cop) (ma mb mc : Env → Sto → Res D) : Env → Sto → Res D := fun env st => (ma env st).bind fun x st1 => (mb env st1).bind fun y st2 => match cmpD op x y st2 with
    | some true => (mc env st2).bind fun z st3 => liftO ((cmpD op' y z st3).map .bl) st3
    | some false => .ok (.bl false) st2
    | none => .bad
def mVal (m : Env → Sto → Res D) : Env → Sto → Res Bool := fun env st => (m env st).bind fun x st1 => liftO (truth st1 x) st1
def mTc (op : Cop) (ma mb : Env → Sto → Res D) : Env → Sto → Res Bool := fun env st => (ma env st).bind fun x st1 => (mb env st1).bind fun y st2 => liftO (cmpD op x y st2) st2
def mTc2 (op op' : Cop) (ma mb mc : Env → Sto → Res D) : Env → Sto → Res Bool := fun env st => (ma env st).bind fun x st1 => (mb env st1).bind fun y st2 => match cmpD op x y st2 with
    | some true => (mc env st2).bind fun z st3 => liftO (cmpD op' y z st3) st3
    | some false => .ok false st2
    | none => .bad
theorem cmp_of {op : Cop} {σ : L2.St} {H : Hp} {Q : VK} (h : tE X.K (mCmp op ma mb) σ H Q) : tOp (rC2 X.K op) (tE X.K ma) (tE X.K mb) σ H Q := by
  obtain ⟨as, st, env, rel, re, g⟩ := h
  refine tE_mono (two_of rel re g) fun v H1 h => tE_mono h fun u H2 ⟨as2, st2, x, y, _, r2, _, rx, ry, g2⟩ => ?_
  obtain ⟨z, e, g3⟩ := g2.lift
  obtain ⟨k, e1, rfl⟩ := Option.map_eq_some_iff.mp e
  exact ⟨as2, st2, x, y, k, r2, rx, ry, e1, g3.here r2 _ rfl⟩
theorem cmp2_of {op op' : Cop} {σ : L2.St} {H : Hp} {Q : VK} (h : tE X.K (mCmp2 op op' ma mb mc) σ H Q) : tChain (rC2 X.K op) (rC2 X.K op') (tE X.K ma) (tE X.K mb) (tE X.K mc) σ H Q := by
  obtain ⟨as, st, env, rel, re, g⟩ := h
  refine tE_mono (two_of rel re g) fun v H1 h => tE_mono h fun u H2 ⟨as2, st2, x, y, _, r2, re2, rx, ry, g2⟩ => ?_
  split at g2
  · rename_i e
    refine ⟨as2, st2, x, y, true, r2, rx, ry, e, true, rfl, ?_⟩
    rw [if_pos rfl]
    refine tE_mono (one_of r2 re2 g2) fun w H3 ⟨as3, st3, z, e3, r3, _, rz, g3⟩ => ?_
    obtain ⟨q, e4, g4⟩ := g3.lift
    obtain ⟨k, e5, rfl⟩ := Option.map_eq_some_iff.mp e4
    exact ⟨as3, st3, y, z, k, r3, RV.mono e3 _ _ ry, rz, e5, g4.here r3 _ rfl⟩
  · rename_i e
    exact ⟨as2, st2, x, y, false, r2, rx, ry, e, false, rfl, by rw [if_neg (by simp)]; exact g2.here r2 _ rfl⟩
  · exact g2.elim
theorem s_cmp (fx : Fit X) {op : Cop} (ha : L2.PE X a (tE X.K ma)) (hb : L2.PE X b (tE X.K mb)) (hs : noSet b = true) : L2.PE X (.Compare a [op.op] [b] pos) (tE X.K (mCmp op ma mb)) :=
  pe_imp (pe_cmpR (op_cmp (by have := fx.hu; omega) op) ha hb (noSet_marks hs _)) fun σ H Q h => cmp_of h
theorem lastM {op op' : CmpOp} {b c : Expr} (h : noSet c = true) : lastMarks [op, op'] [b, c] = false := by
  have := noSet_marks h op'
  simpa [lastMarks] using this
theorem s_cmp2 (fx : Fit X) {op op' : Cop} (ha : L2.PE X a (tE X.K ma)) (hb : L2.PE X b (tE X.K mb)) (hc : L2.PE X c (tE X.K mc)) (hs : noSet c = true) : L2.PE X (.Compare a [op.op, op'.op] [b, c] pos) (tE X.K (mCmp2 op op' ma mb mc)) :=
  pe_imp (pe_chain (op_cmp (by have := fx.hu; omega) op) (op_cmp (by have := fx.hu; omega) op') ha hb hc (lastM hs)) fun σ H Q h => cmp2_of h
theorem bind_ok {α β : Type} {r : Res α} {k : α → Sto → Res β} {b : β} {st' : Sto} (h : r.bind k = .ok b st') : ∃ a st1, r = .ok a st1 ∧ k a st1 = .ok b st' := by
  cases r with
  | ok a st1 => exact ⟨a, st1, rfl, h⟩
  | exc _ _ _ => cases h
  | bad => cases h
theorem lift_ok {α : Type} {o : Option α} {st st' : Sto} {a : α} (h : liftO o st = .ok a st') : o = some a ∧ st = st' := by
  cases o with
  | some b => cases h; exact ⟨rfl, rfl⟩
  | none => cases h
theorem s_tcmp (fx : Fit X) {op : Cop} (ha : L2.PE X a (tE X.K ma)) (hb : L2.PE X b (tE X.K mb)) (hs : noSet b = true) : L2.PT X (.Compare a [op.op] [b] pos) (tT X.K (mTc op ma mb)) :=
  pt_imp (pt_cmpR (op_cmp (by have := fx.hu; omega) op) ha hb (noSet_marks hs _)) fun σ H Q ⟨as, st, env, rel, re, g⟩ => tE_mono (two_of rel re g) fun v H1 h => tE_mono h fun u H2 ⟨as2, st2, x, y, _, r2, _, rx, ry, g2⟩ => by
    obtain ⟨z, e, g3⟩ := g2.lift
    exact ⟨as2, st2, x, y, z, r2, rx, ry, e, z, rfl, g3.here r2⟩
theorem s_tcmp2 (fx : Fit X) {op op' : Cop} (ha : L2.PE X a (tE X.K ma)) (hb : L2.PE X b (tE X.K mb)) (hc : L2.PE X c (tE X.K mc)) (hs : noSet c = true) : L2.PT X (.Compare a [op.op, op'.op] [b, c] pos) (tT X.K (mTc2 op op' ma mb mc)) :=
  pt_imp (pt_chain (op_cmp (by have := fx.hu; omega) op) (op_cmp (by have := fx.hu; omega) op') ha hb hc (lastM hs)) fun σ H Q ⟨as, st, env, rel, re, g⟩ => tE_mono (two_of rel re g) fun v H1 h => tE_mono h fun u H2 ⟨as2, st2, x, y, _, r2, re2, rx, ry, g2⟩ => by
    split at g2
    · rename_i e
      refine ⟨as2, st2, x, y, true, r2, rx, ry, e, true, rfl, ?_⟩
      rw [if_pos rfl]
      refine tE_mono (one_of r2 re2 g2) fun w H3 ⟨as3, st3, z, e3, r3, _, rz, g3⟩ => ?_
      obtain ⟨q, e4, g4⟩ := g3.lift
      exact ⟨as3, st3, y, z, q, r3, RV.mono e3 _ _ ry, rz, e4, q, rfl, g4.here r3⟩
    · rename_i e
      exact ⟨as2, st2, x, y, false, r2, rx, ry, e, false, rfl, by rw [if_neg (by simp)]; exact ⟨false, rfl, g2.here r2⟩⟩
    · exact g2.elim
theorem s_tval (ha : L2.PE X a (tE X.K ma)) (h : plainT a = true) : L2.PT X a (tT X.K (mVal ma)) :=
  pt_imp (pt_truth ha (plainT_is h _)) fun σ H Q ⟨as, st, env, rel, re, g⟩ => tE_mono (one_of rel re g) fun v H1 ⟨as1, st1, d, _, r1, _, rv, g1⟩ => by
    obtain ⟨k, e, g2⟩ := g1.lift
    exact ⟨k, truV_of r1 e rv, g2.here r1⟩
theorem s_tnot (ha : L2.PT X a (tT X.K ta)) : L2.PT X (.UnaryOp .Not a pos) (tT X.K fun env st => (ta env st).bind fun b st1 => .ok (!b) st1) :=
  pt_imp (pt_not ha) fun σ H Q ⟨as, st, env, rel, re, g⟩ => tT_mono (test_of rel re g) fun b H1 ⟨as1, st1, _, r1, _, g1⟩ => g1.here r1
theorem s_tand {l : List Expr} (ha : L2.PT X a (tT X.K ta)) (hb : PW X (.BoolOp .And (b :: l) pos) (tT X.K tb)) :
    PW X (.BoolOp .And (a :: b :: l) pos) (tT X.K fun env st => (ta env st).bind fun b st1 => if b then tb env st1 else .ok false st1) :=
  pw_imp (pw_and ha hb) fun σ H Q ⟨as, st, env, rel, re, g⟩ => tT_mono (test_of rel re g) fun b H1 ⟨as1, st1, _, r1, re1, g1⟩ => by
    cases b with
    | true => rw [if_pos rfl]; exact ⟨as1, st1, env, r1, re1, g1⟩
    | false => rw [if_neg (by simp)]; exact g1.here r1
theorem s_tor {l : List Expr} (ha : L2.PT X a (tT X.K ta)) (hb : PW X (.BoolOp .Or (b :: l) pos) (tT X.K tb)) :
    PW X (.BoolOp .Or (a :: b :: l) pos) (tT X.K fun env st => (ta env st).bind fun b st1 => if b then .ok true st1 else tb env st1) :=
  pw_imp (pw_or ha hb) fun σ H Q ⟨as, st, env, rel, re, g⟩ => tT_mono (test_of rel re g) fun b H1 ⟨as1, st1, _, r1, re1, g1⟩ => by
    cases b with
    | true => rw [if_pos rfl]; exact g1.here r1
    | false => rw [if_neg (by simp)]; exact ⟨as1, st1, env, r1, re1, g1⟩
theorem s_ife (hc : L2.PT X c (tT X.K ta)) (ha : L2.PE X a (tE X.K ma)) (hb : L2.PE X b (tE X.K mb)) : L2.PE X (.IfExp c a b pos) (tE X.K fun env st => (ta env st).bind fun k st1 => if k then ma env st1 else mb env st1) :=
  pe_imp (pe_ifExp hc ha hb) fun σ H Q ⟨as, st, env, rel, re, g⟩ => tT_mono (test_of rel re g) fun b H1 ⟨as1, st1, _, r1, re1, g1⟩ => by
    cases b with
    | true => rw [if_pos rfl]; exact ⟨as1, st1, env, r1, re1, g1⟩
    | false => rw [if_neg (by simp)]; exact ⟨as1, st1, env, r1, re1, g1⟩
variable {es : List Expr} {m m' : Env → Sto → Res (List D)}
theorem s_nil : PA X [] (tA X.K fun _ st => .ok [] st) := pa_imp pa_nil fun σ H Q ⟨as, st, env, rel, re, g⟩ => g.here rel _ rfl
theorem s_cons (ha : L2.PE X a (tE X.K ma)) (hr : PA X es (tA X.K m)) (hs : noStar a = true) : PA X (a :: es) (tA X.K fun env st => (ma env st).bind fun d st1 => (m env st1).bind fun ds st2 => .ok (d :: ds) st2) :=
  pa_imp (pa_cons ha hr (star_cons hs _ _)) fun σ H Q ⟨as, st, env, rel, re, g⟩ => tE_mono (one_of rel re g) fun v H1 ⟨as1, st1, d, _, r1, re1, rv, g1⟩ => tA_mono (all_of r1 re1 g1) fun vs H2 ⟨as2, st2, ds, e2, r2, _, rvs, g2⟩ =>
    g2.here r2 _ ⟨v, vs, rfl, RV.mono e2 _ _ rv, rvs⟩
theorem s_tup {k : Nat} (h : PA X es (tA X.K m)) : L2.PE X (.Tuple es k pos) (tE X.K fun env st => (m env st).bind fun ds st1 => if ds.length ≤ sizeLine then .ok (.tup ds) st1 else .bad) :=
  pe_imp (pe_tup h) fun σ H Q ⟨as, st, env, rel, re, g⟩ => tA_mono (all_of rel re g) fun vs H1 ⟨as1, st1, ds, _, r1, _, rvs, g1⟩ => by
    split at g1
    · rename_i hl; exact ⟨by rw [← rvs.length]; exact hl, GE.newT g1 r1 rvs⟩
    · exact g1.elim
theorem s_lst (h : PA X es (tA X.K m)) : L2.PE X (.List es pos) (tE X.K fun env st => (m env st).bind fun ds st1 => if ds.length ≤ sizeLine then .ok (.ref st1.length) (st1 ++ [.lst ds]) else .bad) :=
  pe_imp (pe_lst h) fun σ H Q ⟨as, st, env, rel, re, g⟩ => tA_mono (all_of rel re g) fun vs H1 ⟨as1, st1, ds, _, r1, _, rvs, g1⟩ => by
    split at g1
    · rename_i hl; exact ⟨by rw [← rvs.length]; exact hl, GE.newL g1 r1 rvs⟩
    · exact g1.elim
theorem s_idx (fx : Fit X) (ha : L2.PE X a (tE X.K ma)) (hb : L2.PE X b (tE X.K mb)) (hs : noSlice b = true) : L2.PE X (.Subscript a b pos) (tE X.K fun env st => (ma env st).bind fun x st1 => (mb env st1).bind fun y st2 => idxD x y st2) :=
  pe_imp (pe_ix (ix_all (by have := fx.hu; omega)) ha hb (noSlice_ix hs)) fun σ H Q ⟨as, st, env, rel, re, g⟩ => tE_mono (two_of rel re g) fun v H1 h => tE_mono h fun u H2 ⟨as2, st2, x, y, _, r2, _, rx, ry, g2⟩ => ⟨as2, st2, x, y, r2, rx, ry, g2⟩
theorem pairD_mem {k : Str} {d : D} : ∀ {kvs : List (Str × D)}, pairD (kvs.map fun q => .tup [.str q.1, q.2]) k = some d → (k, d) ∈ kvs
  | [], h => by cases h
  | (y, v) :: r, h => by
    have h : (if y = k then some v else pairD (r.map fun q => .tup [.str q.1, q.2]) k) = some d := h
    split at h
    · rename_i e; cases h; rw [e]; exact List.mem_cons_self
    · exact List.mem_cons_of_mem _ (pairD_mem h)
theorem s_gkd {x : Str} {kvs : List (Str × D)} {p : Pos} {G : Nat → Option D} {i : Nat} (hg : Gl X x) (hdb : (x == ("__debug__" : Str)) = false) (hk : KdFact X.K X.w X.mg G i x kvs) (hb : L2.PE X b (tE X.K mb)) (hs : noSlice b = true) :
    L2.PE X (.Subscript (.Name x p) b pos) (tE X.K fun env st => (mb env st).bind fun y st1 => liftO (gkD (G i) y) st1) := by
  obtain ⟨hG, d, es, n, hm, hd, hv⟩ := hk
  refine pe_imp (pe_ix ix_kdict (pe_glob hg hm (v := .ref d) rfl hdb) hb (noSlice_ix hs)) fun σ H Q ⟨as, st, env, rel, re, g⟩ => ?_
  refine (show tC (.ref d) σ H _ from tE_mono (one_of rel re g) fun v H1 ⟨as1, st1, y, _, r1, _, rv, g1⟩ => ?_)
  obtain ⟨w, e, g2⟩ := g1.lift
  rw [hG] at e
  unfold gkD at e
  split at e
  · rename_i e1
    cases e1
    rename_i k
    have rv : v = _ := rv
    obtain ⟨u, v', h1, h2, h3⟩ := hv _ (pairD_mem e)
    exact ⟨d, k, v', rfl, rv, ⟨es, n, u, hd.at_, hd.lit, h1, h2⟩, g2.here r1 _ (h3 _ _)⟩
  · cases e
theorem s_rev {k : Nat} {p1 p2 p3 : Pos} (ha : L2.PE X a (tE X.K ma)) : L2.PE X (.Subscript a (.Slice none none (some (.UnaryOp .USub (.Constant (.int 1) k p1) p2)) p3) pos) (tE X.K fun env st => (ma env st).bind fun x st1 => revD x st1) :=
  pe_imp (pe_revL ha) fun σ H Q ⟨as, st, env, rel, re, g⟩ => tE_mono (one_of rel re g) fun v H1 ⟨as1, st1, d, _, r1, _, rv, g1⟩ => by
    unfold revD at g1
    split at g1
    · obtain ⟨a, vs, rfl, h1, h2⟩ := rv
      exact ⟨a, vs, rfl, h1.l, GE.newL g1 r1 h2.reverse⟩
    · split at g1
      · rename_i e
        obtain ⟨a, rfl, _, hro⟩ := r1.of_ref e rv
        obtain ⟨vs, h1, h2⟩ := ro_seq hro rfl
        exact ⟨a, vs, rfl, h1, GE.newL g1 r1 h2.reverse⟩
      · exact g1.elim
    · exact g1.elim
theorem s_noPart : PO X none (tPartA (tE X.K fun _ st => .ok .non st)) := ⟨fun pins s σ H Q I ⟨as, st, env, rel, re, g⟩ => po_none.run pins s σ H Q I (by
  rcases GE.here' g rel rfl with ⟨i, e, _⟩ | ⟨_, q⟩
  · cases e
  · exact q)⟩
theorem part_ok {mh : Env → Sto → Res D} {x l : D} {env : Env} {st : Sto} {P : D → List Addr → Hp → Prop} {as : List Addr} {H : Hp} (g : Good X.K P as H ((mh env st).bind fun h st3 => slD x l h st3)) : ∃ o, partD l = some o := by
  cases e : mh env st with
  | ok h st3 =>
    rw [e] at g
    obtain ⟨o, _, e1, _⟩ := slD_eq g
    exact ⟨o, e1⟩
  | exc _ _ _ => rw [e] at g; exact g.elim
  | bad => rw [e] at g; exact g.elim
theorem part_rv {l : D} {o : Option Int} {as : List Addr} {H : Hp} {v : V} {Q : Option Int → Hp → Prop} (e : partD l = some o) (rv : RV X.K as H l v) (q : Q o H) : (∃ i, v = .int i ∧ Q (some i) H) ∨ (v = .non ∧ Q none H) := by
  unfold partD at e
  split at e
  · cases e; exact .inr ⟨rv, q⟩
  · cases e; exact .inl ⟨_, rv, q⟩
  · cases e
theorem s_sl {ml mh : Env → Sto → Res D} {lo hi : Option Expr} {p2 : Pos} (ha : L2.PE X a (tE X.K ma)) (hl : PO X lo (tPartA (tE X.K ml))) (hh : PO X hi (tPartA (tE X.K mh))) :
    L2.PE X (.Subscript a (.Slice lo hi none p2) pos) (tE X.K fun env st => (ma env st).bind fun x st1 => (ml env st1).bind fun l st2 => (mh env st2).bind fun h st3 => slD x l h st3) :=
  pe_imp (pe_slice sl_all ha hl hh) fun σ H Q ⟨as, st, env, rel, re, g⟩ => tE_mono (one_of rel re g) fun v H1 ⟨as1, st1, x, e1, r1, re1, rv, g1⟩ => by
    refine tE_mono (one_of r1 re1 g1) fun vl H2 ⟨as2, st2, l, e2, r2, re2, rl, g2⟩ => ?_
    obtain ⟨ol, hol⟩ := part_ok g2
    refine part_rv (Q := fun l H2 => tPartA (tE X.K mh) σ H2 fun u H3 => rSlU X.K v l u H3 Q) hol rl ?_
    refine tE_mono (one_of r2 re2 g2) fun vh H3 ⟨as3, st3, h, e3, r3, re3, rh, g3⟩ => ?_
    obtain ⟨ol', oh, h1, h2, g4⟩ := slD_eq g3
    rw [hol] at h1; cases h1
    exact part_rv (Q := fun u H3 => rSlU X.K v ol u H3 Q) h2 rh ⟨as3, st3, x, r3, RV.mono e3 _ _ (RV.mono e2 _ _ rv), g4⟩
end
end PL

set_option Elab.async false
set_option linter.all false
set_option maxRecDepth 100000
set_option maxHeartbeats 2000000
/-! PLH: calls, displays of dicts, methods, targets. -/
namespace PL
open PySem PySem.Spec PyProof.Rows L2

def Es.len : Es → Nat
  | .nil => 0
  | .cons _ es => es.len + 1
def Tgs.len : Tgs → Nat
  | .nil => 0
  | .cons _ es => es.len + 1
section
variable {α β : Type} {K : PySem.W.Frag} {as : List Addr} {H : Hp}
theorem Good.bindE {P : β → List Addr → Hp → Prop} {r : Res α} {k : α → Sto → Res β} (h : Good K P as H (r.bind k)) :
    Good K (fun a as1 H1 => ∃ st1, r = .ok a st1 ∧ Ext K as H as1 H1 ∧ Rel K as1 st1 H1 ∧ Good K P as H (k a st1)) as H r := by
  cases r with
  | ok a st' => exact fun as1 H1 e r => ⟨st', rfl, e, r, h⟩
  | exc _ _ _ => exact h
  | bad => exact h
theorem Res.bind_assoc {γ : Type} (r : Res α) (f : α → Sto → Res β) (g : β → Sto → Res γ) : (r.bind f).bind g = r.bind fun a st => (f a st).bind g := by
  cases r <;> rfl
end
section
variable (F : Nat → List D → Sto → Res D) (G : Nat → Option D)
theorem evs_len : ∀ (es : Es) (env : Env) (st : Sto) (ds : List D) (st' : Sto), evs F G es env st = .ok ds st' → ds.length = es.len
  | .nil, _, _, ds, _, h => by rw [evs] at h; cases h; rfl
  | .cons e es, env, st, ds, st', h => by
    rw [evs] at h
    obtain ⟨d, s1, _, h⟩ := bind_ok h
    obtain ⟨r, s2, h2, h⟩ := bind_ok h
    have := evs_len es env s1 r s2 h2
    cases h
    rw [List.length_cons, this]; rfl
/-- each of them -/
def PAll (X : Cx) : Es → List Expr → Prop
  | .nil, [] => True
  | .cons e es, x :: l => noStar x = true ∧ L2.PE X x (tE X.K (ev F G e)) ∧ PAll X es l
  | _, _ => False
variable {F G} {X : Cx}
theorem PAll.len : ∀ {es : Es} {l : List Expr}, PAll F G X es l → l.length = es.len
  | .nil, [], _ => rfl
  | .cons e es, x :: l, h => by rw [List.length_cons, PAll.len h.2.2]; rfl
  | .nil, _ :: _, h => h.elim
  | .cons _ _, [], h => h.elim
theorem PAll.stars : ∀ {es : Es} {l : List Expr}, PAll F G X es l → l.all noStar = true
  | .nil, [], _ => rfl
  | .cons e es, x :: l, h => by rw [List.all_cons, h.1, PAll.stars h.2.2]; rfl
  | .nil, _ :: _, h => h.elim
  | .cons _ _, [], h => h.elim
theorem evs_nil : (fun (_ : Env) (st : Sto) => (Res.ok ([] : List D) st)) = evs F G .nil := by funext env st; rw [evs]
theorem evs_cons (e : E) (es : Es) : (fun (env : Env) (st : Sto) => (ev F G e env st).bind fun d st1 => (evs F G es env st1).bind fun ds st2 => .ok (d :: ds) st2) = evs F G (.cons e es) := by funext env st; rw [evs]
theorem evs_nilE (env : Env) (st : Sto) : evs F G .nil env st = .ok [] st := by rw [evs]
theorem evs_consE (e : E) (es : Es) (env : Env) (st : Sto) : evs F G (.cons e es) env st = (ev F G e env st).bind fun d st1 => (evs F G es env st1).bind fun ds st2 => .ok (d :: ds) st2 := by rw [evs]
theorem PAll.pa : ∀ {es : Es} {l : List Expr}, PAll F G X es l → PA X l (tA X.K (evs F G es))
  | .nil, [], _ => by rw [← evs_nil]; exact s_nil
  | .cons e es, x :: l, h => by rw [← evs_cons]; exact s_cons h.2.1 (PAll.pa h.2.2) h.1
  | .nil, _ :: _, h => h.elim
  | .cons _ _, [], h => h.elim
theorem PAll.pk : ∀ {es : Es} {kl : List Keyword}, PAll F G X es (kl.map (·.value)) → PK X kl (tA X.K (evs F G es))
  | .nil, [], _ => by
    rw [← evs_nil]
    exact pk_imp pk_nil fun σ H Q ⟨as, st, env, rel, re, g⟩ => g.here rel _ rfl
  | .cons e es, ⟨nm, x, kp⟩ :: l, h => by
    rw [← evs_cons]
    exact pk_imp (pk_cons h.2.1 (PAll.pk h.2.2)) fun σ H Q ⟨as, st, env, rel, re, g⟩ => tE_mono (one_of rel re g) fun v H1 ⟨as1, st1, d, _, r1, re1, rv, g1⟩ => tA_mono (all_of r1 re1 g1) fun vs H2 ⟨as2, st2, ds, e2, r2, _, rvs, g2⟩ =>
      g2.here r2 _ ⟨v, vs, rfl, RV.mono e2 _ _ rv, rvs⟩
  | .nil, _ :: _, h => h.elim
  | .cons _ _, [], h => h.elim
/-- all of them, with their number -/
theorem evs_of {β : Type} {es : Es} {P : β → List Addr → Hp → Prop} {as : List Addr} {st : Sto} {env : Env} {σ : L2.St} {H : Hp} {f : List D → Sto → Res β} (rel : Rel X.K as st H) (re : REnv X.K as H env σ) (g : Good X.K P as H ((evs F G es env st).bind f)) :
    tA X.K (evs F G es) σ H fun vs H1 => ∃ as1 st1 ds, Ext X.K as H as1 H1 ∧ Rel X.K as1 st1 H1 ∧ REnv X.K as1 H1 env σ ∧ RVs X.K as1 H1 ds vs ∧ ds.length = es.len ∧ Good X.K P as1 H1 (f ds st1) :=
  ⟨as, st, env, rel, re, g.bindE.imp fun ds as1 H1 e1 ⟨st1, eq, _, r1, g1⟩ v rv => ⟨as1, st1, ds, e1, r1, re.mono e1, rv, evs_len F G es env st ds st1 eq, g1.mono e1⟩⟩

/-! ### calls -/
theorem s_call {k : Nat} {x : Str} {p pos : Pos} {ps : List Str} {kws : List (Nat × List Str × List Nat)} {Ff : List D → Sto → Res D} {f : Addr} {fd : FuncData} {es : Es} {l : List Expr}
    (Fa : FnAt X CXP k x ps kws (spU X.K Ff ps.length) f fd) (fx : Fit X) (hr : Room k X.A) (hgl : Gl X x) (hdb : (x == ("__debug__" : Str)) = false) (h : PAll F G X es l) (hn : l.length = ps.length) :
    L2.PE X (.Call (.Name x p) l [] pos) (tE X.K fun env st => (evs F G es env st).bind fun ds st1 => Ff ds st1) := by
  have core : ∀ σ H Q, tE X.K (fun env st => (evs F G es env st).bind fun ds st1 => Ff ds st1) σ H Q → tCall (spU X.K Ff ps.length) [] (fun _ _ _ => False) (tA X.K (evs F G es)) σ H Q := fun σ H Q ⟨as, st, env, rel, re, g⟩ =>
    tA_mono (evs_of rel re g) fun vs H1 ⟨as1, st1, ds, _, r1, _, rvs, hl, g1⟩ => ⟨as1, st1, ds, r1, by rw [List.append_nil]; exact rvs, by rw [hl, ← h.len, hn], g1⟩
  cases es with
  | nil => cases l with
    | nil =>
      refine pe_imp (pe_callG0 (E := fun _ _ _ => False) Fa fx.hg hr hgl passP hdb) fun σ H Q ht => ?_
      obtain ⟨as, st, env, rel, re, g⟩ := core σ H Q ht
      rw [evs_nilE] at g
      exact g.here rel _ rfl
    | cons _ _ => exact h.elim
  | cons e es => cases l with
    | nil => exact h.elim
    | cons y l => exact pe_imp (pe_callG (E := fun _ _ _ => False) Fa fx.hg hr hgl passP h.pa hdb (star_cons h.1 _ _) (stars_plain (PAll.stars h.2.2))) core
theorem kw_all {env : PySem.Env} {pos : Pos} : ∀ {kl : List Keyword}, kl.all (·.arg.isSome) = true → (backToKw pos (keywordEach kl env)).all (·.1.isSome) = true
  | [], _ => rfl
  | ⟨nm, e, p⟩ :: kl, h => by
    rw [List.all_cons, Bool.and_eq_true] at h
    have ih := kw_all (env := env) (pos := pos) h.2
    simp only [keywordEach, backToKw, List.map_cons, List.all_cons, Bool.and_eq_true] at ih ⊢
    exact ⟨h.1, ih⟩
theorem kw_none {env : PySem.Env} {pos : Pos} : ∀ {kl : List Keyword}, kl.all (·.arg.isSome) = true → (backToKw pos (keywordEach kl env)).any (·.1.isNone) = false
  | [], _ => rfl
  | ⟨nm, e, p⟩ :: kl, h => by
    rw [List.all_cons, Bool.and_eq_true] at h
    have ih := kw_none (env := env) (pos := pos) h.2
    simp only [keywordEach, backToKw, List.map_cons, List.any_cons, Bool.or_eq_false_iff] at ih ⊢
    refine ⟨?_, ih⟩
    have := h.1
    cases nm <;> simp_all
theorem kw_names {env : PySem.Env} {pos : Pos} : ∀ {kl : List Keyword}, (backToKw pos (keywordEach kl env)).filterMap (·.1) = kl.filterMap (·.arg)
  | [] => rfl
  | ⟨nm, e, p⟩ :: kl => by
    have ih := kw_names (env := env) (pos := pos) (kl := kl)
    simp only [keywordEach, backToKw, List.map_cons, List.filterMap_cons] at ih ⊢
    rw [ih]
theorem RVs.getD {K : PySem.W.Frag} {as : List Addr} {H : Hp} {ds : List D} {vs : List V} (h : RVs K as H ds vs) (j : Nat) : RV K as H (ds.getD j .non) (vs.getD j .non) := by
  cases e : ds[j]? with
  | none => rw [List.getD_eq_getElem?_getD, List.getD_eq_getElem?_getD, e, h.none_of e]; rfl
  | some d =>
    obtain ⟨v, e1, r⟩ := h.get e
    rw [List.getD_eq_getElem?_getD, List.getD_eq_getElem?_getD, e, e1]; exact r
theorem RVs.perm {K : PySem.W.Frag} {as : List Addr} {H : Hp} {ds : List D} {vs : List V} (h : RVs K as H ds vs) : ∀ g : List Nat, RVs K as H (g.map fun j => ds.getD j .non) (g.map fun j => vs.getD j .non)
  | [] => rfl
  | j :: g => ⟨_, _, rfl, h.getD j, RVs.perm h g⟩
theorem s_callK {k : Nat} {x : Str} {p pos : Pos} {ps : List Str} {kws : List (Nat × List Str × List Nat)} {Ff : List D → Sto → Res D} {f : Addr} {fd : FuncData} {es ks : Es} {l : List Expr} {kl : List Keyword} {g : List Nat}
    (Fa : FnAt X CXP k x ps kws (spU X.K Ff ps.length) f fd) (fx : Fit X) (hr : Room k X.A) (hgl : Gl X x) (hdb : (x == ("__debug__" : Str)) = false) (h : PAll F G X es l) (hk : PAll F G X ks (kl.map (·.value)))
    (hall : kl.all (·.arg.isSome) = true) (hq : (l.length, kl.filterMap (·.arg), g) ∈ kws) (hg : g.length = ps.length) :
    L2.PE X (.Call (.Name x p) l kl pos) (tE X.K fun env st => (evs F G es env st).bind fun ds st1 => (evs F G ks env st1).bind fun zs st2 => Ff (g.map fun j => (ds ++ zs).getD j .non) st2) := by
  have hlen : (kl.filterMap (·.arg)).length = kl.length := by
    clear hk hq
    induction kl with
    | nil => rfl
    | cons q kl ih =>
      rw [List.all_cons, Bool.and_eq_true] at hall
      obtain ⟨nm, hnm⟩ := Option.isSome_iff_exists.mp hall.1
      rw [List.filterMap_cons, hnm]
      simp [ih hall.2]
  have hkl : kl.length = ks.len := by rw [← hk.len, List.length_map]
  have core : ∀ σ H Q, tE X.K (fun env st => (evs F G es env st).bind fun ds st1 => (evs F G ks env st1).bind fun zs st2 => Ff (g.map fun j => (ds ++ zs).getD j .non) st2) σ H Q →
      tCallP (spU X.K Ff ps.length) l.length (kl.filterMap (·.arg)).length g (fun _ _ _ => False) (tA X.K (evs F G es)) (tA X.K (evs F G ks)) σ H Q := fun σ H Q ⟨as, st, env, rel, re, gg⟩ =>
    tA_mono (evs_of rel re gg) fun vs H1 ⟨as1, st1, ds, _, r1, re1, rvs, hl, g1⟩ => tA_mono (evs_of r1 re1 g1) fun zs H2 ⟨as2, st2, es2, e2, r2, _, rvz, hl2, g2⟩ =>
      ⟨by rw [← rvs.length, hl, h.len], by rw [← rvz.length, hl2, hlen, hkl], as2, st2, _, r2, ((RVs.mono e2 _ _ rvs).append rvz).perm g, by rw [List.length_map, hg], g2⟩
  cases es with
  | nil => cases l with
    | nil =>
      refine pe_imp (pe_callGK0 (E := fun _ _ _ => False) Fa fx.hg hr hgl passP hq hk.pk (kw_all hall) kw_names hdb ?_) fun σ H Q ht => ?_
      · rw [kw_none hall, Bool.or_false]; rfl
      · obtain ⟨as, st, env, rel, re, gg⟩ := core σ H Q ht
        rw [evs_nilE] at gg
        exact gg.here rel _ rfl
    | cons _ _ => exact h.elim
  | cons e es => cases l with
    | nil => exact h.elim
    | cons y l =>
      refine pe_imp (pe_callGK (E := fun _ _ _ => False) Fa fx.hg hr hgl passP hq h.pa hk.pk (kw_all hall) kw_names hdb (star_cons h.1 _ _) ?_) core
      rw [kw_none hall, Bool.or_false]
      exact stars_plain h.stars

/-! ### built-ins -/
theorem boot_of (b : Blt) (hb : b.plain = true) : bootBuiltins b.nm = some b.val := by
  cases b <;> first | (cases hb; done) | decide +kernel
theorem s_blt {b : Blt} (hb : b.plain = true) (fx : Fit X) {es : Es} {l : List Expr} {p pos : Pos} (hgl : Gl X b.nm) (hm : X.mg b.nm = none) (h : PAll F G X es l) (h0 : l ≠ []) :
    L2.PE X (.Call (.Name b.nm p) l [] pos) (tE X.K fun env st => (evs F G es env st).bind fun ds st1 => bltD b ds st1) := by
  have core : ∀ σ H Q, tE X.K (fun env st => (evs F G es env st).bind fun ds st1 => bltD b ds st1) σ H Q → tCB (rCallU X.K b) (tA X.K (evs F G es)) σ H Q := fun σ H Q ⟨as, st, env, rel, re, g⟩ =>
    tA_mono (all_of rel re g) fun vs H1 ⟨as1, st1, ds, _, r1, _, rvs, g1⟩ => ⟨as1, st1, ds, r1, rvs, g1⟩
  have hn : b.nm ≠ ("__name__" : Str) := by cases b <;> first | (cases hb; done) | decide
  have hdb : (b.nm == ("__debug__" : Str)) = false := by cases b <;> first | (cases hb; done) | decide
  have hc := call_all fx b hb
  have hv := boot_of b hb
  cases l with
  | nil => exact absurd rfl h0
  | cons y l => cases es with
    | nil => exact h.elim
    | cons e es =>
      refine pe_imp ?_ core
      cases b <;> first
        | (cases hb; done)
        | exact pe_callB hc hgl hm hv h.pa hn hdb (star_cons h.1 _ _) (stars_plain (PAll.stars h.2.2))
        | exact pe_callTy hc hgl hm hv h.pa hn hdb (star_cons h.1 _ _) (stars_plain (PAll.stars h.2.2))
theorem boot_ty (t : Ty) : bootBuiltins t.sn = some (.type t.nm) := by cases t <;> decide +kernel
theorem s_isi {t : Ty} {e : E} {a : Expr} {p pos py : Pos} (hgl : Gl X "isinstance") (hm : X.mg "isinstance" = none) (hgy : Gl X t.sn) (hmy : X.mg t.sn = none) (ha : L2.PE X a (tE X.K (ev F G e))) (hs : noStar a = true) :
    L2.PE X (.Call (.Name "isinstance" p) [a, .Name t.sn py] [] pos) (tE X.K fun env st => (evs F G (.cons e .nil) env st).bind fun ds st1 => bltD (.isi t) ds st1) := by
  have hty : L2.PE X (.Name t.sn py) (tC (.ty t.nm)) := pe_bltn hgy hmy (boot_ty t) rfl (by cases t <;> decide) (by cases t <;> decide)
  have hc : CallR X (.builtin "isinstance") (fun vs H Q => ∃ as st v d b, vs = [v, .ty t.nm] ∧ Rel X.K as st H ∧ RV X.K as H d v ∧ isiD st t d = some b ∧ Q (.bl b) H) := by
    intro pins s σ H vs us Q I r h
    obtain ⟨as, st, v, d, b, rfl, rel, rv, eq, q⟩ := h
    exact isi_run I r rel rv eq q
  refine pe_imp (pe_callB (x := "isinstance") hc hgl hm (by decide +kernel) (pa_cons ha (pa_cons hty pa_nil) (star_cons hs _ _)) (by decide) (by decide) (star_cons hs _ _)) fun σ H Q ⟨as, st, env, rel, re, g⟩ => ?_
  have g : Good X.K (PE' X.K Q) as H ((evs F G (.cons e .nil) env st).bind fun ds st1 => bltD (.isi t) ds st1) := g
  simp only [evs_consE, evs_nilE, Res.bind_assoc, Res.bind_ok] at g
  show tCons (tE X.K (ev F G e)) (tCons (tC (.ty t.nm)) tNil) σ H _
  refine tE_mono (one_of rel re g) fun v H1 ⟨as1, st1, d, _, r1, re1, rv, g1⟩ => ?_
  obtain ⟨z, e1, g2⟩ := Good.lift (o := (isiD st1 t d).map D.bl) g1
  obtain ⟨b, e2, rfl⟩ := Option.map_eq_some_iff.mp e1
  exact ⟨as1, st1, v, d, b, rfl, r1, rv, e2, g2.here r1 _ rfl⟩

/-! ### methods of lists -/
theorem s_meth {m : Mt} {e : E} {es : Es} {o : Expr} {l : List Expr} {ap cp : Pos} (ho : L2.PE X o (tE X.K (ev F G e))) (h : PAll F G X es l) (hb : noBase o = true) (hl : (ap.endLine == cp.line) = true) (h30 : l.length < 30) :
    L2.PE X (.Call (.Attribute o m.nm ap) l [] cp) (tE X.K fun env st => (ev F G e env st).bind fun x st1 => if isLst x st1 = true then (evs F G es env st1).bind fun ds st2 => methD m x ds st2 else .bad) := by
  have core : ∀ σ H Q, tE X.K (fun env st => (ev F G e env st).bind fun x st1 => if isLst x st1 = true then (evs F G es env st1).bind fun ds st2 => methD m x ds st2 else .bad) σ H Q →
      tBM X.K "list" (rMtU X.K m) (tE X.K (ev F G e)) (tA X.K (evs F G es)) σ H Q := fun σ H Q ⟨as, st, env, rel, re, g⟩ =>
    tE_mono (one_of rel re g) fun v H1 ⟨as1, st1, d, _, r1, re1, rv, g1⟩ => by
      split at g1
      · rename_i hi
        refine ⟨?_, tA_mono (all_of r1 re1 g1) fun vs H2 ⟨as2, st2, ds, e2, r2, _, rvs, g2⟩ => ⟨as2, st2, d, ds, r2, RV.mono e2 _ _ rv, rvs, g2⟩⟩
        unfold isLst at hi
        split at hi
        · split at hi
          · rename_i e
            obtain ⟨a, rfl, _, hro⟩ := r1.of_ref e rv
            obtain ⟨vs, h1, _⟩ := ro_seq hro rfl
            exact .inl ⟨rfl, vs, h1⟩
          · cases hi
        · cases hi
      · exact g1.elim
  have hslot : Slot "list" m.nm m.id := by
    cases m
    · exact PySem.F.slot_list_append
    · exact PySem.F.slot_list_pop
    · exact PySem.F.slot_list_pop
    · exact PySem.F.slot_list_insert
    · exact PySem.F.slot_list_extend
  have hty : typeOf (.builtin m.id) = pure (.type "method_descriptor") := by
    cases m
    · exact PySem.F.type_list_append
    · exact PySem.F.type_list_pop
    · exact PySem.F.type_list_pop
    · exact PySem.F.type_list_insert
    · exact PySem.F.type_list_extend
  cases es with
  | nil => cases l with
    | nil =>
      refine pe_imp (pe_bm0 PySem.F.plainAttrs_list hslot hty (mt_all m) ho (noBase_is hb _ _ _) hl) fun σ H Q ht => ?_
      refine tE_mono (core σ H Q ht) fun v H1 ⟨h1, as1, st1, env1, r1, re1, g1⟩ => ⟨h1, ?_⟩
      rw [evs_nilE] at g1
      exact g1.here r1 _ rfl
    | cons _ _ => exact h.elim
  | cons e' es => cases l with
    | nil => exact h.elim
    | cons y l =>
      refine pe_imp (pe_bm PySem.F.plainAttrs_list hslot hty (mt_all m) ho h.pa (noBase_is hb _ _ _) ?_ hl (star_cons h.1 _ _) (stars_plain (PAll.stars h.2.2))) core
      rw [stars_all h.stars]
      simpa [keywordEach, backToKw] using h30

/-! ### displays of dicts -/
section
variable {β : Type} {K : PySem.W.Frag} {P : β → List Addr → Hp → Prop} {as0 as : List Addr} {H0 H : Hp} {st : Sto} {env : Env} {σ : L2.St}
/-- as one_of; what is to come is told from an elder place -/
theorem one_ofE {ma : Env → Sto → Res D} {f : D → Sto → Res β} (e : Ext K as0 H0 as H) (rel : Rel K as st H) (re : REnv K as H env σ) (g : Good K P as0 H0 ((ma env st).bind f)) :
    tE K ma σ H fun v H1 => ∃ as1 st1 d, Ext K as H as1 H1 ∧ Rel K as1 st1 H1 ∧ REnv K as1 H1 env σ ∧ RV K as1 H1 d v ∧ Good K P as0 H0 (f d st1) :=
  ⟨as, st, env, rel, re, (g.bindE.mono e).imp fun d as1 H1 e1 ⟨st1, _, _, r1, g1⟩ v rv => ⟨as1, st1, d, e1, r1, re.mono e1, rv, g1⟩⟩
theorem test_ofE {m : Env → Sto → Res Bool} {f : Bool → Sto → Res β} (e : Ext K as0 H0 as H) (rel : Rel K as st H) (re : REnv K as H env σ) (g : Good K P as0 H0 ((m env st).bind f)) :
    tT K m σ H fun b H1 => ∃ as1 st1, Ext K as H as1 H1 ∧ Rel K as1 st1 H1 ∧ REnv K as1 H1 env σ ∧ Good K P as0 H0 (f b st1) :=
  ⟨as, st, env, rel, re, (g.bindE.mono e).imp fun d as1 H1 e1 ⟨st1, _, _, r1, g1⟩ => ⟨as1, st1, e1, r1, re.mono e1, g1⟩⟩
theorem tg_ofE {own : List Nat → Bool} {m : D → Env → Sto → Res Env} {f : Env → Sto → Res β} {d : D} {v : V} (e : Ext K as0 H0 as H) (rel : Rel K as st H) (re : REnv K as H env σ) (rv : RV K as H d v) (g : Good K P as0 H0 ((m d env st).bind f)) :
    tG K own m v σ H fun σ' H1 => ∃ as1 st1 env1, Ext K as H as1 H1 ∧ Rel K as1 st1 H1 ∧ REnv K as1 H1 env1 σ' ∧ (∀ vs, own vs = true → wipe σ' vs = wipe σ vs) ∧ Good K P as0 H0 (f env1 st1) :=
  ⟨as, st, env, d, rel, re, rv, (g.bindE.mono e).imp fun env1 as1 H1 e1 ⟨st1, _, _, r1, g1⟩ σ' re1 hw => ⟨as1, st1, env1, e1, r1, re1, hw, g1⟩⟩
end
def prs (K : PySem.W.Frag) (F : Nat → List D → Sto → Res D) (G : Nat → Option D) : List Key → Es → List (TE × TE)
  | k :: ks, .cons e es => (tC (kV k), tE K (ev F G e)) :: prs K F G ks es
  | _, _ => []
theorem key_pe {k : Key} {e : Option Expr} (h : keyB k e = true) : ∃ x, e = some x ∧ L2.PE X x (tC (kV k)) := by
  cases e with
  | none => cases h
  | some x =>
    refine ⟨x, rfl, ?_⟩
    unfold keyB at h
    simp only [] at h
    split at h
    · rename_i j i e
      obtain ⟨_, _, rfl⟩ := asConst_eq e
      cases of_decide_eq_true h
      exact pe_int
    · rename_i y z e
      obtain ⟨_, _, rfl⟩ := asConst_eq e
      cases of_decide_eq_true h
      exact pe_str
    · cases h
theorem pps_of {pos : Pos} : ∀ {ks : List Key} {es : Es} {kl : List (Option Expr)} {vl : List Expr}, keysB ks kl = true → kl.length = vl.length → PAll F G X es vl → PPs X pos kl vl (prs X.K F G ks es)
  | [], .nil, [], [], _, _, _ => pps_nil
  | k :: ks, .cons e es, x :: kl, v :: vl, hk, hl, h => by
    unfold keysB at hk
    rw [Bool.and_eq_true] at hk
    obtain ⟨y, rfl, hy⟩ := key_pe (X := X) hk.1
    exact pps_cons hy h.2.1 (pps_of hk.2 (by simpa using hl) h.2.2)
  | [], _, _ :: _, _, hk, _, _ => by cases hk
  | _ :: _, _, [], _, hk, _, _ => by cases hk
  | [], _, [], _ :: _, _, hl, _ => by cases hl
  | _ :: _, _, _ :: _, [], _, hl, _ => by cases hl
  | _, .nil, _, _ :: _, _, _, h => h.elim
  | _, .cons _ _, _, [], _, _, h => h.elim
theorem key_some {k : Key} {e : Option Expr} (h : keyB k e = true) : e.isSome = true := by
  cases e with
  | none => cases h
  | some x => rfl
theorem keysB_all : ∀ {ks : List Key} {kl : List (Option Expr)}, keysB ks kl = true → kl.all (·.isSome) = true ∧ ks.length = kl.length
  | [], [], _ => ⟨rfl, rfl⟩
  | k :: ks, x :: kl, h => by
    unfold keysB at h
    rw [Bool.and_eq_true] at h
    obtain ⟨h1, h2⟩ := keysB_all h.2
    exact ⟨by rw [List.all_cons, h1, key_some h.1]; rfl, by rw [List.length_cons, List.length_cons, h2]⟩
  | [], _ :: _, h => by cases h
  | _ :: _, [], h => by cases h
theorem prs_run {K : PySem.W.Frag} {σ : L2.St} {β : Type} {P : β → List Addr → Hp → Prop} {env : Env} {as0 : List Addr} {H0 : Hp} : ∀ {ks : List Key} {es : Es} {as : List Addr} {st : Sto} {H : Hp} {f : List D → Sto → Res β} {Q : List (V × V) → Hp → Prop}, ks.length = es.len →
    Ext K as0 H0 as H → Rel K as st H → REnv K as H env σ → Good K P as0 H0 ((evs F G es env st).bind f) →
    (∀ (as' : List Addr) (st' : Sto) (H' : Hp) (ds : List D) (vs : List V), Ext K as H as' H' → Rel K as' st' H' → RVs K as' H' ds vs → ds.length = ks.length → Good K P as0 H0 (f ds st') → Q ((ks.zip vs).map fun kv => (kV kv.1, kv.2)) H') →
    tPairs (prs K F G ks es) σ H Q
  | [], .nil, as, st, H, f, Q, _, e, rel, re, g, hq => by
    rw [evs_nilE] at g
    exact hq as st H [] [] Ext.refl rel rfl rfl g
  | k :: ks, .cons x es, as, st, H, f, Q, hl, e, rel, re, g, hq => by
    simp only [evs_consE, Res.bind_assoc, Res.bind_ok] at g
    show tE K (ev F G x) σ H _
    refine tE_mono (one_ofE e rel re g) fun v H1 ⟨as1, st1, d, e1, r1, re1, rv, g1⟩ => ?_
    refine prs_run (Nat.succ.inj hl) (e.trans e1) r1 re1 g1 fun as' st' H' ds vs e2 r2 rvs hl2 g2 => ?_
    exact hq as' st' H' (d :: ds) (v :: vs) (e1.trans e2) r2 ⟨v, vs, rfl, RV.mono e2 _ _ rv, rvs⟩ (by rw [List.length_cons, List.length_cons, hl2]) g2
  | [], .cons _ _, _, _, _, _, _, hl, _, _, _, _, _ => by cases hl
  | _ :: _, .nil, _, _, _, _, _, hl, _, _, _, _, _ => by cases hl
theorem merge_of {K : PySem.W.Frag} {as : List Addr} {H : Hp} : ∀ {ks : List Key} {ds : List D} {vs : List V} {acc : List (Key × D)} {acv : List (Key × V)}, RVs K as H ds vs → RKV K as H acc acv →
    RKV K as H ((ks.zip ds).foldl (fun acc kv => putKV acc kv.1 kv.2) acc) (mergeK acv (ks.zip vs))
  | [], _, _, _, _, _, r => r
  | k :: ks, [], _, _, _, h, r => by have h : _ = [] := h; subst h; exact r
  | k :: ks, d :: ds, _, _, _, h, r => by
    obtain ⟨v, vs, rfl, h1, h2⟩ := h
    exact merge_of (ks := ks) (ds := ds) (vs := vs) h2 (putKV_of r h1)
theorem s_dic {ks : List Key} {es : Es} {kl : List (Option Expr)} {vl : List Expr} {pos : Pos} (hk : keysB ks kl = true) (hl : kl.length = vl.length) (h15 : kl.length ≤ 15) (h : PAll F G X es vl) (h0 : kl ≠ []) :
    L2.PE X (.Dict kl vl pos) (tE X.K fun env st => (evs F G es env st).bind fun ds st1 => if ks.length = ds.length ∧ ks.length ≤ 15 then
      .ok (.ref st1.length) (st1 ++ [.dct ((ks.zip ds).foldl (fun acc kv => putKV acc kv.1 kv.2) [])]) else .bad) := by
  obtain ⟨ha, hl2⟩ := keysB_all hk
  refine pe_imp (pe_disp (pps_of hk hl h) ha hl h0 h15) fun σ H Q ⟨as, st, env, rel, re, g⟩ => ?_
  intro p hp
  have e0 : Ext X.K as H as (upd H p (.dK [])) := Ext.laid hp
  have hpa : p ∉ as := rel.out hp
  refine prs_run (as0 := as) (H0 := H) (by rw [hl2, hl, h.len]) e0 (rel.laid hp) (re.mono e0) g fun as' st' H' ds vs e1 r1 rvs hl3 g1 => ?_
  have hp1 : H' p = some (.dK []) := e1.frm p _ hpa upd_same
  refine ⟨hp1, ks.zip vs, rfl, ?_, ?_⟩
  · have := List.length_zip (l₁ := ks) (l₂ := vs); omega
  · split at g1
    · have hm : (∀ vs : List V, (HO.dK []) ≠ .tup vs) ∧ ∀ o w, (HO.dK []) ≠ .frz o w := ⟨fun _ z => (by cases z), fun _ _ z => (by cases z)⟩
      have hpa' : p ∉ as' := e1.out upd_same hpa
      have ew : Ext X.K as H as' (upd H' p (.dK (mergeK [] (ks.zip vs)))) := (e0.trans e1).side hp hp1 hm
      have ea := ew.adopt hp
      have rs : Rel X.K as' st' (upd H' p (.dK (mergeK [] (ks.zip vs)))) := r1.side hpa' hp1 hm
      have hro : RO X.K (as' ++ [p]) (upd H' p (.dK (mergeK [] (ks.zip vs)))) (.dct ((ks.zip ds).foldl (fun acc kv => putKV acc kv.1 kv.2) [])) p :=
        ⟨_, upd_same, RKV.monoW Wk.snoc _ _ (RKV.monoW (Wk.side hp1 hm) _ _ (merge_of rvs rfl))⟩
      have ra := rs.adopt hpa' hro
      exact g1 _ _ ea ra _ ⟨p, rfl, by rw [List.getElem?_append_right (by rw [r1.len]; exact Nat.le_refl _), r1.len]; simp⟩
    · exact g1.elim
theorem s_dic0 {pos : Pos} {es : Es} (h : PAll F G X es []) : L2.PE X (.Dict [] [] pos) (tE X.K fun env st => (evs F G es env st).bind fun ds st1 => if ([] : List Key).length = ds.length ∧ ([] : List Key).length ≤ 15 then
      .ok (.ref st1.length) (st1 ++ [.dct ((([] : List Key).zip ds).foldl (fun acc kv => putKV acc kv.1 kv.2) [])]) else .bad) := by
  cases es with
  | cons _ _ => exact h.elim
  | nil =>
    refine pe_imp pe_dnewK fun σ H Q ⟨as, st, env, rel, re, g⟩ => ?_
    simp only [evs_nilE, Res.bind_ok] at g
    rw [if_pos ⟨rfl, by decide⟩] at g
    intro p hp
    have ex : Ext X.K as H (as ++ [p]) (upd H p (.dK [])) := Ext.push hp
    refine g _ _ ex (rel.push hp ⟨_, upd_same, rfl⟩) _ ⟨p, rfl, ?_⟩
    rw [List.getElem?_append_right (by rw [rel.len]; exact Nat.le_refl _), rel.len]; simp
end
end PL

set_option Elab.async false
set_option linter.all false
set_option maxRecDepth 100000
set_option maxHeartbeats 1000000
/-! PLT: dict(zip(a, b)) of lists and tuples in any mix. -/
namespace PL
open PySem PySem.Spec PyProof.Rows L2
section
variable {prog : Program} {w : World} {A : Around} {E : Value → Shared → Prop} {s : Shared} {z TI TO i1 i2 T : Addr} {f1 f2 : List Addr} {n1 n2 i : Nat} {P1 P2 : Nat → Value → Prop} {S1 S2 : Nat → Heap → Prop} {f : Bool} {oT : Obj}
/-- the next pair while the last one is still about -/
theorem zh_item {Q : Value → Shared → Prop} (S : ZipSep2 z TI TO i1 i2 f1 f2) (D1 : Draws prog w A i1 f1 n1 P1 S1) (D2 : Draws prog w A i2 f2 n2 P2 S2)
    (ez : IsZipHeld s.heap z TI TO T f) (eT : s.heap.get? T = some oT) (eTI : IsTupOf2 s.heap TI (.ref i1) (.ref i2)) (q1 : S1 i s.heap) (q2 : S2 i s.heap) (l1 : i < n1) (l2 : i < n2)
    (fin : ∀ x1 x2 h' tk, P1 i x1 → P2 i x2 → IsZipHeld h' z TI TO T true → S1 (i + 1) h' → S2 (i + 1) h' → IsTupOf2 h' s.heap.objs.size x1 x2 →
      (∀ c o, c ≠ z → c ≠ i1 → c ≠ i2 → s.heap.get? c = some o → h'.get? c = some o) → Q (.ref s.heap.objs.size) { s with heap := h', toks := tk }) :
    wpAny (model prog w) A (Builtin.«zip.__next__» ⟨[.ref z], []⟩) (fun r s' => ∃ v, r = .done (.ret v) ∧ Q v s') E s := by
  obtain ⟨hp, gs, dd, tk0, os⟩ := s
  show wpAny _ A (field (Value.ref z) 2 >>= _) _ E _
  refine wpAny_bind (wpAny_field (x := .bool false) ez rfl rfl ?_)
  show wpAny _ A (field (Value.ref z) 3 >>= _) _ E _
  refine wpAny_bind (wpAny_field (x := .ref TI) ez rfl rfl (wpAny_bind (wpAny_seqItems eTI rfl ?_)))
  show wpAny _ A (Builtin.SmallTypes.ownedTupleIsFree (Value.ref z) >>= _) _ E _
  refine wpAny_bind (wpAny_tupleHeld_zip ez eT fun g0 z0 c0 => ?_)
  replace c0 : Heap.SameBut z hp g0 := c0
  simp only [Bool.false_eq_true, if_false]
  rw [← Array.forIn_toList]
  refine wpAny_bind ?_
  simp only [List.forIn_nil, List.forIn_cons]
  refine wpAny_bind (wpAny_bind (wpAny_holding ?_))
  show wpAny _ A (Builtin.SmallTypes.nextOf (Value.ref i1) >>= _) _ E ⟨g0, gs, dd, tk0, os⟩
  refine wpAny_bind (D1.item i _ _ _ l1 (D1.over q1 c0 S.zf1) fun x1 g1 t1 r1 m1 c1 => wpAny_pure (wpAny_pure ?_))
  replace c1 : Heap.SameBut i1 g0 g1 := c1
  refine wpAny_bind (wpAny_bind (wpAny_holding ?_))
  show wpAny _ A (Builtin.SmallTypes.nextOf (Value.ref i2) >>= _) _ E ⟨g1, gs, dd, t1, os⟩
  refine wpAny_bind (D2.item i _ _ _ l2 (D2.over (D2.over q2 c0 S.zf2) c1 S.sep1_2) fun x2 g2 t2 r2 m2 c2 => wpAny_pure (wpAny_pure (wpAny_pure ?_)))
  replace c2 : Heap.SameBut i2 g1 g2 := c2
  have up : ∀ c o, c ≠ z → c ≠ i1 → c ≠ i2 → hp.get? c = some o → g2.get? c = some o := fun c o n0 n1 n2 e => c2.extBut c o n2 (c1.extBut c o n1 (c0.extBut c o n0 e))
  have ez2 : IsZipHeld g2 z TI TO T true := c2.extBut z _ S.zi2 (c1.extBut z _ S.zi1 z0)
  have esz : g2.objs.size = hp.objs.size := by rw [c2.1, c1.1, c0.1]
  show wpAny _ A (newTuple [x1, x2] >>= _) _ E ⟨g2, gs, dd, t2, os⟩
  refine wpAny_bind (wpAny_newTuple (wpAny_pure ⟨Value.ref g2.objs.size, rfl, ?_⟩))
  have en : IsTupOf2 (g2.push { cls := .type "tuple", data := .seq #[x1, x2] }) g2.objs.size x1 x2 := Heap.get?_push_size _ rfl
  have m1' : S1 (i + 1) g2 := D1.over m1 c2 S.sep2_1
  show Q (.ref g2.objs.size) ⟨g2.push { cls := .type "tuple", data := .seq #[x1, x2] }, gs, dd, t2, os⟩
  rw [esz] at en ⊢
  have pk : ∀ c o, g2.get? c = some o → (g2.push { cls := .type "tuple", data := .seq #[x1, x2] }).get? c = some o := fun c o e => Heap.get?_push_of_some _ e
  exact fin x1 x2 _ t2 r1 r2 (pk _ _ ez2) (D1.frame _ _ _ m1' fun b _ o e => pk b o e) (D2.frame _ _ _ m2 fun b _ o e => pk b o e) en fun c o n0 n1 n2 e => pk c o (up c o n0 n1 n2 e)
/-- there is no pair any more -/
theorem zh_end {Q : Fin → Shared → Prop} (S : ZipSep2 z TI TO i1 i2 f1 f2) (D1 : Draws prog w A i1 f1 n1 P1 S1) (D2 : Draws prog w A i2 f2 n2 P2 S2)
    (ez : IsZipHeld s.heap z TI TO T f) (eT : s.heap.get? T = some oT) (eTI : IsTupOf2 s.heap TI (.ref i1) (.ref i2)) (q1 : S1 i s.heap) (q2 : S2 i s.heap) (l1 : i ≤ n1) (l2 : i ≤ n2) (hend : i = n1 ∨ i = n2)
    (fin : ∀ h' tk e, (∀ c o, c ≠ z → c ≠ i1 → c ≠ i2 → s.heap.get? c = some o → h'.get? c = some o) → (∃ o, h'.get? e = some o ∧ o.cls = .type "StopIteration") → E (.ref e) { s with heap := h', toks := tk }) :
    wpAny (model prog w) A (Builtin.«zip.__next__» ⟨[.ref z], []⟩) Q E s := by
  obtain ⟨hp, gs, dd, tk0, os⟩ := s
  show wpAny _ A (field (Value.ref z) 2 >>= _) _ E _
  refine wpAny_bind (wpAny_field (x := .bool false) ez rfl rfl ?_)
  show wpAny _ A (field (Value.ref z) 3 >>= _) _ E _
  refine wpAny_bind (wpAny_field (x := .ref TI) ez rfl rfl (wpAny_bind (wpAny_seqItems eTI rfl ?_)))
  show wpAny _ A (Builtin.SmallTypes.ownedTupleIsFree (Value.ref z) >>= _) _ E _
  refine wpAny_bind (wpAny_tupleHeld_zip ez eT fun g0 z0 c0 => ?_)
  replace c0 : Heap.SameBut z hp g0 := c0
  simp only [Bool.false_eq_true, if_false]
  rw [← Array.forIn_toList]
  refine wpAny_bind ?_
  simp only [List.forIn_nil, List.forIn_cons]
  refine wpAny_bind (wpAny_bind (wpAny_holding ?_))
  show wpAny _ A (Builtin.SmallTypes.nextOf (Value.ref i1) >>= _) _ E ⟨g0, gs, dd, tk0, os⟩
  by_cases h1 : i < n1
  · refine wpAny_bind (D1.item i _ _ _ h1 (D1.over q1 c0 S.zf1) fun x1 g1 t1 r1 m1 c1 => wpAny_pure (wpAny_pure ?_))
    replace c1 : Heap.SameBut i1 g0 g1 := c1
    have e2 : i = n2 := by omega
    refine wpAny_bind (wpAny_bind (wpAny_holding ?_))
    show wpAny _ A (Builtin.SmallTypes.nextOf (Value.ref i2) >>= _) _ E ⟨g1, gs, dd, t1, os⟩
    have q2' : S2 i g1 := D2.over (D2.over q2 c0 S.zf2) c1 S.sep1_2
    rw [e2] at q2'
    refine wpAny_bind (D2.done ⟨g1, gs, dd, t1, os⟩ _ _ q2' fun g2 e c2 he => ?_)
    exact fin g2 t1 e (fun c o n0 n1 n2 x => c2 c o n2 (c1.extBut c o n1 (c0.extBut c o n0 x))) he
  · have e1 : i = n1 := by omega
    have q1' : S1 i g0 := D1.over q1 c0 S.zf1
    rw [e1] at q1'
    refine wpAny_bind (D1.done ⟨g0, gs, dd, tk0, os⟩ _ _ q1' fun g2 e c2 he => ?_)
    exact fin g2 tk0 e (fun c o n0 n1 n2 x => c2 c o n1 (c0.extBut c o n0 x)) he
theorem zhn_item {Q : Option Value → Shared → Prop} (S : ZipSep2 z TI TO i1 i2 f1 f2) (D1 : Draws prog w A.in1 i1 f1 n1 P1 S1) (D2 : Draws prog w A.in1 i2 f2 n2 P2 S2)
    (ez : IsZipHeld s.heap z TI TO T f) (eT : s.heap.get? T = some oT) (eTI : IsTupOf2 s.heap TI (.ref i1) (.ref i2)) (q1 : S1 i s.heap) (q2 : S2 i s.heap) (l1 : i < n1) (l2 : i < n2)
    (fin : ∀ x1 x2 h' tk, P1 i x1 → P2 i x2 → IsZipHeld h' z TI TO T true → S1 (i + 1) h' → S2 (i + 1) h' → IsTupOf2 h' s.heap.objs.size x1 x2 →
      (∀ c o, c ≠ z → c ≠ i1 → c ≠ i2 → s.heap.get? c = some o → h'.get? c = some o) → Q (some (.ref s.heap.objs.size)) { s with heap := h', toks := tk }) :
    wpAny (model prog w) A (pyNext (.ref z)) Q E s := by
  have ty : s.TypeIs (.ref z) "zip" := ⟨_, ez, rfl⟩
  unfold pyNext
  refine wpAny_bind (wpAny_attempt (wpAny_callSpecial?_slot (name := Str.ofString "__next__") ty F.slot_zip_next (wpAny_call_entry F.slot_zip_next ty F.entry_zip_next ?_ (F.args_zip_next_1 _))))
  exact zh_item S D1 D2 ez eT eTI q1 q2 l1 l2 fun x1 x2 h' tk p1 p2 a1 a2 a3 a4 a5 => wpAny_pure (fin x1 x2 h' tk p1 p2 a1 a2 a3 a4 a5)
theorem zhn_end {Q : Option Value → Shared → Prop} (S : ZipSep2 z TI TO i1 i2 f1 f2) (D1 : Draws prog w A.in1 i1 f1 n1 P1 S1) (D2 : Draws prog w A.in1 i2 f2 n2 P2 S2)
    (ez : IsZipHeld s.heap z TI TO T f) (eT : s.heap.get? T = some oT) (eTI : IsTupOf2 s.heap TI (.ref i1) (.ref i2)) (q1 : S1 i s.heap) (q2 : S2 i s.heap) (l1 : i ≤ n1) (l2 : i ≤ n2) (hend : i = n1 ∨ i = n2)
    (fin : ∀ h' tk, (∀ c o, c ≠ z → c ≠ i1 → c ≠ i2 → s.heap.get? c = some o → h'.get? c = some o) → Q none { s with heap := h', toks := tk }) :
    wpAny (model prog w) A (pyNext (.ref z)) Q E s := by
  have ty : s.TypeIs (.ref z) "zip" := ⟨_, ez, rfl⟩
  unfold pyNext
  refine wpAny_bind (wpAny_attempt (wpAny_callSpecial?_slot (name := Str.ofString "__next__") ty F.slot_zip_next (wpAny_call_entry F.slot_zip_next ty F.entry_zip_next ?_ (F.args_zip_next_1 _))))
  refine zh_end S D1 D2 ez eT eTI q1 q2 l1 l2 hend fun h' tk e hk ⟨o, ho, hc⟩ => ?_
  exact wpAny_bind (wpAny_isInstance (T := "StopIteration") (b := true) ⟨o, ho, hc⟩ isSubtype_stop (wpAny_pure (fin _ _ hk)))
end

/-- zip(a, b) as the argument of dict -/
theorem parg_zip {prog : Program} {w : World} (k k' : Sk) {a b z TI TO i1 i2 : Addr} (D : ZApart z TI TO i1 i2 a b) (xs ys : Array Value) :
    PairArg prog w "zip" z [z, TI, TO, i1, i2, a, b] [z, TO, i1, i2] (min xs.size ys.size) (fun i x y => xs[i]? = some x ∧ ys[i]? = some y)
      (fun h => IsZip h z TI TO .none ∧ IsTupOf2 h TI (.ref i1) (.ref i2) ∧ (∃ u v, IsTupOf2 h TO u v) ∧ (ItIs k h i1 a 0 ∧ SeqIs k h a xs) ∧ ItIs k' h i2 b 0 ∧ SeqIs k' h b ys) where
  type := fun _ hok => ⟨_, hok.1, rfl⟩
  notDict := by decide
  keep := fun h1 h2 hok hk => by
    obtain ⟨ez, eTI, ⟨u, v, eTO⟩, ⟨a1, a2⟩, b1, b2⟩ := hok
    exact ⟨hk z _ ez, hk TI _ eTI, ⟨u, v, hk TO _ eTO⟩, ⟨itIs_at a1 (hk i1), seqIs_at a2 (hk a)⟩, itIs_at b1 (hk i2), seqIs_at b2 (hk b)⟩
  there := fun h1 hok c hc => by
    obtain ⟨ez, eTI, ⟨u, v, eTO⟩, ⟨a1, a2⟩, b1, b2⟩ := hok
    have sq : ∀ {kk : Sk} {c : Addr} {us : Array Value}, SeqIs kk h1 c us → ∃ o, h1.get? c = some o := fun {kk c us} h => by
      cases kk
      · obtain ⟨o, e, _⟩ := h; exact ⟨o, e⟩
      · obtain ⟨o, e, _⟩ := h; exact ⟨o, e⟩
    have it : ∀ {kk : Sk} {c l : Addr}, ItIs kk h1 c l 0 → ∃ o, h1.get? c = some o := fun h => let ⟨o, e, _⟩ := itIs_obj h; ⟨o, e⟩
    have hc' : c = z ∨ c = TI ∨ c = TO ∨ c = i1 ∨ c = i2 ∨ c = a ∨ c = b := by simpa using hc
    rcases hc' with q | q | q | q | q | q | q <;> subst q
    · exact ⟨_, ez⟩
    · exact ⟨_, eTI⟩
    · exact ⟨_, eTO⟩
    · exact it a1
    · exact it b1
    · exact sq a2
    · exact sq b2
  sub := fun c hc => by
    have hc' : c = z ∨ c = TO ∨ c = i1 ∨ c = i2 := by simpa using hc
    rcases hc' with q | q | q | q <;> simp [q]
  noKeys := fun A' s' Q' E' hd hok fin => getAttrOr_miss_zip (o := _) hok.1 rfl rfl rfl zip_no_keys (by decide +kernel) hd fin
  iter := fun A' s' d Q' E' hd hok dl dn fin => by
    obtain ⟨ez, eTI, ⟨u, v, eTO⟩, ⟨a1, a2⟩, b1, b2⟩ := hok
    have dz : d ≠ z ∧ d ≠ TI ∧ d ≠ TO ∧ d ≠ i1 ∧ d ≠ i2 ∧ d ≠ a ∧ d ≠ b := by simpa using dn
    obtain ⟨dz, dTI, dTO, d1, d2, da, db⟩ := dz
    have D1 := draws_seq k (prog := prog) (w := w) (A := A'.in1) hd i1 a D.ai1 xs
    have D2 := draws_seq k' (prog := prog) (w := w) (A := A'.in1) hd i2 b D.bi2 ys
    refine wpAny_pyIter_zip ez (fin z [z, TO, i1, i2] (fun j h => IsTupOf2 h TI (.ref i1) (.ref i2) ∧ (ItIs k h i1 a j ∧ SeqIs k h a xs) ∧ (ItIs k' h i2 b j ∧ SeqIs k' h b ys) ∧
      ((IsZip h z TI TO .none ∧ ∃ u v, IsTupOf2 h TO u v) ∨ ∃ T f oT, IsZipHeld h z TI TO T f ∧ h.get? T = some oT ∧ T ≠ z ∧ T ≠ i1 ∧ T ≠ i2 ∧ T ≠ d)) s'.heap s'.toks ?_
      ⟨eTI, ⟨a1, a2⟩, ⟨b1, b2⟩, .inl ⟨ez, u, v, eTO⟩⟩ (fun _ _ e => e) fun c hc => .inl hc)
    refine ⟨?_, ?_, ?_, ?_⟩
    · intro hm
      have hc' : d = z ∨ d = TO ∨ d = i1 ∨ d = i2 := by simpa using hm
      rcases hc' with q | q | q | q
      · exact dz q
      · exact dTO q
      · exact d1 q
      · exact d2 q
    · intro j h1 h2 st hk
      obtain ⟨eTI, ⟨a1, a2⟩, ⟨b1, b2⟩, hz⟩ := st
      refine ⟨hk TI _ dTI.symm eTI, ⟨itIs_at a1 fun o e => hk i1 o d1.symm e, seqIs_at a2 fun o e => hk a o da.symm e⟩, ⟨itIs_at b1 fun o e => hk i2 o d2.symm e, seqIs_at b2 fun o e => hk b o db.symm e⟩, ?_⟩
      rcases hz with ⟨ez, u, v, eTO⟩ | ⟨T, f, oT, ez, eT, n0, n1, n2, n3⟩
      · exact .inl ⟨hk z _ dz.symm ez, u, v, hk TO _ dTO.symm eTO⟩
      · exact .inr ⟨T, f, oT, hk z _ dz.symm ez, hk T _ n3 eT, n0, n1, n2, n3⟩
    · intro j s1 Q1 E1 hj st dl1 fin1
      obtain ⟨eTI, qa, qb, hz⟩ := st
      have j1 : j < xs.size := by omega
      have j2 : j < ys.size := by omega
      have nn : ∀ {c o}, s1.heap.get? c = some o → s1.heap.objs.size ≠ c := fun e => Nat.ne_of_gt (Heap.lt_size e)
      have ni1 : s1.heap.objs.size ≠ i1 := by obtain ⟨o, e, _⟩ := itIs_obj qa.1; exact nn e
      have ni2 : s1.heap.objs.size ≠ i2 := by obtain ⟨o, e, _⟩ := itIs_obj qb.1; exact nn e
      have out4 : ∀ {c : Addr}, c ∉ [z, TO, i1, i2] → c ≠ z ∧ c ≠ TO ∧ c ≠ i1 ∧ c ≠ i2 := fun hc => by simpa using hc
      rcases hz with ⟨ez, u, v, eTO⟩ | ⟨T, f, oT, ez, eT, n0, n1, n2, n3⟩
      · refine wpAny_pyNext_zipD2_item D.sep D1 D2 ez eTI eTO qa qb j1 j2 fun x1 x2 h' tk p1 p2 c1 c2 c3 c4 c5 c6 c7 => ?_
        refine fin1 s1.heap.objs.size x1 x2 h' tk ⟨p1, p2⟩ (.inl ⟨_, c5, rfl, _, rfl⟩) ⟨c7 TI _ D.TIz D.TITO D.TIi1 D.TIi2 eTI, c3, c4, .inr ⟨_, false, _, c1, c5, nn ez, ni1, ni2, Nat.ne_of_gt dl1⟩⟩ fun c o hc e => ?_
        obtain ⟨m0, m1, m2, m3⟩ := out4 hc
        exact c7 c o m0 m1 m2 m3 e
      · refine zhn_item D.sep D1 D2 ez eT eTI qa qb j1 j2 fun x1 x2 h' tk p1 p2 c1 c3 c4 c5 c7 => ?_
        refine fin1 s1.heap.objs.size x1 x2 h' tk ⟨p1, p2⟩ (.inl ⟨_, c5, rfl, _, rfl⟩) ⟨c7 TI _ D.TIz D.TIi1 D.TIi2 eTI, c3, c4, .inr ⟨T, true, oT, c1, c7 T _ n0 n1 n2 eT, n0, n1, n2, n3⟩⟩ fun c o hc e => ?_
        obtain ⟨m0, m1, m2, m3⟩ := out4 hc
        exact c7 c o m0 m2 m3 e
    · intro s1 Q1 E1 st fin1
      obtain ⟨eTI, qa, qb, hz⟩ := st
      have e1 : min xs.size ys.size ≤ xs.size := Nat.min_le_left _ _
      have e2 : min xs.size ys.size ≤ ys.size := Nat.min_le_right _ _
      have e3 : min xs.size ys.size = xs.size ∨ min xs.size ys.size = ys.size := by omega
      have out4 : ∀ {c : Addr}, c ∉ [z, TO, i1, i2] → c ≠ z ∧ c ≠ TO ∧ c ≠ i1 ∧ c ≠ i2 := fun hc => by simpa using hc
      rcases hz with ⟨ez, u, v, eTO⟩ | ⟨T, f, oT, ez, eT, n0, n1, n2, n3⟩
      · refine wpAny_pyNext_zipD2_end D.sep D1 D2 ez eTI eTO qa qb e1 e2 e3 fun h' tk hk => fin1 h' tk fun c o hc e => ?_
        obtain ⟨m0, m1, m2, m3⟩ := out4 hc
        exact hk c o m0 m1 m2 m3 e
      · refine zhn_end D.sep D1 D2 ez eT eTI qa qb e1 e2 e3 fun h' tk hk => fin1 h' tk fun c o hc e => ?_
        obtain ⟨m0, m1, m2, m3⟩ := out4 hc
        exact hk c o m0 m2 m3 e
/-- pairs of keys: by their values -/
def keysV (xs : List V) : Option (List Key) := match xs with
  | [] => some []
  | .int i :: r => (keysV r).map (.inl i :: ·)
  | .str x :: r => (keysV r).map (.inr x :: ·)
  | _ :: _ => none
def tDzip (K : PySem.W.Frag) (ta : TA) : TE := fun σ H Q => ta σ H fun vs H1 => ∃ k k' a b xs ys ks, vs = [.ref a, .ref b] ∧ SqK k K H1 a xs ∧ SqK k' K H1 b ys ∧ keysV xs = some ks ∧
  ∀ p, H1 p = none → Q (.ref p) (upd H1 p (.dK (mergeK [] (ks.zip ys))))
theorem keysV_get : ∀ {xs : List V} {ks : List Key} {us : List Value}, keysV xs = some ks → Vals xs us → xs.length = ks.length ∧ ∀ (i : Nat) (u : Value), us[i]? = some u → ∃ k, ks[i]? = some k ∧ keyIs k u = true
  | [], ks, us, h, r => by
    cases h; cases r
    exact ⟨rfl, fun i u e => by simp at e⟩
  | .int j :: xs, ks, us, h, r => by
    obtain ⟨ks', h', rfl⟩ := Option.map_eq_some_iff.mp h
    cases r with
    | cons r rr =>
      obtain ⟨t, rfl⟩ := r
      obtain ⟨l, g⟩ := keysV_get h' rr
      refine ⟨by simp [l], fun i u e => ?_⟩
      cases i with
      | zero => simp at e; subst e; exact ⟨_, rfl, by simp [keyIs, Value.isInt, Value.isStrOf]⟩
      | succ i => exact g i u (by simpa using e)
  | .str x :: xs, ks, us, h, r => by
    obtain ⟨ks', h', rfl⟩ := Option.map_eq_some_iff.mp h
    cases r with
    | cons r rr =>
      obtain ⟨t, rfl⟩ := r
      obtain ⟨l, g⟩ := keysV_get h' rr
      refine ⟨by simp [l], fun i u e => ?_⟩
      cases i with
      | zero => simp at e; subst e; exact ⟨_, rfl, by simp [keyIs, Value.isInt, Value.isStrOf]⟩
      | succ i => exact g i u (by simpa using e)
  | .non :: _, _, _, h, _ => by cases h
  | .byt _ :: _, _, _, h, _ => by cases h
  | .flt _ :: _, _, _, h, _ => by cases h
  | .bl _ :: _, _, _, h, _ => by cases h
  | .ref _ :: _, _, _, h, _ => by cases h
  | .ty _ :: _, _, _, h, _ => by cases h

theorem paired_get {α β : Type} {F : α → β → Prop} : ∀ {xs : List α} {ys : List β}, xs.length = ys.length → (∀ (i : Nat) x y, xs[i]? = some x → ys[i]? = some y → F x y) → Paired F xs ys
  | [], [], _, _ => .nil
  | x :: xs, y :: ys, hl, h => .cons (h 0 x y rfl rfl) (paired_get (by simpa using hl) fun i a b e1 e2 => h (i + 1) a b (by simpa using e1) (by simpa using e2))
  | [], _ :: _, hl, _ => by cases hl
  | _ :: _, [], hl, _ => by cases hl
theorem boot_dict : bootBuiltins "dict" = some (.type "dict") := by decide +kernel
theorem pe_dzip {X : Cx} {e e2 : Expr} {ta : TA} {p p2 pos pos2 : Pos} (hg : Gl X "dict") (hm : X.mg "dict" = none) (hg2 : Gl X "zip") (hm2 : X.mg "zip" = none) (hc : X.calm = true) (ha : PA X [e, e2] ta)
    (hs : starEach [e, e2] X.env = (false, eval e X.env) :: starEach [e2] X.env) (hpl : (backTo pos2 (starEach [e2] X.env)).any (·.1) = false) :
    L2.PE X (.Call (.Name "dict" p) [.Call (.Name "zip" p2) [e, e2] [] pos2] [] pos) (tDzip X.K ta) := by
  refine ⟨fun pins s σ H Q I h => ?_⟩
  refine Call_ (ld_blt I hg hm boot_dict (PyProof.Rows.callWith_type1 (Calls.spliced_cons ?_) rfl rfl))
  refine Call_ (ld_blt I hg2 hm2 PyProof.Rows.boot_zip (PyProof.Rows.callWith_type1 (thn (ha.run pos2 pins s σ H _ I h) fun us s1 ⟨vs, H1, I1, r1, q1⟩ => ?_) hs hpl))
  obtain ⟨k, k', a, b, xs, ys, ks, ex, hqx, hqy, hk, q⟩ := q1
  subst ex
  cases r1 with
  | cons r rr =>
    cases rr with
    | cons r' rr =>
      cases rr
      cases r
      cases r'
      obtain ⟨its, rv, p1, _, hal⟩ := inv_seq I1 hqx
      obtain ⟨its2, rv2, p2', hz2, hbl⟩ := inv_seq I1 hqy
      refine zip_begins2 (begins_seq k a its.toArray) (begins_seq k' b its2.toArray) p1 p2' fun h' hz hTI hTO h1 h2 hsz hkeep => ?_
      have I2 : Inv X pins σ H1 { s1 with heap := h' } := I1.kept (t' := s1.toks) hkeep
      have D : ZApart (s1.heap.objs.size + 4) (s1.heap.objs.size + 2) (s1.heap.objs.size + 3) s1.heap.objs.size (s1.heap.objs.size + 1) a b := zapart_new _ _ _ hal hbl
      obtain ⟨kl, kg⟩ := keysV_get hk rv
      have len1 := rv.length
      have len2 := rv2.length
      refine wpAny_pure ?_
      refine call_dict_pairs (s := { s1 with heap := h' }) (knd := mixKind X.prog X.w) (kvs := ks.zip its2) (parg_zip k k' D its.toArray its2.toArray) (I.ok.hd hc)
        ⟨hz, hTI, ⟨_, _, hTO⟩, ⟨itIs_new k _ _ _ h1, seqIs_at p1 (hkeep a)⟩, itIs_new k' _ _ _ h2, seqIs_at p2' (hkeep b)⟩ ⟨?_, ?_⟩ ?_ ?_
      · simp only [List.length_zip, List.size_toArray]; omega
      · rintro i x y ⟨e1, e2⟩
        obtain ⟨kk, g1, g2⟩ := kg i x (by simpa using e1)
        refine ⟨kk, ?_, g2⟩
        rw [List.getElem?_zip_eq_some]
        exact ⟨g1, by simpa using e2⟩
      · simp only [List.size_toArray]; omega
      · intro h2' tk dd hk2
        have fpk : ∀ c ∈ [s1.heap.objs.size + 4, s1.heap.objs.size + 3, s1.heap.objs.size, s1.heap.objs.size + 1], FpOk X pins H1 c := fun c hcm => by
          have e' : c = s1.heap.objs.size + 4 ∨ c = s1.heap.objs.size + 3 ∨ c = s1.heap.objs.size ∨ c = s1.heap.objs.size + 1 := by simpa using hcm
          have hle : s1.heap.objs.size ≤ c := by
            rcases e' with z | z | z | z
            · rw [z]; exact Nat.le_add_right _ _
            · rw [z]; exact Nat.le_add_right _ _
            · rw [z]; exact Nat.le_refl _
            · rw [z]; exact Nat.le_add_right _ _
          exact I1.fpOk hle (I1.hok.fresh hle)
        have rk : KV (ks.zip ys) (ks.zip its2) := paired_get (by simp only [List.length_zip]; omega) fun i x y e1 e2 => by
          rw [List.getElem?_zip_eq_some] at e1 e2
          obtain ⟨u, hu, ru⟩ := rv2.get e1.2
          rw [hu] at e2
          rw [e1.1] at e2
          exact ⟨Option.some.inj e2.1, by rw [← Option.some.inj e2.2]; exact ru⟩
        have zz : (mergeK [] (ks.zip ys)).length ≤ sizeLine := by
          have h1 := length_mergeK (ks.zip ys) []
          have h2 := List.length_zip (l₁ := ks) (l₂ := ys)
          rw [List.length_nil] at h1
          omega
        have hd : (h'.objs.size == sysModules) = false := beq_eq_false_iff_ne.mpr (Ne.symm (Nat.ne_of_lt I2.big))
        have I3 : Inv X pins σ (upd H1 h'.objs.size (.dK (mergeK [] (ks.zip ys)))) { s1 with heap := h2', toks := tk } := I2.turnedNew hk2 fpk (Nat.le_refl _) (dk_new zz hd (rk.merge .nil) dd)
        exact ⟨.ref h'.objs.size, _, I3, rfl, q _ (I2.hok.fresh (Nat.le_refl _))⟩
end PL

set_option Elab.async false
set_option linter.all false
set_option maxRecDepth 100000
set_option maxHeartbeats 2000000
/-! PLJ: targets, what is walked, list comprehensions. -/
namespace PL
open PySem PySem.Spec PyProof.Rows L2

section
variable {F : Nat → List D → Sto → Res D} {G : Nat → Option D} {X : Cx}
/-! ### targets -/
theorem wipe_set {σ : L2.St} {i : Nat} {x : Option V} : ∀ {vs : List Nat}, vs.contains i = true → wipe (σ.set i x) vs = wipe σ vs
  | [], h => by cases h
  | v :: vs, h => by
    unfold L2.wipe
    by_cases hv : v = i
    · subst hv
      have aux : ∀ us : List Nat, (wipe (σ.set v x) us).set v none = (wipe σ us).set v none := by
        intro us
        induction us with
        | nil => unfold L2.wipe; rw [List.set_set]
        | cons u us ih =>
          unfold L2.wipe
          by_cases hu : u = v
          · subst hu; rw [List.set_set, List.set_set]; exact ih
          · rw [List.set_comm _ _ hu, List.set_comm _ _ hu, ih]
      exact aux vs
    · have h' : vs.contains i = true := by
        rw [List.contains_cons] at h
        simpa [show (i == v) = false from by simpa using fun z => hv z.symm] using h
      rw [wipe_set h']
theorem s_name {i : Nat} {x : Str} {p : Pos} (hN : X.N.Nodup) (hi : X.N[i]? = some x) (hx : Loc X.env.scope x) (hf : X.fn x = true ∨ X.env.scope.names.lookup x = some .local) :
    PG X (.Name x p) (tG X.K (tgOwn (.name i)) fun d env st => .ok (env.set i (some d)) st) :=
  pg_imp (pg_name hN hi hx hf) fun v σ H Q ⟨as, st, env, d, rel, re, rv, g⟩ => g.here rel _ (re.set rv i) fun vs h => wipe_set h
/-- each of the targets -/
def PGAll (F : Nat → List D → Sto → Res D) (G : Nat → Option D) (X : Cx) : Tgs → List Expr → Prop
  | .nil, [] => True
  | .cons t ts, x :: l => noStar x = true ∧ PG X x (tG X.K (tgOwn t) (asg F G t)) ∧ PGAll F G X ts l
  | _, _ => False
theorem PGAll.len : ∀ {ts : Tgs} {l : List Expr}, PGAll F G X ts l → l.length = ts.len
  | .nil, [], _ => rfl
  | .cons e es, x :: l, h => by rw [List.length_cons, PGAll.len h.2.2]; rfl
  | .nil, _ :: _, h => h.elim
  | .cons _ _, [], h => h.elim
theorem assign_cons {e : Expr} (h : noStar e = true) (es : List Expr) (env : PySem.Env) : assignEach (e :: es) env = (false, assign e env) :: assignEach es env := by
  cases e <;> first | rfl | cases h
theorem PGAll.each : ∀ {ts : Tgs} {l : List Expr}, PGAll F G X ts l → (assignEach l X.env).length = l.length ∧ (assignEach l X.env).findIdx? (·.1) = none
  | .nil, [], _ => ⟨rfl, rfl⟩
  | .cons e es, x :: l, h => by
    obtain ⟨h1, h2⟩ := PGAll.each h.2.2
    rw [assign_cons h.1, List.length_cons, List.length_cons, h1]
    exact ⟨rfl, by rw [List.findIdx?_cons]; simp [h2]⟩
  | .nil, _ :: _, h => h.elim
  | .cons _ _, [], h => h.elim
theorem asgs_nilE (env : Env) (st : Sto) : asgs F G .nil [] env st = .ok env st := by rw [asgs]
theorem asgs_consE (t : Tg) (ts : Tgs) (d : D) (ds : List D) (env : Env) (st : Sto) : asgs F G (.cons t ts) (d :: ds) env st = (asg F G t d env st).bind fun env1 st1 => asgs F G ts ds env1 st1 := by rw [asgs]
theorem asgs_bad1 (t : Tg) (ts : Tgs) (env : Env) (st : Sto) : asgs F G (.cons t ts) [] env st = .bad := by rw [asgs] <;> simp
theorem asgs_bad2 (d : D) (ds : List D) (env : Env) (st : Sto) : asgs F G .nil (d :: ds) env st = .bad := by rw [asgs] <;> simp
theorem asgs_len {K : PySem.W.Frag} : ∀ {ts : Tgs} {ds : List D} {env : Env} {st : Sto} {P : Env → List Addr → Hp → Prop} {as : List Addr} {H : Hp}, Good K P as H (asgs F G ts ds env st) → ds.length = ts.len
  | .nil, [], _, _, _, _, _, _ => rfl
  | .nil, _ :: _, _, _, _, _, _, g => by rw [asgs_bad2] at g; exact g.elim
  | .cons _ _, [], _, _, _, _, _, g => by rw [asgs_bad1] at g; exact g.elim
  | .cons t ts, d :: ds, env, st, P, as, H, g => by
    rw [asgs_consE] at g
    cases e : asg F G t d env st with
    | ok env1 st1 => rw [e] at g; rw [List.length_cons, asgs_len (K := K) (P := P) (as := as) (H := H) g]; rfl
    | exc _ _ _ => rw [e] at g; exact g.elim
    | bad => rw [e] at g; exact g.elim
theorem PGAll.pgs : ∀ {ts : Tgs} {l : List Expr}, PGAll F G X ts l → PGs X l (tGs X.K (tgOwn.tgsOwn ts) (asgs F G ts))
  | .nil, [], _ => pgs_imp pgs_nil fun vs σ H Q ⟨as, st, env, ds, rel, re, rv, g⟩ => by
    have hl := asgs_len g
    cases ds with
    | cons _ _ => cases hl
    | nil =>
      have rv : vs = [] := rv
      rw [asgs_nilE] at g
      exact ⟨rv, g.here rel _ re fun _ _ => rfl⟩
  | .cons t ts, x :: l, h => pgs_imp (pgs_cons h.2.1 (PGAll.pgs h.2.2) (by rw [assign_cons h.1]; rfl)) fun vs σ H Q ⟨as, st, env, ds, rel, re, rv, g⟩ => by
    have hl := asgs_len g
    cases ds with
    | nil => cases hl
    | cons d ds =>
      obtain ⟨v, r, rfl, r1, r2⟩ := rv
      rw [asgs_consE] at g
      refine ⟨v, r, rfl, as, st, env, d, rel, re, r1, g.bind.imp fun env1 as1 H1 e1 ⟨st1, _, rel1, g1⟩ σ1 re1 hw => ?_⟩
      refine ⟨as1, st1, env1, ds, rel1, re1, RVs.mono e1 _ _ r2, g1.imp fun env2 as2 H2 e2 q σ2 re2 hw2 => q σ2 re2 fun own ho => ?_⟩
      have ho : (tgOwn t own && tgOwn.tgsOwn ts own) = true := ho
      rw [Bool.and_eq_true] at ho
      rw [hw2 own ho.2, hw own ho.1]
  | .nil, _ :: _, h => h.elim
  | .cons _ _, [], h => h.elim
theorem s_tgtup (fx : Fit X) {ts : Tgs} {l : List Expr} {k : Nat} {p : Pos} (h : PGAll F G X ts l) : PG X (.Tuple l k p) (tG X.K (tgOwn (.tup ts)) fun d env st => match partsOf d st with
    | some ds => asgs F G ts ds env st
    | none => .bad) := by
  obtain ⟨h1, h2⟩ := h.each
  refine pg_imp (pg_or (pg_tup fx.hc h.pgs h1 h2) (pg_unl fx.hc h.pgs h1 h2)) fun v σ H Q ⟨as, st, env, d, rel, re, rv, g⟩ => ?_
  simp only [] at g
  split at g
  · rename_i ds e
    unfold partsOf at e
    split at e
    · cases e
      obtain ⟨a, vs, rfl, q1, q2⟩ := rv
      exact .inl ⟨a, vs, rfl, q1, by rw [← q2.length, asgs_len g, h.len], as, st, env, _, rel, re, q2, g⟩
    · cases e
      obtain ⟨a, vs, rfl, q1, q2⟩ := rv
      exact .inr ⟨a, vs, rfl, q1.l, by rw [← q2.length, asgs_len g, h.len], as, st, env, _, rel, re, q2, g⟩
    · split at e
      · rename_i e'
        cases e
        obtain ⟨a, rfl, _, hro⟩ := rel.of_ref e' rv
        obtain ⟨vs, q1, q2⟩ := ro_seq hro rfl
        exact .inr ⟨a, vs, rfl, q1, by rw [← q2.length, asgs_len g, h.len], as, st, env, _, rel, re, q2, g⟩
      · cases e
    · cases e
  · exact g.elim
theorem s_tgsub (fx : Fit X) {ea eb : E} {a b : Expr} {p : Pos} (ha : L2.PE X a (tE X.K (ev F G ea))) (hb : L2.PE X b (tE X.K (ev F G eb))) (hs : noSlice b = true) : PG X (.Subscript a b p) (tG X.K (tgOwn (.sub ea eb)) fun d env st => (ev F G ea env st).bind fun x st1 => (ev F G eb env st1).bind fun y st2 =>
    match setD x y d st2 with
    | some st3 => .ok env st3
    | none => .bad) :=
  pg_imp (pg_sub ha hb (set_all (by have := fx.hu; omega)) (by intro v; cases b <;> first | rfl | cases hs)) fun v σ H Q ⟨as, st, env, d, rel, re, rv, g⟩ =>
    tE_mono (one_of rel re g) fun o H1 ⟨as1, st1, x, e1, r1, re1, ro, g1⟩ => tE_mono (one_of r1 re1 g1) fun i H2 ⟨as2, st2, y, e2, r2, re2, ri, g2⟩ => by
      split at g2
      · rename_i st3 e
        exact ⟨as2, st2, x, y, d, st3, r2, RV.mono e2 _ _ ro, ri, RV.mono e2 _ _ (RV.mono e1 _ _ rv), e, fun H' e' r' => g2 _ _ e' r' _ (re2.mono e') fun _ _ => rfl⟩
      · exact g2.elim

/-! ### what is walked -/
structure SrcR (K : PySem.W.Frag) (as : List Addr) (H : Hp) (s : Src) (J : It) : Prop where
  stop : ∀ as' H' st' i, Ext K as H as' H' → Rel K as' st' H' → s.at st' i = some none → J.stop i H'
  go : ∀ as' H' st' i d, Ext K as H as' H' → Rel K as' st' H' → s.at st' i = some (some d) → J.go i H' ∧ ∀ x H'', J.yld i H' x H'' → Ext K as' H' as' H'' ∧ Rel K as' st' H'' ∧ RV K as' H'' d x
def tI (K : PySem.W.Frag) (k : ItK) (m : Env → Sto → Res (List D)) : TI := fun σ H R => ∃ as st env, Rel K as st H ∧ REnv K as H env σ ∧ Good K (fun s as1 H1 => ∀ J, SrcR K as1 H1 s J → R J H1) as H ((m env st).bind fun ds st1 => liftO (srcD k ds st1) st1)
section
variable {K : PySem.W.Frag} {as : List Addr} {H : Hp} {st : Sto}
theorem fix_get {ds : List D} {st' : Sto} {i : Nat} {o : Option D} (h : (Src.fix ds).at st' i = some o) : i ≤ ds.length ∧ ds[i]? = o := by
  unfold Src.at at h
  split at h
  · rename_i hi; exact ⟨hi, by simpa using h⟩
  · cases h
/-- the items of a source that is a list or a tuple of the heap -/
structure SeqR (K : PySem.W.Frag) (as : List Addr) (H : Hp) (s : Src) (k : Sk) (a : Addr) : Prop where
  get : ∀ as' H' st' i o, Ext K as H as' H' → Rel K as' st' H' → s.at st' i = some o → ∃ ds vs, SqK k K H' a vs ∧ RVs K as' H' ds vs ∧ i ≤ ds.length ∧ ds[i]? = o
theorem seqK_of {d : D} {v : V} {s : Src} (rel : Rel K as st H) (rv : RV K as H d v) (h : seqD d st = some s) : ∃ k a xs, v = .ref a ∧ SqK k K H a xs ∧ SeqR K as H s k a := by
  unfold seqD at h
  split at h
  · cases h
    obtain ⟨a, vs, rfl, h1, h2⟩ := rv
    exact ⟨.T, a, vs, rfl, h1, ⟨fun as' H' st' i o e r q => ⟨_, vs, e.tup _ _ h1, RVs.mono e _ _ h2, fix_get q⟩⟩⟩
  · cases h
    obtain ⟨a, vs, rfl, h1, h2⟩ := rv
    exact ⟨.L, a, vs, rfl, h1.l, ⟨fun as' H' st' i o e r q => ⟨_, vs, (h1.mono e.wk).l, RVs.mono e _ _ h2, fix_get q⟩⟩⟩
  · cases h
    obtain ⟨a, vs, rfl, h1, h2⟩ := rv_ent rv
    exact ⟨.T, a, vs, rfl, h1, ⟨fun as' H' st' i o e r q => ⟨_, vs, e.tup _ _ h1, RVs.mono e _ _ h2, fix_get q⟩⟩⟩
  · split at h
    · rename_i xs e0
      cases h
      obtain ⟨a, rfl, ha, hro⟩ := rel.of_ref e0 rv
      obtain ⟨vs, h1, h2⟩ := ro_seq hro rfl
      refine ⟨.L, a, vs, rfl, h1, ⟨fun as' H' st' i o e r q => ?_⟩⟩
      unfold Src.at at q
      split at q
      · rename_i ys e1
        split at q
        · rename_i hi
          obtain ⟨ws, h3, h4⟩ := ro_seq (r.at_ _ _ a e1 (e.at_ ha)) rfl
          exact ⟨ys, ws, h3, h4, hi, by simpa using q⟩
        · cases q
      · cases q
    · cases h
  · cases h
theorem sqk_get {k : Sk} {H' : Hp} {a : Addr} {ds : List D} {vs : List V} {as' : List Addr} {i : Nat} {d : D} (hs : SqK k K H' a vs) (r : RVs K as' H' ds vs) (e : ds[i]? = some d) : ∃ x, vs[i]? = some x ∧ RV K as' H' d x := r.get e
def ItP (k : Sk) (K : PySem.W.Frag) (a : Addr) : It := match k with | .L => Itl K a | .T => Itt K a
theorem srcR_plain {k : Sk} {a : Addr} {s : Src} (q : SeqR K as H s k a) : SrcR K as H s (ItP k K a) := by
  refine ⟨fun as' H' st' i e r h => ?_, fun as' H' st' i d e r h => ?_⟩
  · obtain ⟨ds, vs, h1, h2, h3, h4⟩ := q.get as' H' st' i _ e r h
    have : vs.length ≤ i := by rw [← h2.length]; exact List.getElem?_eq_none_iff.mp h4
    cases k <;> exact ⟨vs, h1, this⟩
  · obtain ⟨ds, vs, h1, h2, h3, h4⟩ := q.get as' H' st' i _ e r h
    obtain ⟨x, h5, h6⟩ := h2.get h4
    cases k
    · refine ⟨⟨vs, x, h1, h5⟩, fun y H'' hy => ?_⟩
      obtain ⟨rfl, hy⟩ := hy
      have := hy vs h1
      rw [h5] at this; cases this
      exact ⟨Ext.refl, r, h6⟩
    · refine ⟨⟨vs, x, h1, h5⟩, fun y H'' hy => ?_⟩
      obtain ⟨rfl, hy⟩ := hy
      have := hy vs h1
      rw [h5] at this; cases this
      exact ⟨Ext.refl, r, h6⟩
theorem at_enum {s : Src} {st' : Sto} {i : Nat} {o : Option D} (h : (Src.enum s).at st' i = some o) : (o = none ∧ s.at st' i = some none) ∨ ∃ x, o = some (.tup [.int (i : Int), x]) ∧ s.at st' i = some (some x) := by
  unfold Src.at at h
  split at h
  · rename_i x e; cases h; exact .inr ⟨x, rfl, e⟩
  · rename_i e; cases h; exact .inl ⟨rfl, e⟩
  · cases h
theorem srcR_enum {k : Sk} {a : Addr} {s : Src} (q : SeqR K as H s k a) : SrcR K as H (.enum s) (IteK k K a) := by
  refine ⟨fun as' H' st' i e r h => ?_, fun as' H' st' i d e r h => ?_⟩
  · rcases at_enum h with ⟨_, hh⟩ | ⟨x, z, _⟩
    · obtain ⟨ds, vs, h1, h2, h3, h4⟩ := q.get as' H' st' i _ e r hh
      have : ds.length ≤ i := List.getElem?_eq_none_iff.mp h4
      exact ⟨vs, h1, by rw [← h2.length]; omega⟩
    · cases z
  · rcases at_enum h with ⟨z, _⟩ | ⟨x, z, hh⟩
    · cases z
    · cases z
      obtain ⟨ds, vs, h1, h2, h3, h4⟩ := q.get as' H' st' i _ e r hh
      obtain ⟨w, h5, h6⟩ := h2.get h4
      refine ⟨⟨vs, w, h1, h5⟩, fun y H'' hy => ?_⟩
      obtain ⟨T, z, rfl, hT, rfl, hy⟩ := hy
      have := hy vs h1
      rw [h5] at this; cases this
      have e2 : Ext K as' H' as' (upd H' T (.tup [.int (i : Nat), w])) := Ext.laid hT
      exact ⟨e2, r.laid hT, T, _, rfl, SqT.of upd_same, .int (i : Nat), _, rfl, rfl, RVs.one (RV.mono e2 _ _ h6)⟩
theorem at_zip {s t : Src} {st' : Sto} {i : Nat} {o : Option D} (h : (Src.zip s t).at st' i = some o) : (o = none ∧ ∃ a b, s.at st' i = some a ∧ t.at st' i = some b ∧ (a = none ∨ b = none)) ∨ ∃ x y, o = some (.tup [x, y]) ∧ s.at st' i = some (some x) ∧ t.at st' i = some (some y) := by
  unfold Src.at at h
  split at h
  · rename_i x y e1 e2; cases h; exact .inr ⟨x, y, rfl, e1, e2⟩
  · rename_i a b hno e1 e2
    cases h
    refine .inl ⟨rfl, a, b, e1, e2, ?_⟩
    cases a with
    | none => exact .inl rfl
    | some a => cases b with
      | none => exact .inr rfl
      | some b => exact (hno a b rfl rfl).elim
  · cases h
theorem srcR_zip {k k' : Sk} {a b : Addr} {s t : Src} (q : SeqR K as H s k a) (q' : SeqR K as H t k' b) : SrcR K as H (.zip s t) (ItzK k k' K a b) := by
  refine ⟨fun as' H' st' i e r h => ?_, fun as' H' st' i d e r h => ?_⟩
  · rcases at_zip h with ⟨_, u, w, hh, hh', hor⟩ | ⟨x, y, z, _⟩
    · obtain ⟨ds, vs, h1, h2, h3, h4⟩ := q.get as' H' st' i _ e r hh
      obtain ⟨ds', vs', h1', h2', h3', h4'⟩ := q'.get as' H' st' i _ e r hh'
      refine ⟨vs, vs', h1, h1', ?_⟩
      rw [← h2.length, ← h2'.length]
      rcases hor with rfl | rfl
      · have : ds.length ≤ i := List.getElem?_eq_none_iff.mp h4
        omega
      · have : ds'.length ≤ i := List.getElem?_eq_none_iff.mp h4'
        omega
    · cases z
  · rcases at_zip h with ⟨z, _⟩ | ⟨x, y, z, hh, hh'⟩
    · cases z
    · cases z
      obtain ⟨ds, vs, h1, h2, h3, h4⟩ := q.get as' H' st' i _ e r hh
      obtain ⟨ds', vs', h1', h2', h3', h4'⟩ := q'.get as' H' st' i _ e r hh'
      obtain ⟨w, h5, h6⟩ := h2.get h4
      obtain ⟨w', h5', h6'⟩ := h2'.get h4'
      refine ⟨⟨vs, vs', w, w', h1, h1', h5, h5'⟩, fun z H'' hy => ?_⟩
      obtain ⟨T, u, u', rfl, hT, rfl, hy, hy'⟩ := hy
      have := hy vs h1
      rw [h5] at this; cases this
      have := hy' vs' h1'
      rw [h5'] at this; cases this
      have e2 : Ext K as' H' as' (upd H' T (.tup [w, w'])) := Ext.laid hT
      exact ⟨e2, r.laid hT, T, _, rfl, SqT.of upd_same, RVs.two (RV.mono e2 _ _ h6) (RV.mono e2 _ _ h6')⟩
theorem range_get {lo c : Int} {n i : Nat} {o : Option D} (h : (rangeD lo c n)[i]? = o) : (n ≤ i ∧ o = none) ∨ (i < n ∧ o = some (.int (lo + (i : Int) * c))) := by
  unfold rangeD at h
  rw [List.getElem?_map] at h
  by_cases hi : i < n
  · rw [List.getElem?_range hi] at h; exact .inr ⟨hi, h.symm⟩
  · rw [List.getElem?_eq_none (by simpa using hi)] at h; exact .inl ⟨by omega, h.symm⟩
theorem srcR_range {lo : Int} {n : Nat} : SrcR K as H (.fix (rangeD lo 1 n)) (Itr lo n) := by
  refine ⟨fun as' H' st' i e r h => ?_, fun as' H' st' i d e r h => ?_⟩
  · rcases range_get (fix_get h).2 with ⟨h, _⟩ | ⟨_, z⟩
    · exact h
    · cases z
  · rcases range_get (fix_get h).2 with ⟨_, z⟩ | ⟨hh, z⟩
    · cases z
    · cases z
      refine ⟨hh, fun y H'' hy => ?_⟩
      obtain ⟨rfl, rfl⟩ := hy
      exact ⟨Ext.refl, r, by show V.int _ = V.int _; rw [Int.mul_one]⟩
theorem srcR_rangeC {lo c : Int} {n : Nat} : SrcR K as H (.fix (rangeD lo c n)) (Itc lo c n) := by
  refine ⟨fun as' H' st' i e r h => ?_, fun as' H' st' i d e r h => ?_⟩
  · rcases range_get (fix_get h).2 with ⟨h, _⟩ | ⟨_, z⟩
    · exact h
    · cases z
  · rcases range_get (fix_get h).2 with ⟨_, z⟩ | ⟨hh, z⟩
    · cases z
    · cases z
      refine ⟨hh, fun y H'' hy => ?_⟩
      obtain ⟨rfl, rfl⟩ := hy
      exact ⟨Ext.refl, r, rfl⟩
theorem srcR_str {x : Str} : SrcR K as H (.fix (signsD x)) (Its x) := by
  refine ⟨fun as' H' st' i e r h => ?_, fun as' H' st' i d e r h => ?_⟩
  · have := (fix_get h).2
    unfold signsD at this
    have h2 := List.getElem?_eq_none_iff.mp this
    rw [List.length_map, Array.length_toList] at h2
    exact h2
  · have := (fix_get h).2
    unfold signsD at this
    rw [List.getElem?_map] at this
    obtain ⟨c, h1, rfl⟩ := Option.map_eq_some_iff.mp this
    rw [Array.getElem?_toList] at h1
    refine ⟨(Array.getElem?_eq_some_iff.mp h1).1, fun y H'' hy => ?_⟩
    obtain ⟨rfl, c', h2, rfl⟩ := hy
    rw [h1] at h2; cases h2
    exact ⟨Ext.refl, r, rfl⟩
end
theorem big_of {i : Int} (h : big62 i = true) : -(2 ^ 62) ≤ i ∧ i < 2 ^ 62 := by
  unfold big62 at h
  simpa only [Bool.and_eq_true, decide_eq_true_eq] using h
/-- an iterable as it is -/
theorem i_plain {e : E} {tg it : Expr} (h : L2.PE X it (tE X.K (ev F G e))) : PI X tg it (tI X.K .plain (evs F G (.cons e .nil))) :=
  pi_imp (pi_plain h) fun σ H R ⟨as, st, env, rel, re, g⟩ => by
    simp only [evs_consE, evs_nilE, Res.bind_assoc, Res.bind_ok] at g
    refine tE_mono (one_of rel re g) fun v H1 ⟨as1, st1, d, _, r1, _, rv, g1⟩ => ?_
    obtain ⟨s, e1, g2⟩ := g1.lift
    have q := g2.here r1
    unfold srcD at e1
    split at e1
    · rename_i x hx
      cases hx
      cases e1
      have rv : v = _ := rv
      exact .inr ⟨_, rv, q _ srcR_str⟩
    · rename_i d' _ hx
      cases hx
      obtain ⟨k, a, xs, rfl, h1, h2⟩ := seqK_of r1 rv e1
      exact .inl ⟨k, a, xs, rfl, h1, q (ItP k X.K a) (srcR_plain h2)⟩
    all_goals first | cases e1 | (rename_i hk _ ; cases hk)
theorem i_range1 {es : Es} {tg a : Expr} {p pos : Pos} (hg : Gl X "range") (hm : X.mg "range" = none) (h : PAll F G X es [a]) : PI X tg (.Call (.Name "range" p) [a] [] pos) (tI X.K .range1 (evs F G es)) := by
  have hs := h.stars
  have hl := h.len
  simp only [List.all_cons, Bool.and_eq_true] at hs
  refine pi_imp (pi_range1 hg hm h.pa (star_cons hs.1 _ _)) fun σ H R ⟨as, st, env, rel, re, g⟩ => tA_mono (evs_of rel re g) fun vs H1 ⟨as1, st1, ds, _, r1, _, rvs, hl1, g1⟩ => ?_
  obtain ⟨s, e1, g2⟩ := g1.lift
  have q := g2.here r1
  match ds, hl1.trans hl.symm with
  | [d], _ =>
    obtain ⟨v, rfl, rv⟩ := rvs_one rvs
    cases d <;> simp only [srcD] at e1 <;> try (cases e1; done)
    split at e1
    · rename_i n hb
      cases e1
      have rv : v = _ := rv
      subst rv
      obtain ⟨q1, q2⟩ := big_of hb
      exact ⟨_, rfl, q1, q2, q _ srcR_range⟩
    · cases e1
theorem i_range2 {es : Es} {tg a b : Expr} {p pos : Pos} (hg : Gl X "range") (hm : X.mg "range" = none) (h : PAll F G X es [a, b]) : PI X tg (.Call (.Name "range" p) [a, b] [] pos) (tI X.K .range2 (evs F G es)) := by
  have hs := h.stars
  have hl := h.len
  simp only [List.all_cons, Bool.and_eq_true] at hs
  refine pi_imp (pi_range2 hg hm h.pa (by rw [star_cons hs.1, star_cons hs.2.1]; rfl) (star_cons hs.2.1 _ _)) fun σ H R ⟨as, st, env, rel, re, g⟩ => tA_mono (evs_of rel re g) fun vs H1 ⟨as1, st1, ds, _, r1, _, rvs, hl1, g1⟩ => ?_
  obtain ⟨s, e1, g2⟩ := g1.lift
  have q := g2.here r1
  match ds, hl1.trans hl.symm with
  | [d, d'], _ =>
    obtain ⟨v, u, rfl, rv, ru⟩ := rvs_two rvs
    cases d <;> cases d' <;> simp only [srcD] at e1 <;> try (cases e1; done)
    split at e1
    · rename_i n m hb
      cases e1
      have rv : v = _ := rv
      have ru : u = _ := ru
      subst rv; subst ru
      rw [Bool.and_eq_true] at hb
      obtain ⟨q1, q2⟩ := big_of hb.1
      obtain ⟨q3, q4⟩ := big_of hb.2
      exact ⟨_, _, rfl, ⟨q1, q2, q3, q4⟩, q _ srcR_range⟩
    · cases e1
theorem i_range3 {es : Es} {tg a b c : Expr} {p pos : Pos} (hg : Gl X "range") (hm : X.mg "range" = none) (h : PAll F G X es [a, b, c]) : PI X tg (.Call (.Name "range" p) [a, b, c] [] pos) (tI X.K .range3 (evs F G es)) := by
  have hs := h.stars
  have hl := h.len
  simp only [List.all_cons, Bool.and_eq_true] at hs
  refine pi_imp (pi_range3 hg hm h.pa (star_cons hs.1 _ _) (stars_plain (by simp only [List.all_cons, Bool.and_eq_true]; exact hs.2))) fun σ H R ⟨as, st, env, rel, re, g⟩ => tA_mono (evs_of rel re g) fun vs H1 ⟨as1, st1, ds, _, r1, _, rvs, hl1, g1⟩ => ?_
  obtain ⟨s, e1, g2⟩ := g1.lift
  have q := g2.here r1
  match ds, hl1.trans hl.symm with
  | [d, d', d''], _ =>
    obtain ⟨v, ws, rfl, rv, rw'⟩ := rvs
    obtain ⟨u, w, rfl, ru, rw''⟩ := rvs_two rw'
    cases d <;> cases d' <;> cases d'' <;> simp only [srcD] at e1 <;> try (cases e1; done)
    split at e1
    · rename_i n m c hb
      cases e1
      have rv : v = _ := rv
      have ru : u = _ := ru
      have rw'' : w = _ := rw''
      subst rv; subst ru; subst rw''
      simp only [Bool.and_eq_true, decide_eq_true_eq] at hb
      obtain ⟨q1, q2⟩ := big_of hb.1.1
      obtain ⟨q3, q4⟩ := big_of hb.1.2
      have hc := hb.2
      subst hc
      exact ⟨_, _, _, _, rfl, RgC.neg q1 q2 q3 q4, q _ srcR_rangeC⟩
    · cases e1
theorem i_enum {es : Es} {a : Expr} {p pos tpos : Pos} {l : List Expr} {k : Nat} (hg : Gl X "enumerate") (hm : X.mg "enumerate" = none) (h : PAll F G X es [a]) : PI X (.Tuple l k tpos) (.Call (.Name "enumerate" p) [a] [] pos) (tI X.K .enum (evs F G es)) := by
  have hs := h.stars
  have hl := h.len
  simp only [List.all_cons, Bool.and_eq_true] at hs
  refine pi_imp (pi_enumK hg hm h.pa (star_cons hs.1 _ _)) fun σ H R ⟨as, st, env, rel, re, g⟩ => tA_mono (evs_of rel re g) fun vs H1 ⟨as1, st1, ds, _, r1, _, rvs, hl1, g1⟩ => ?_
  obtain ⟨s, e1, g2⟩ := g1.lift
  have q := g2.here r1
  match ds, hl1.trans hl.symm with
  | [d], _ =>
    obtain ⟨v, rfl, rv⟩ := rvs_one rvs
    simp only [srcD] at e1
    obtain ⟨s', e2, rfl⟩ := Option.map_eq_some_iff.mp e1
    obtain ⟨k, a, xs, rfl, h1, h2⟩ := seqK_of r1 rv e2
    exact ⟨k, a, xs, rfl, h1, q _ (srcR_enum h2)⟩
theorem i_zip {es : Es} {a b : Expr} {p pos tpos : Pos} {l : List Expr} {k : Nat} (hg : Gl X "zip") (hm : X.mg "zip" = none) (h : PAll F G X es [a, b]) : PI X (.Tuple l k tpos) (.Call (.Name "zip" p) [a, b] [] pos) (tI X.K .zip (evs F G es)) := by
  have hs := h.stars
  have hl := h.len
  simp only [List.all_cons, Bool.and_eq_true] at hs
  refine pi_imp (pi_zipK hg hm h.pa (star_cons hs.1 _ _) (stars_plain (by simp only [List.all_cons, Bool.and_eq_true]; exact hs.2))) fun σ H R ⟨as, st, env, rel, re, g⟩ => tA_mono (evs_of rel re g) fun vs H1 ⟨as1, st1, ds, _, r1, _, rvs, hl1, g1⟩ => ?_
  obtain ⟨s, e1, g2⟩ := g1.lift
  have q := g2.here r1
  match ds, hl1.trans hl.symm with
  | [d, d'], _ =>
    obtain ⟨v, u, rfl, rv, ru⟩ := rvs_two rvs
    simp only [srcD] at e1
    split at e1
    · rename_i s1 s2 e2 e3
      cases e1
      obtain ⟨k, a, xs, rfl, h1, h2⟩ := seqK_of r1 rv e2
      obtain ⟨k', b, ys, rfl, h1', h2'⟩ := seqK_of r1 ru e3
      exact ⟨k, k', a, b, xs, ys, rfl, h1, h1', q _ (srcR_zip h2 h2')⟩
    · cases e1
theorem items_of {K : PySem.W.Frag} {as : List Addr} {H : Hp} {st : Sto} {d : D} {v : V} {xs : List D} (rel : Rel K as st H) (rv : RV K as H d v) (h : itemsD d st = some xs) : ∃ k a ws, v = .ref a ∧ SqK k K H a ws ∧ RVs K as H xs ws := by
  unfold itemsD at h
  split at h
  · cases h
    obtain ⟨a, vs, rfl, h1, h2⟩ := rv
    exact ⟨.T, a, vs, rfl, h1, h2⟩
  · cases h
    obtain ⟨a, vs, rfl, h1, h2⟩ := rv
    exact ⟨.L, a, vs, rfl, h1.l, h2⟩
  · split at h
    · rename_i e
      cases h
      obtain ⟨a, rfl, _, hro⟩ := rel.of_ref e rv
      obtain ⟨ws, h1, h2⟩ := ro_seq hro rfl
      exact ⟨.L, a, ws, rfl, h1, h2⟩
    · cases h
  · cases h
theorem keys_of {K : PySem.W.Frag} {as : List Addr} {H : Hp} : ∀ {xs : List D} {ws : List V} {ks : List Key}, RVs K as H xs ws → keysD xs = some ks → keysV ws = some ks
  | [], _, _, r, h => by
    have r : _ = [] := r
    subst r; exact h
  | d :: xs, ws, ks, r, h => by
    obtain ⟨v, vs, rfl, h1, h2⟩ := r
    unfold keysD at h
    split at h
    · rename_i k e
      obtain ⟨ks', e1, rfl⟩ := Option.map_eq_some_iff.mp h
      have q := keys_of h2 e1
      cases d <;> first | (cases e; done) | skip
      · cases e; have h1 : v = _ := h1; subst h1
        show (keysV vs).map _ = _
        rw [q]; rfl
      · cases e; have h1 : v = _ := h1; subst h1
        show (keysV vs).map _ = _
        rw [q]; rfl
    · cases h
/-- dict(zip(a, b)) -/
theorem s_dzip {es : Es} {a b : Expr} {p p2 pos pos2 : Pos} (hg : Gl X "dict") (hm : X.mg "dict" = none) (hg2 : Gl X "zip") (hm2 : X.mg "zip" = none) (hc : X.calm = true) (h : PAll F G X es [a, b]) :
    L2.PE X (.Call (.Name "dict" p) [.Call (.Name "zip" p2) [a, b] [] pos2] [] pos) (tE X.K fun env st => (evs F G es env st).bind fun ds st1 => bltD .dictP ds st1) := by
  have hs := h.stars
  have hl := h.len
  simp only [List.all_cons, Bool.and_eq_true] at hs
  refine pe_imp (pe_dzip hg hm hg2 hm2 hc h.pa (star_cons hs.1 _ _) (stars_plain (by simp only [List.all_cons, Bool.and_eq_true]; exact hs.2))) fun σ H Q ⟨as, st, env, rel, re, g⟩ => tA_mono (evs_of rel re g) fun vs H1 ⟨as1, st1, ds, _, r1, _, rvs, hl1, g1⟩ => ?_
  match ds, hl1.trans hl.symm with
  | [d, d'], _ =>
    obtain ⟨v, u, rfl, rv, ru⟩ := rvs_two rvs
    have g1 : Good X.K (PE' X.K Q) as1 H1 (match itemsD d st1, itemsD d' st1 with
      | some xs, some ys => (match keysD xs with
        | some ks => .ok (.ref st1.length) (st1 ++ [.dct ((ks.zip ys).foldl (fun acc kv => putKV acc kv.1 kv.2) [])])
        | none => .bad)
      | _, _ => .bad) := g1
    split at g1
    · rename_i xs ys e1 e2
      split at g1
      · rename_i ks e3
        obtain ⟨k, a, ws, rfl, h1, h2⟩ := items_of r1 rv e1
        obtain ⟨k', b, zs, rfl, h1', h2'⟩ := items_of r1 ru e2
        refine ⟨k, k', a, b, ws, zs, ks, rfl, h1, h1', keys_of h2 e3, fun q hq => ?_⟩
        have ex : Ext X.K as1 H1 (as1 ++ [q]) (upd H1 q (.dK (mergeK [] (ks.zip zs)))) := Ext.push hq
        refine g1 _ _ ex (r1.push hq ⟨_, upd_same, merge_of (RVs.mono ex _ _ h2') rfl⟩) _ ⟨q, rfl, ?_⟩
        rw [List.getElem?_append_right (by rw [r1.len]; exact Nat.le_refl _), r1.len]; simp
      · exact g1.elim
    · exact g1.elim
end
end PL

set_option Elab.async false
set_option linter.all false
set_option maxRecDepth 100000
set_option maxHeartbeats 2000000
/-! PLK: list comprehensions; all expressions. -/
namespace PL
open PySem PySem.Spec PyProof.Rows L2

section
variable {F : Nat → List D → Sto → Res D} {G : Nat → Option D} {X : Cx}
theorem wipe_idem (σ : L2.St) : ∀ vs : List Nat, wipe (wipe σ vs) vs = wipe σ vs
  | [] => rfl
  | v :: vs => by
    have aux : ∀ (τ : L2.St) (us : List Nat), (wipe (τ.set v none) us).set v none = (wipe τ us).set v none := by
      intro τ us
      induction us with
      | nil => unfold L2.wipe; rw [List.set_set]
      | cons u us ih =>
        unfold L2.wipe
        by_cases hu : u = v
        · subst hu; rw [List.set_set, List.set_set]; exact ih
        · rw [List.set_comm _ _ hu, List.set_comm _ _ hu, ih]
    show (wipe ((wipe σ vs).set v none) vs).set v none = (wipe σ vs).set v none
    rw [aux, wipe_idem σ vs]
def mLc (own : List Nat) (k : ItK) (ms : Env → Sto → Res (List D)) (mt : D → Env → Sto → Res Env) (mc : Env → Sto → Res Bool) (me : Env → Sto → Res D) : Env → Sto → Res D := fun env st => (ms env st).bind fun ds st1 => match srcD k ds st1 with
    | none => .bad
    | some s => lcLoop s (fun d st2 => (mt d (wipeE env own) st2).bind fun env1 st3 => (mc env1 st3).bind fun b st4 =>
        if b then (me env1 st4).bind fun y st5 => .ok (some y) st5 else .ok none st4) (s.len st1 + 1) 0 [] st1
theorem src_bind {β : Type} {r : Res (List D)} {k : ItK} {L : Src → Sto → Res β} : (r.bind fun ds st1 => match srcD k ds st1 with | none => .bad | some s => L s st1) = (r.bind fun ds st1 => liftO (srcD k ds st1) st1).bind L := by
  cases r with
  | ok ds st1 =>
    simp only [Res.bind_ok]
    cases srcD k ds st1 <;> rfl
  | exc _ _ _ => rfl
  | bad => rfl
theorem lc_of {K : PySem.W.Frag} {own : List Nat} {k : ItK} {ow : List Nat → Bool} {ms : Env → Sto → Res (List D)} {mt : D → Env → Sto → Res Env} {mc : Env → Sto → Res Bool} {me : Env → Sto → Res D} {σ : L2.St} {H : Hp} {Q : VK} (ho : ow own = true)
    (h : tE K (mLc own k ms mt mc me) σ H Q) : tLc (tI K k ms) (tG K ow mt) (tT K mc) (tE K me) own σ H Q := by
  obtain ⟨as, st, env, rel, re, g⟩ := h
  unfold mLc at g
  rw [src_bind] at g
  refine ⟨as, st, env, rel, re, g.bindE.imp fun s as0 H0 e1 ⟨st0, _, _, r1, g1⟩ J hJ => ?_⟩
  intro D hD
  have re0 := re.mono e1
  have g1 := g1.mono e1
  generalize hstep : (fun (d : PL.D) st2 => (mt d (wipeE env own) st2).bind fun env1 st3 => (mc env1 st3).bind fun b st4 =>
        if b then (me env1 st4).bind fun y st5 => Res.ok (some y) st5 else Res.ok none st4) = step at g1
  refine ⟨fun i m H' => ∃ as' st' acc vs', Ext K as0 H0 as' H' ∧ Rel K as' st' H' ∧ D ∉ as' ∧ H' D = some (.lst vs') ∧ RVs K as' H' acc vs' ∧ Good K (PE' K Q) as0 H0 (lcLoop s step m i acc st'),
    ⟨s.len st0 + 1, as0, st0, [], [], Ext.laid hD, r1.laid hD, r1.out hD, upd_same, rfl, g1⟩, ?_⟩
  rintro i m H' ⟨as', st', acc, vs', e2, r2, hd2, hD2, rv2, g2⟩
  cases m with
  | zero => exact g2.elim
  | succ m =>
    rw [lcLoop] at g2
    split at g2
    · exact g2.elim
    · rename_i hat
      refine .inl ⟨hJ.stop as' H' st' i e2 r2 hat, ?_⟩
      have hro : RO K (as' ++ [D]) H' (.lst acc) D := ⟨vs', hD2, RVs.monoW Wk.snoc _ _ rv2⟩
      exact g2 _ _ (e2.adopt hD) (r2.adopt hd2 hro) _ ⟨D, rfl, by rw [List.getElem?_append_right (by rw [r2.len]; exact Nat.le_refl _), r2.len]; simp⟩
    · rename_i d hat
      obtain ⟨hgo, hy⟩ := hJ.go as' H' st' i d e2 r2 hat
      refine .inr ⟨hgo, _, fun H' hN => ⟨m, Nat.lt_succ_self m, hN⟩, fun x H3 yl => ?_⟩
      obtain ⟨e3, r3, rx⟩ := hy x H3 yl
      have hD3 : H3 D = some (.lst vs') := e3.frm D _ hd2 hD2
      subst hstep
      simp only [Res.bind_assoc] at g2
      have re3 : REnv K as' H3 (wipeE env own) (wipe σ own) := ((re0.mono (e2.trans e3))).wipe own
      obtain ⟨a1, b1, c1, d1, q1, q2, q3, q4⟩ := tg_ofE (own := ow) (e2.trans e3) r3 re3 rx g2
      refine ⟨a1, b1, c1, d1, q1, q2, q3, q4.imp fun env1 as4 H4 e4 q σ4 re4 hw => ?_⟩
      obtain ⟨as5, st5, env5, e5, r5, re5, hw5, g5⟩ := q σ4 re4 hw
      refine ⟨by rw [hw5 own ho, wipe_idem], ?_⟩
      refine tT_mono (test_ofE ((e2.trans e3).trans e5) r5 re5 g5) fun b H6 ⟨as6, st6, e6, r6, re6, g6⟩ => ?_
      have e56 := e5.trans e6
      have hd5 : D ∉ as5 := e5.out hD3 hd2
      have hD5 := e5.frm D _ hd2 hD3
      have hd6 : D ∉ as6 := e6.out hD5 hd5
      have hD6 := e6.frm D _ hd5 hD5
      cases b with
      | false =>
        rw [if_neg (by simp)] at g6 ⊢
        exact ⟨as6, st6, acc, vs', ((e2.trans e3).trans e5).trans e6, r6, hd6, hD6, RVs.mono e6 _ _ (RVs.mono e5 _ _ (RVs.mono e3 _ _ rv2)), g6⟩
      | true =>
        rw [if_pos rfl] at g6 ⊢
        simp only [Res.bind_assoc, Res.bind_ok] at g6
        refine tE_mono (one_ofE (((e2.trans e3).trans e5).trans e6) r6 re6 g6) fun y H7 ⟨as7, st7, dy, e7, r7, re7, ry, g7⟩ => ?_
        have hd7 : D ∉ as7 := e7.out hD6 hd6
        have hD7 := e7.frm D _ hd6 hD6
        have rv7 := RVs.mono e7 _ _ (RVs.mono e6 _ _ (RVs.mono e5 _ _ (RVs.mono e3 _ _ rv2)))
        split at g7
        · rename_i hlt
          have hm : (∀ vs : List V, (HO.lst vs') ≠ .tup vs) ∧ ∀ o w, (HO.lst vs') ≠ .frz o w := ⟨fun _ z => (by cases z), fun _ _ z => (by cases z)⟩
          refine ⟨vs', hD7, by rw [← rv7.length]; exact hlt, as7, st7, acc ++ [dy], vs' ++ [y], ?_, r7.side hd7 hD7 hm, hd7, upd_same, ?_, g7⟩
          · exact (((((e2.trans e3).trans e5).trans e6).trans e7)).side hD hD7 hm
          · exact RVs.monoW (Wk.side hD7 hm) _ _ (rv7.append (RVs.one ry))
        · exact g7.elim
theorem pts_imp {X : Cx} {ifs : List Expr} {t t' : TT} (h : PTs X ifs t) (f : ∀ σ H Q, t' σ H Q → t σ H Q) : PTs X ifs t' := ⟨fun pins s σ H Q I q => h.run pins s σ H Q I (f σ H Q q)⟩
theorem pts_yes : PTs X [] (tT X.K fun _ st => .ok true st) := pts_imp pts_nil fun σ H Q ⟨as, st, env, rel, re, g⟩ => g.here rel
theorem s_lc (fx : Fit X) (hN : X.N.Nodup) {own : List (Str × Nat)} {k : ItK} {t : Tg} {ms : Env → Sto → Res (List D)} {mt : D → Env → Sto → Res Env} {mc : Env → Sto → Res Bool} {me : Env → Sto → Res D} {elt tg iter : Expr} {ifs : List Expr} {scope : Scope} {pos : Pos} (ho : tgOwn t (own.map (·.2)) = true)
    (hi : PI X tg iter (tI X.K k ms)) (ok : BlkOk X.N X.env.scope scope own)
    (hg : ∀ (s : Shared) (H : Hp) (C : Addr) (cl : List (Str × Addr)) (fp : List Addr), PG (X.blk s H scope (compEnvC scope cl C X.env) fp) tg (tG X.K (tgOwn t) mt)) (ht : ∀ (s : Shared) (H : Hp) (C : Addr) (cl : List (Str × Addr)) (fp : List Addr), PTs (X.blk s H scope (compEnvC scope cl C X.env) fp) ifs (tT X.K mc))
    (he : ∀ (s : Shared) (H : Hp) (C : Addr) (cl : List (Str × Addr)) (fp : List Addr), L2.PE (X.blk s H scope (compEnvC scope cl C X.env) fp) elt (tE X.K me)) (hs : noSet iter = true) :
    L2.PE X (.ListComp elt [⟨tg, iter, ifs, 0⟩] scope pos) (tE X.K (mLc (own.map (·.2)) k ms mt mc me)) :=
  pe_imp (pe_lc fx.hc hN hi ok hg ht he (noSet_fold hs X.env)) fun σ H Q h => lc_of ho h

/-! ### the block's context -/
theorem relS_sub {sc : Scope} : ∀ {names : List (Str × NameKind)} {x : Str} {q : NameKind}, names.lookup x = some q →
    ∃ q', (names.map fun (n, k) => if (k == NameKind.free && sc.kind == .function && sc.names.lookup n == some .cell) then (n, NameKind.cell) else (n, k)).lookup x = some q' ∧ (q' = q ∨ (q = .free ∧ q' = .cell))
  | [], _, _, h => by simp at h
  | (n, k₀) :: r, x, q, h => by
    have ih := @relS_sub sc r x q
    show ∃ q', List.lookup x ((if (k₀ == NameKind.free && sc.kind == .function && sc.names.lookup n == some .cell) = true then (n, NameKind.cell) else (n, k₀)) :: (r.map _)) = some q' ∧ _
    cases hx : x == n with
    | true =>
      simp only [List.lookup_cons, hx] at h
      have h : k₀ = q := by simpa using h
      subst h
      by_cases hc : (k₀ == NameKind.free && sc.kind == .function && sc.names.lookup n == some .cell) = true
      · refine ⟨.cell, by rw [if_pos hc]; simp only [List.lookup_cons, hx], ?_⟩
        have hk : k₀ = .free := by
          simp only [Bool.and_eq_true, beq_iff_eq] at hc
          exact hc.1.1
        exact .inr ⟨hk, rfl⟩
      · exact ⟨k₀, by rw [if_neg hc]; simp only [List.lookup_cons, hx], .inl rfl⟩
    | false =>
      simp only [List.lookup_cons, hx] at h
      obtain ⟨q', h1, h2⟩ := ih h
      refine ⟨q', ?_, h2⟩
      by_cases hc : (k₀ == NameKind.free && sc.kind == .function && sc.names.lookup n == some .cell) = true
      · rw [if_pos hc]; simp only [List.lookup_cons, hx]; exact h1
      · rw [if_neg hc]; simp only [List.lookup_cons, hx]; exact h1
theorem Ctx.blk {B : Tab} {N : List Str} {sc : Scope} {k : Nat} (c : Ctx B F G N sc k X) (scope : Scope) (s : Shared) (H : Hp) (C : Addr) (cl : List (Str × Addr)) (fp : List Addr) : Ctx B F G N scope k (X.blk s H scope (compEnvC scope cl C X.env) fp) where
  fit := ⟨c.fit.hu, c.fit.hg, c.fit.hc, c.fit.sy⟩
  hN := c.hN
  nd := c.nd
  sub := fun x q h => relS_sub (sc := X.env.scope) h
  fnc := fun x h => by show (scope.names.lookup x == some .cell) = true; rw [h]; rfl
  room := c.room
  fns := fun i x ps h => let ⟨f, fd, q⟩ := c.fns i x ps h; ⟨f, fd, ⟨q.mg, q.keep, q.bind, q.bindK, q.ok⟩⟩
  free := c.free
  con := c.con
  kds := c.kds
theorem Ctx.blkOk {B : Tab} {N : List Str} {sc : Scope} {k : Nat} (c : Ctx B F G N sc k X) {scope : Scope} {own : List (Str × Nat)} (ok : BlkOk N sc scope own) : BlkOk X.N X.env.scope scope own where
  kind := ok.kind
  uniq := ok.uniq
  ix := by rw [c.hN]; exact ok.ix
  free := fun y hy e => by
    rcases ok.free y hy e with h | h
    · obtain ⟨q', h1, h2⟩ := c.sub _ _ h
      rcases h2 with rfl | ⟨h2, _⟩
      · exact .inl h1
      · cases h2
    · obtain ⟨q', h1, h2⟩ := c.sub _ _ h
      rcases h2 with rfl | ⟨_, rfl⟩
      · exact .inr h1
      · exact .inl h1
  own := by rw [c.hN]; exact ok.own
theorem Ctx.vis {B : Tab} {N : List Str} {sc : Scope} {k : Nat} (c : Ctx B F G N sc k X) {x : Str} (h : visB sc x = true) : Vis X.env.scope x ∧ (x == ("__debug__" : Str)) = false ∧ (x == ("__classdict__" : Str)) = false := by
  unfold visB dbgB at h
  simp only [Bool.and_eq_true, Bool.not_eq_true'] at h
  refine ⟨?_, h.2⟩
  have h1 := h.1
  split at h1
  · rename_i e
    obtain ⟨q', h2, h3⟩ := c.sub _ _ e
    rcases h3 with rfl | ⟨h3, _⟩
    · exact .inl h2
    · cases h3
  · rename_i e
    obtain ⟨q', h2, h3⟩ := c.sub _ _ e
    rcases h3 with rfl | ⟨h3, _⟩
    · exact .inr (.inl h2)
    · cases h3
  · rename_i e
    obtain ⟨q', h2, h3⟩ := c.sub _ _ e
    rcases h3 with rfl | ⟨_, rfl⟩
    · exact .inr (.inr h2)
    · exact .inr (.inl h2)
  · cases h1
theorem Ctx.loc {B : Tab} {N : List Str} {sc : Scope} {k : Nat} (c : Ctx B F G N sc k X) {x : Str} (h : locB sc x = true) : Loc X.env.scope x ∧ (X.fn x = true ∨ X.env.scope.names.lookup x = some .local) := by
  unfold locB at h
  split at h
  · rename_i e
    obtain ⟨q', h2, h3⟩ := c.sub _ _ e
    rcases h3 with rfl | ⟨h3, _⟩
    · exact ⟨.inl h2, .inr h2⟩
    · cases h3
  · rename_i e
    obtain ⟨q', h2, h3⟩ := c.sub _ _ e
    rcases h3 with rfl | ⟨h3, _⟩
    · exact ⟨.inr h2, .inl (c.fnc _ e)⟩
    · cases h3
  · cases h
theorem Ctx.gl {B : Tab} {N : List Str} {sc : Scope} {k : Nat} (c : Ctx B F G N sc k X) {x : Str} (h : glB sc x = true) : Gl X x ∧ (x == ("__debug__" : Str)) = false := by
  unfold glB dbgB at h
  simp only [Bool.and_eq_true, Bool.not_eq_true'] at h
  refine ⟨?_, h.2⟩
  have h1 := h.1
  split at h1
  · rename_i e
    obtain ⟨q', h2, h3⟩ := c.sub _ _ e
    rcases h3 with rfl | ⟨h3, _⟩
    · exact h2
    · cases h3
  · cases h1
theorem Ctx.fr {B : Tab} {N : List Str} {sc : Scope} {k : Nat} (c : Ctx B F G N sc k X) {x y : Str} (h : freeB B sc x y = true) : x = y ∧ Gl X y ∧ X.mg y = none := by
  unfold freeB at h
  simp only [Bool.and_eq_true, decide_eq_true_eq] at h
  obtain ⟨rfl, h2, h3⟩ := h
  exact ⟨rfl, (c.gl h3).1, c.free _ h2⟩
end
end PL

set_option Elab.async false
set_option linter.all false
set_option maxRecDepth 100000
set_option maxHeartbeats 2000000
/-! PLR: methods of texts. -/
namespace PL
open PySem PySem.Spec PyProof.Rows L2
def Tm.id : Tm → String
  | .join => "str.join" | .split => "str.split" | .upper => "str.upper"
def rTmU (K : PySem.W.Frag) (m : Tm) : V → List V → Hp → VK → Prop := fun v vs H Q => ∃ as st a ds, v = .str a ∧ Rel K as st H ∧ RVs K as H ds vs ∧ GE K Q as H (smD m a ds st)
theorem strs_of {K : PySem.W.Frag} {as : List Addr} {H : Hp} : ∀ {xs : List D} {ws : List V} {ys : List Str}, RVs K as H xs ws → strsD xs = some ys → ws = ys.map V.str
  | [], _, _, r, h => by
    have r : _ = [] := r
    subst r; cases h; rfl
  | d :: xs, ws, ys, r, h => by
    obtain ⟨v, vs, rfl, h1, h2⟩ := r
    cases d <;> first | (cases h; done) | skip
    unfold strsD at h
    obtain ⟨ks', e1, rfl⟩ := Option.map_eq_some_iff.mp h
    have h1 : v = _ := h1; subst h1
    rw [strs_of h2 e1]; rfl
theorem rvs_strsL {K : PySem.W.Frag} {as : List Addr} {H : Hp} : ∀ ns : List Str, RVs K as H (ns.map D.str) (ns.map V.str)
  | [] => rfl
  | i :: r => ⟨.str i, r.map V.str, rfl, rfl, rvs_strsL r⟩
section
variable {X : Cx}
theorem tm_all (m : Tm) : MtR X m.id (rTmU X.K m) := by
  intro pins s σ H v vs vv us Q I rv rvs h
  obtain ⟨as, st, a, ds, rfl, rel, rd, g⟩ := h
  unfold smD at g
  split at g
  · obtain ⟨y, rfl, ry⟩ := rvs_one rd
    split at g
    · rename_i xs e
      split at g
      · rename_i ys e2
        split at g
        · rename_i hz
          obtain ⟨k, p, ws, rfl, h1, h2⟩ := items_of rel ry e
          have := strs_of h2 e2
          subst this
          refine mt_join pins s σ H _ _ _ _ Q I rv rvs ⟨a, p, ys, rfl, rfl, ?_, hz, g.here rel _ rfl⟩
          cases k with
          | L => exact .inl h1
          | T => exact .inr h1
        · exact g.elim
      · exact g.elim
    · exact g.elim
  · obtain ⟨y, rfl, ry⟩ := rvs_one rd
    have ry : y = _ := ry; subst ry
    split at g
    · rename_i c
      exact mt_split pins s σ H _ _ _ _ Q I rv rvs ⟨a, _, rfl, rfl, c.1, c.2, fun p hp => g.newL rel (rvs_strsL _) p hp⟩
    · exact g.elim
  · have rd : vs = [] := rd
    subst rd
    split at g
    · rename_i c
      exact mt_upper pins s σ H _ _ _ _ Q I rv rvs ⟨a, rfl, rfl, c, g.here rel _ rfl⟩
    · exact g.elim
  · exact g.elim
variable {F : Nat → List D → Sto → Res D} {G : Nat → Option D}
theorem s_smeth {m : Tm} {e : E} {es : Es} {o : Expr} {l : List Expr} {ap cp : Pos} (ho : L2.PE X o (tE X.K (ev F G e))) (h : PAll F G X es l) (hb : noBase o = true) (hl : (ap.endLine == cp.line) = true) (h30 : l.length < 30) :
    L2.PE X (.Call (.Attribute o m.nm ap) l [] cp) (tE X.K fun env st => (ev F G e env st).bind fun x st1 => match x with
      | .str a => (evs F G es env st1).bind fun ds st2 => smD m a ds st2
      | _ => .bad) := by
  have hslot : Slot "str" m.nm m.id := by
    cases m
    · exact PySem.F.slot_str_join
    · exact PySem.F.slot_str_split
    · exact PySem.F.slot_str_upper
  have hty : typeOf (.builtin m.id) = pure (.type "method_descriptor") := by
    cases m
    · exact PySem.F.type_str_join
    · exact PySem.F.type_str_split
    · exact PySem.F.type_str_upper
  refine ⟨fun pins s σ H Q I ⟨as, st, env, rel, re, g⟩ => ?_⟩
  have st1 := ho.run pins s σ H _ I (one_of rel re g)
  cases es with
  | nil => cases l with
    | nil =>
      refine wpAny_Call_method0_late (noBase_is hb _ _ _) hl (thn st1 fun v s1 ⟨x, H1, I1, r1, as1, st1, d, _, rel1, re1, rv, g1⟩ => ?_)
      split at g1
      · rename_i a
        have rv : x = _ := rv; subst rv
        obtain ⟨t, rfl⟩ := _root_.id r1
        refine ⟨"str", m.id, PySem.F.plainAttrs_str, hslot, hty, typeIs_str _ _ _, (fun _ e => nomatch e), Calls.callWith_builtin rfl (PySem.evalArgs_none ?_)⟩
        rw [evs_nilE] at g1
        exact tm_all m pins s1 σ H1 _ [] _ [] Q I1 r1 .nil ⟨as1, st1, a, [], rfl, rel1, rfl, g1⟩
      · exact g1.elim
    | cons _ _ => exact h.elim
  | cons e' es => cases l with
    | nil => exact h.elim
    | cons y l =>
      refine wpAny_Call_method_late (noBase_is hb _ _ _) ?_ hl rfl (thn st1 fun v s1 ⟨x, H1, I1, r1, as1, st1, d, _, rel1, re1, rv, g1⟩ => ?_)
      · rw [stars_all h.stars]
        simpa [keywordEach, backToKw] using h30
      split at g1
      · rename_i a
        have rv : x = _ := rv; subst rv
        obtain ⟨t, rfl⟩ := _root_.id r1
        refine ⟨"str", m.id, PySem.F.plainAttrs_str, hslot, hty, typeIs_str _ _ _, (fun _ e => nomatch e), ?_⟩
        have hA := h.pa.run cp pins s1 σ H1 _ I1 (all_of rel1 re1 g1)
        rw [star_cons h.1 _ _] at hA ⊢
        have hplain : (backTo cp (starEach l X.env)).any (·.1) = false := stars_plain (PAll.stars h.2.2)
        refine Calls.callWith_builtin (by show (false || (backTo cp (starEach l X.env)).any (·.1)) = false; rw [hplain] <;> rfl) (Calls.evalArgs_plain ?_)
        exact thn hA fun us s2 ⟨vs, H2, I2, r2, as2, st2, ds, e2, rel2, _, rvs, g2⟩ => tm_all m pins s2 σ H2 _ vs _ us Q I2 r1 r2 ⟨as2, st2, a, ds, rfl, rel2, rvs, g2⟩
      · exact g1.elim
theorem lits_of : ∀ {ys : List Str} {l : List Expr}, strsB ys l = true → tupLitsOf l = some (ys.map PyData.str)
  | [], [], _ => rfl
  | [], _ :: _, h => by cases h
  | _ :: _, [], h => by cases h
  | y :: ys, e :: l, h => by
    unfold strsB at h
    rw [Bool.and_eq_true] at h
    obtain ⟨h1, h2⟩ := h
    split at h1
    · rename_i z hz
      obtain ⟨k, p, rfl⟩ := asConst_eq hz
      have := of_decide_eq_true h1
      subst this
      simp [tupLitsOf, litDatum, lits_of h2]
    · cases h1
theorem data_strs : ∀ {ys : List Str} {vs : List Value}, DataAre vs (ys.map PyData.str) → Vals (ys.map V.str) vs
  | [], _, h => by cases h; exact .nil
  | y :: ys, _, h => by
    cases h with
    | cons h1 h2 => exact .cons (let ⟨t, e⟩ := datum_str h1; ⟨t, e⟩) (data_strs h2)
theorem strs_are : ∀ {ys : List Str} {vs : List Value}, Vals (ys.map V.str) vs → StrsAre vs ys
  | [], _, h => by cases h; exact .nil
  | y :: ys, _, h => by
    cases h with
    | cons h1 h2 => obtain ⟨t, rfl⟩ := h1; exact .cons _ _ (strs_are h2)
theorem evs_one {e : E} {env : Env} {st : Sto} {f : D → Sto → Res D} : (ev F G e env st).bind f = (evs F G (.cons e .nil) env st).bind fun ds st1 => match ds with
    | [x] => f x st1
    | _ => .bad := by
  rw [evs]
  cases ev F G e env st with
  | ok d st1 => simp only [Res.bind_ok, evs]
  | exc _ _ _ => rfl
  | bad => rfl
theorem s_ixl {ys : List Str} {l : List Expr} {y : Expr} {kk : Nat} {pp ap cp : Pos} {a : E} (hs : strsB ys l = true) (hz : ys.length ≤ 1000) (hy : noStar y = true) (he : L2.PE X y (tE X.K (ev F G a))) (hb : noBase (.Tuple l kk pp) = true) (hl : (ap.endLine == cp.line) = true) :
    L2.PE X (.Call (.Attribute (.Tuple l kk pp) "index" ap) [y] [] cp) (tE X.K fun env st => (ev F G a env st).bind fun x st1 => liftO (ixD ys x) st1) := by
  refine ⟨fun pins s σ H Q I ⟨as, st, env, rel, re, g⟩ => ?_⟩
  refine wpAny_Call_method_late (noBase_is hb _ _ _) ?_ hl rfl ?_
  · have hall : [y].all noStar = true := by rw [List.all_cons, hy]; rfl
    rw [stars_all hall]
    simp [keywordEach, backToKw]
  refine wpAny_Tuple_spliced (spliced_lits l (ys.map PyData.str) s _ (lits_of hs) fun vs tk hvs => ?_)
  have hv := data_strs hvs
  have hlen : vs.length = ys.length := by have := hv.length; rw [List.length_map] at this; omega
  have hsz : vs.length ≤ sizeLine := by rw [hlen]; exact Nat.le_trans hz (by decide)
  refine ⟨hsz, ?_⟩
  have hf : H s.heap.objs.size = none := I.hok.fresh (Nat.le_refl _)
  have I1 : Inv X pins σ (upd H s.heap.objs.size (.tup (ys.map V.str))) { s with heap := s.heap.push { cls := .type "tuple", data := .seq vs.toArray }, toks := tk } :=
    I.laid (t' := tk) (fun b u e => Heap.get?_push_of_some _ e) (Nat.le_refl _) ⟨by rw [List.length_map, ← hlen]; exact hsz, vs, hv, ⟨_, Heap.get?_push_size _ rfl, rfl, _, rfl⟩⟩
  refine ⟨"tuple", "tuple.index", PySem.F.plainAttrs_tuple, PySem.F.slot_tuple_index, PySem.F.type_tuple_index, ⟨_, Heap.get?_push_size _ rfl, rfl⟩, fun a e => by cases e; exact ⟨_, Heap.get?_push_size _ rfl, rfl⟩, ?_⟩
  have rel1 := rel.laid (ho := .tup (ys.map V.str)) hf
  have e1 : Ext X.K as H as (upd H s.heap.objs.size (.tup (ys.map V.str))) := Ext.laid hf
  have g := g.mono e1
  simp only [] at g
  rw [evs_one (f := fun x st1 => liftO (ixD ys x) st1)] at g
  have hP : PAll F G X (.cons a .nil) [y] := ⟨hy, he, trivial⟩
  have hA := hP.pa.run cp pins _ σ _ _ I1 (all_of rel1 (re.mono e1) g)
  rw [star_cons hy] at hA ⊢
  refine Calls.callWith_builtin (by rfl) (Calls.evalArgs_plain ?_)
  refine thn hA fun us s2 ⟨vs2, H2, I2, r0, as2, st2, ds, e2, rel2, _, rvs, g2⟩ => ?_
  split at g2
  rotate_left
  · exact g2.elim
  obtain ⟨x, rfl, rv⟩ := rvs_one rvs
  cases r0 with
  | cons rx rn =>
  cases rn
  obtain ⟨w, ew, g3⟩ := g2.lift
  unfold ixD at ew
  split at ew
  · split at ew
    · rename_i k hk
      cases ew
      have rv : x = _ := rv
      subst rv
      obtain ⟨t, rfl⟩ := rx
      have hT : SqT X.K H2 s.heap.objs.size (ys.map V.str) := e2.tup _ _ (.inl (.inl upd_same))
      obtain ⟨its, r2, p2, _⟩ := I2.tuple hT
      exact PySem.SeqAt.tuple_index_strs p2 (strs_are r2) hk ⟨.int _, H2, I2.tok _, ⟨_, rfl⟩, g3.here rel2 _ rfl⟩
    · cases ew
  · cases ew
/-! ### a display of texts that is known whole; its index -/
theorem s_ent {ys : List Str} {l : List Expr} {kk : Nat} {pp : Pos} (hs : strsB ys l = true) (hz : ys.length ≤ 1000) : L2.PE X (.Tuple l kk pp) (tE X.K fun _ st => .ok (.ent ys) st) := by
  refine ⟨fun pins s σ H Q I ⟨as, st, env, rel, re, g⟩ => ?_⟩
  refine wpAny_Tuple_spliced (spliced_lits l (ys.map PyData.str) s _ (lits_of hs) fun vs tk hvs => ?_)
  have hv := data_strs hvs
  have hlen : vs.length = ys.length := by have := hv.length; rw [List.length_map] at this; omega
  have hsz : vs.length ≤ sizeLine := by rw [hlen]; exact Nat.le_trans hz (by decide)
  refine ⟨hsz, ?_⟩
  have hf : H s.heap.objs.size = none := I.hok.fresh (Nat.le_refl _)
  have I1 : Inv X pins σ (upd H s.heap.objs.size (.frz { cls := .type "tuple", data := .seq vs.toArray } (.tup (ys.map V.str)))) { s with heap := s.heap.push { cls := .type "tuple", data := .seq vs.toArray }, toks := tk } :=
    I.laid (t' := tk) (fun b u e => Heap.get?_push_of_some _ e) (Nat.le_refl _) ⟨Heap.get?_push_size _ rfl, by rw [List.length_map, ← hlen]; exact hsz, vs, hv, ⟨_, Heap.get?_push_size _ rfl, rfl, _, rfl⟩⟩
  exact ⟨.ref s.heap.objs.size, _, I1, rfl, g _ _ (Ext.laid hf) (rel.laid hf) _ ⟨_, _, rfl, upd_same, rfl⟩⟩
theorem frz_get {pins : List (Addr × Obj)} {s : Shared} {σ : L2.St} {H : Hp} {a : Addr} {o : Obj} {u : HO} (I : Inv X pins σ H s) (h : H a = some (.frz o u)) : s.heap.get? a = some o := (I.hok a _ h).1
theorem s_ixm {o : E} {a : E} {x y : Expr} {ap cp : Pos} (ho : L2.PE X x (tE X.K (ev F G o))) (hy : noStar y = true) (he : L2.PE X y (tE X.K (ev F G a))) (hb : noBase x = true) (hl : (ap.endLine == cp.line) = true) :
    L2.PE X (.Call (.Attribute x "index" ap) [y] [] cp) (tE X.K fun env st => (ev F G o env st).bind fun d st1 => if isRow d st1 = true then (ev F G a env st1).bind fun z st2 => liftO (ixmD d z st2) st2 else .bad) := by
  refine ⟨fun pins s σ H Q I ⟨as, st, env, rel, re, g⟩ => ?_⟩
  have st1 := ho.run pins s σ H _ I (one_of rel re g)
  refine wpAny_Call_method_late (noBase_is hb _ _ _) ?_ hl rfl (thn st1 fun v s1 ⟨w, H1, I1, r1, as1, st1, d, _, rel1, re1, rv, g1⟩ => ?_)
  · have hall : [y].all noStar = true := by rw [List.all_cons, hy]; rfl
    rw [stars_all hall]
    simp [keywordEach, backToKw]
  split at g1
  rotate_left
  · exact g1.elim
  rename_i hrow
  rw [evs_one (f := fun z st2 => liftO (ixmD d z st2) st2)] at g1
  have hP : PAll F G X (.cons a .nil) [y] := ⟨hy, he, trivial⟩
  have hA := hP.pa.run cp pins s1 σ H1 _ I1 (all_of rel1 re1 g1)
  rw [star_cons hy] at hA
  unfold isRow at hrow
  split at hrow
  · rename_i ys
    obtain ⟨p, ob, rfl, hfz, hdn⟩ := rv
    cases r1
    have hT : SqT X.K H1 p (ys.map V.str) := .inl (.inr ⟨ob, hfz⟩)
    have hg := frz_get I1 hfz
    obtain ⟨its, rv0, ⟨o', hg', hcl, _⟩, _⟩ := I1.tuple hT
    have ho' : o' = ob := Option.some.inj (hg'.symm.trans hg)
    subst ho'
    refine ⟨"tuple", "tuple.index", PySem.F.plainAttrs_tuple, PySem.F.slot_tuple_index, PySem.F.type_tuple_index, ⟨_, hg, hcl⟩, fun a e => by cases e; exact ⟨_, hg, hdn⟩, ?_⟩
    rw [star_cons hy]
    refine Calls.callWith_builtin (by rfl) (Calls.evalArgs_plain ?_)
    refine thn hA fun us s2 ⟨vs2, H2, I2, r0, as2, st2, ds, e2, rel2, _, rvs, g2⟩ => ?_
    split at g2
    rotate_left
    · exact g2.elim
    obtain ⟨x', rfl, rx'⟩ := rvs_one rvs
    cases r0 with
    | cons rx rn =>
    cases rn
    obtain ⟨w, ew, g3⟩ := g2.lift
    have ew : ixD ys _ = some w := ew
    unfold ixD at ew
    split at ew
    · split at ew
      · rename_i k hk
        cases ew
        have rx' : x' = _ := rx'
        subst rx'
        obtain ⟨t, rfl⟩ := rx
        obtain ⟨its, r2, p2, _⟩ := I2.tuple (e2.tup _ _ hT)
        exact PySem.SeqAt.tuple_index_strs p2 (strs_are r2) hk ⟨.int _, H2, I2.tok _, ⟨_, rfl⟩, g3.here rel2 _ rfl⟩
      · cases ew
    · cases ew
  · rename_i r
    split at hrow
    · rename_i xs hst
      obtain ⟨p, rfl, hp, hro⟩ := rel1.of_ref hst rv
      cases r1
      obtain ⟨ws, hL, _⟩ := ro_seq hro rfl
      obtain ⟨its, rv0, ⟨o', n', hg', hcl, hdn, _⟩, _⟩ := I1.list hL
      refine ⟨"list", "list.index", PySem.F.plainAttrs_list, PySem.F.slot_list_index, PySem.F.type_list_index, ⟨_, hg', hcl⟩, fun a e => by cases e; exact ⟨_, hg', hdn⟩, ?_⟩
      rw [star_cons hy]
      refine Calls.callWith_builtin (by rfl) (Calls.evalArgs_plain ?_)
      refine thn hA fun us s2 ⟨vs2, H2, I2, r0, as2, st2, ds, e2, rel2, _, rvs, g2⟩ => ?_
      split at g2
      rotate_left
      · exact g2.elim
      obtain ⟨x', rfl, rx'⟩ := rvs_one rvs
      cases r0 with
      | cons rx rn =>
      cases rn
      obtain ⟨w, ew, g3⟩ := g2.lift
      unfold ixmD at ew
      simp only [] at ew
      split at ew
      · rename_i xs2 hst2
        split at ew
        · rename_i ys hys
          unfold ixD at ew
          split at ew
          · split at ew
            · rename_i k hk
              cases ew
              have rx' : x' = _ := rx'
              subst rx'
              obtain ⟨t, rfl⟩ := rx
              obtain ⟨p2, e3, _, hro2⟩ := rel2.of_ref hst2 (RV.mono e2 _ _ rv)
              cases e3
              obtain ⟨ws2, hL2, hw2⟩ := ro_seq hro2 rfl
              rw [strs_of hw2 hys] at hL2
              obtain ⟨its2, r2, pl2, hz2⟩ := I2.list hL2
              exact PySem.SeqAt.list_index_strs pl2.isList (strs_are r2) (by rw [List.length_map] at hz2; exact hz2) hk ⟨.int _, H2, I2.tok _, ⟨_, rfl⟩, g3.here rel2 _ rfl⟩
            · cases ew
          · cases ew
        · cases ew
      · cases ew
    · cases hrow
  · cases hrow
/-! ### items, some of them starred -/
def PSt (F : Nat → List D → Sto → Res D) (G : Nat → Option D) (X : Cx) : List Bool → Es → List Expr → Prop
  | [], .nil, [] => True
  | true :: fs, .cons e es, x :: l => (∃ y, asStar x = some y ∧ L2.PE X y (tE X.K (ev F G e))) ∧ PSt F G X fs es l
  | false :: fs, .cons e es, x :: l => noStar x = true ∧ L2.PE X x (tE X.K (ev F G e)) ∧ PSt F G X fs es l
  | _, _, _ => False
theorem PSt.pa : ∀ {fs : List Bool} {es : Es} {l : List Expr}, PSt F G X fs es l → PA X l (tA X.K (evss F G fs es))
  | [], .nil, [], _ => by
    have e : (fun (_ : Env) (st : Sto) => (Res.ok ([] : List D) st)) = evss F G [] .nil := by funext env st; rw [evss]
    rw [← e]; exact s_nil
  | true :: fs, .cons e es, x :: l, h => by
    obtain ⟨⟨y, hx, hy⟩, ht⟩ := h
    obtain ⟨p, rfl⟩ := asStar_eq hx
    refine pa_imp (StX.pa_star hy (PSt.pa ht)) fun σ H Q ⟨as, st, env, rel, re, g⟩ => ?_
    rw [evss] at g
    refine tE_mono (one_of rel re g) fun v H1 ⟨as1, st1, d, _, r1, re1, rv, g1⟩ => ?_
    cases d <;> first | exact g1.elim | skip
    rename_i xs
    obtain ⟨a, vs, rfl, hT, hvs⟩ := rv
    simp only [] at g1
    refine ⟨a, vs, rfl, .inl hT, tA_mono (all_of r1 re1 g1) fun ws H2 ⟨as2, st2, ds, e2, r2, _, rvs, g2⟩ => ?_⟩
    exact g2.here r2 _ ((RVs.mono e2 _ _ hvs).append rvs)
  | false :: fs, .cons e es, x :: l, h => by
    obtain ⟨h1, h2, h3⟩ := h
    have e : (fun (env : Env) (st : Sto) => (ev F G e env st).bind fun d st1 => (evss F G fs es env st1).bind fun ds st2 => .ok (d :: ds) st2) = evss F G (false :: fs) (.cons e es) := by funext env st; rw [evss]
    rw [← e]
    exact s_cons h2 (PSt.pa h3) h1
  | [], .nil, _ :: _, h => h.elim
  | [], .cons _ _, _, h => by cases h
  | true :: _, .nil, _, h => by cases h
  | false :: _, .nil, _, h => by cases h
  | true :: _, .cons _ _, [], h => h.elim
  | false :: _, .cons _ _, [], h => h.elim
end
end PL

set_option Elab.async false
set_option linter.all false
set_option maxRecDepth 100000
set_option maxHeartbeats 4000000
/-! PLL: every expression that passes the look comes to what the small language says. -/
namespace PL
open PySem PySem.Spec PyProof.Rows L2

section
variable {X : Cx}
theorem tE_eq {x : Expr} {m m' : Env → Sto → Res D} (h : ∀ env st, m' env st = m env st) (p : L2.PE X x (tE X.K m)) : L2.PE X x (tE X.K m') := by
  have : m' = m := by funext env st; exact h env st
  rw [this]; exact p
theorem tT_eq {x : Expr} {m m' : Env → Sto → Res Bool} (h : ∀ env st, m' env st = m env st) (p : L2.PT X x (tT X.K m)) : L2.PT X x (tT X.K m') := by
  have : m' = m := by funext env st; exact h env st
  rw [this]; exact p
theorem tW_eq {x : Expr} {m m' : Env → Sto → Res Bool} (h : ∀ env st, m' env st = m env st) (p : PW X x (tT X.K m)) : PW X x (tT X.K m') := by
  have : m' = m := by funext env st; exact h env st
  rw [this]; exact p
theorem tG_eq {x : Expr} {o : List Nat → Bool} {m m' : D → Env → Sto → Res Env} (h : ∀ d env st, m' d env st = m d env st) (p : PG X x (tG X.K o m)) : PG X x (tG X.K o m') := by
  have : m' = m := by funext d env st; exact h d env st
  rw [this]; exact p
end
/-- a test: also where it stands in an and, or an or -/
def PTW (X : Cx) (x : Expr) (m : Env → Sto → Res Bool) : Prop := L2.PT X x (tT X.K m) ∧ ∀ o l p, x = .BoolOp o l p → PW X x (tT X.K m)
theorem ptw_pw {X : Cx} {x : Expr} {m : Env → Sto → Res Bool} (h : PW X x (tT X.K m)) : PTW X x m := ⟨h.pt, fun _ _ _ _ => h⟩
theorem ptw_pt {X : Cx} {x : Expr} {m : Env → Sto → Res Bool} (h : L2.PT X x (tT X.K m)) (hn : ∀ o l p, x ≠ .BoolOp o l p) : PTW X x m := ⟨h, fun o l p e => absurd e (hn o l p)⟩
theorem plainT_bool {x : Expr} (h : plainT x = true) : ∀ o l p, x ≠ .BoolOp o l p := by
  intro o l p e; subst e; cases h

section
variable {B : Tab} {F : Nat → List D → Sto → Res D} {G : Nat → Option D} {N : List Str} {k : Nat}
theorem fnB_of {f : Nat} {x : Str} {n : Nat} (h : fnB B f x n = true) : ∃ ps, (B.fns.lookup f) = some (x, ps) ∧ n = ps.length := by
  unfold fnB at h
  split at h
  · rename_i y ps e
    simp only [Bool.and_eq_true, decide_eq_true_eq] at h
    obtain ⟨rfl, h2⟩ := h
    exact ⟨ps, e, h2⟩
  · cases h
theorem kwsOf_mem {f n : Nat} {ks : List Str} {g : List Nat} (h : (f, n, ks, g) ∈ B.kws) : (n, ks, g) ∈ B.kwsOf f :=
  List.mem_filterMap.mpr ⟨(f, n, ks, g), h, by simp⟩
theorem kwB_of {f : Nat} {x : Str} {n : Nat} {kl : List Keyword} {g : List Nat} (h : kwB B f x n kl g = true) : ∃ ps, (B.fns.lookup f) = some (x, ps) ∧ g.length = ps.length ∧ kl.all (·.arg.isSome) = true ∧ (n, kl.filterMap (·.arg), g) ∈ B.kwsOf f := by
  unfold kwB at h
  rw [Bool.and_eq_true] at h
  obtain ⟨h, h'⟩ := h
  split at h
  · rename_i y ps e
    simp only [Bool.and_eq_true, decide_eq_true_eq] at h h'
    obtain ⟨rfl, h2⟩ := h
    exact ⟨ps, e, h2, h'.1, kwsOf_mem h'.2⟩
  · cases h
theorem conB_of {i : Nat} {x : Str} (h : conB B i x = true) : ∃ d, (B.cons.lookup i) = some (x, d) := by
  unfold conB at h
  split at h
  · rename_i y d e
    cases of_decide_eq_true h
    exact ⟨d, e⟩
  · cases h
theorem kdB_of {i : Nat} {x : Str} (h : kdB B i x = true) : ∃ d, (B.kds.lookup i) = some (x, d) := by
  unfold kdB at h
  split at h
  · rename_i y d e
    cases of_decide_eq_true h
    exact ⟨d, e⟩
  · cases h
theorem blt_of {X : Cx} {sc : Scope} {b : Blt} {es : Es} {x : Expr} {l : List Expr} (c : Ctx B F G N sc k X) (hl : bltA B sc b x = some l) (hes : PAll F G X es l) : L2.PE X x (tE X.K fun env st => (evs F G es env st).bind fun ds st1 => bltD b ds st1) := by
  unfold bltA at hl
  split at hl
  · rename_i y args e
    obtain ⟨p, pos, rfl⟩ := asCall_eq e
    split at hl
    · rename_i t a z
      obtain ⟨h, rfl⟩ := onlyIf_of hl
      rw [Bool.and_eq_true] at h
      obtain ⟨h1, h2⟩ := h
      obtain ⟨rfl, h4, h5⟩ := c.fr h1
      split at h2
      · rename_i w e2
        obtain ⟨p2, rfl⟩ := asName_eq e2
        obtain ⟨rfl, h6, h7⟩ := c.fr h2
        cases es with
        | nil => exact hes.elim
        | cons e es =>
          cases es with
          | cons _ _ => exact hes.2.2.elim
          | nil => exact s_isi h4 h5 h6 h7 hes.2.1 hes.1
      · cases h2
    · cases hl
    · rename_i c1
      split at hl
      · rename_i y2 a b e2
        obtain ⟨p2, pos2, rfl⟩ := asCall_eq e2
        obtain ⟨h, rfl⟩ := onlyIf_of hl
        rw [Bool.and_eq_true] at h
        obtain ⟨rfl, h4, h5⟩ := c.fr h.1
        obtain ⟨rfl, h6, h7⟩ := c.fr h.2
        exact s_dzip h4 h5 h6 h7 c.fit.hc hes
      · cases hl
    · cases hl
    · rename_i b' a0 al hn1 hn2 hn3 hn4
      obtain ⟨h, rfl⟩ := onlyIf_of hl
      obtain ⟨rfl, h4, h5⟩ := c.fr h
      have hb : b.plain = true := by
        cases b <;> first | rfl | (exfalso; first | exact hn2 _ rfl | exact hn3 rfl | exact hn4 rfl)
      exact s_blt hb c.fit h4 h5 hes (by simp)
    · cases hl
  · cases hl
theorem it_of {X : Cx} {sc : Scope} {kk : ItK} {es : Es} {it tg : Expr} {l : List Expr} (c : Ctx B F G N sc k X) (hl : itA B sc kk it tg = some l) (hes : PAll F G X es l) : PI X tg it (tI X.K kk (evs F G es)) := by
  unfold itA at hl
  split at hl
  · cases hl
    cases es with
    | nil => exact hes.elim
    | cons e es =>
      cases es with
      | cons _ _ => exact hes.2.2.elim
      | nil => exact i_plain hes.2.1
  · split at hl
    · rename_i y args e
      obtain ⟨p, pos, rfl⟩ := asCall_eq e
      obtain ⟨h, rfl⟩ := onlyIf_of hl
      rw [Bool.and_eq_true] at h
      obtain ⟨h1, h2⟩ := h
      obtain ⟨rfl, h4, h5⟩ := c.fr h1
      split at h2
      · exact i_range1 h4 h5 hes
      · exact i_range2 h4 h5 hes
      · exact i_range3 h4 h5 hes
      · unfold isTup at h2
        split at h2
        · exact i_enum h4 h5 hes
        · cases h2
      · unfold isTup at h2
        split at h2
        · exact i_zip h4 h5 hes
        · cases h2
      · cases h2
    · cases hl
set_option maxHeartbeats 40000000 in
mutual
theorem soundE : ∀ (e : E) {X : Cx} {sc : Scope} {x : Expr}, Ctx B F G N sc k X → chkE B N e sc x = true → L2.PE X x (tE X.K (ev F G e))
  | .var i, X, sc, x, c, h => by
    rw [chkE] at h
    split at h
    · rename_i y e
      obtain ⟨p, rfl⟩ := asName_eq e
      simp only [Bool.and_eq_true, decide_eq_true_eq] at h
      obtain ⟨h1, h2, h3⟩ := c.vis h.2
      refine tE_eq ?_ (s_var (i := i) (by rw [c.hN]; exact h.1) h1 h2 h3)
      intro env st; rw [ev]; try rfl
    · cases h
  | .cI i, X, sc, x, c, h => by
    rw [chkE] at h
    split at h
    · rename_i j e
      obtain ⟨_, _, rfl⟩ := asConst_eq e
      cases of_decide_eq_true h
      refine tE_eq ?_ (s_c (d := .int i) pe_int fun _ _ => rfl)
      intro env st; rw [ev]; try rfl
    · cases h
  | .cB b, X, sc, x, c, h => by
    rw [chkE] at h
    split at h
    · rename_i j e
      obtain ⟨_, _, rfl⟩ := asConst_eq e
      have hb : b = j := by simpa using h
      subst hb
      refine tE_eq ?_ (s_c (d := .bl b) pe_bl fun _ _ => rfl)
      intro env st; rw [ev]; try rfl
    · cases h
  | .cS y, X, sc, x, c, h => by
    rw [chkE] at h
    split at h
    · rename_i j e
      obtain ⟨_, _, rfl⟩ := asConst_eq e
      cases of_decide_eq_true h
      refine tE_eq ?_ (s_c (d := .str y) pe_str fun _ _ => rfl)
      intro env st; rw [ev]; try rfl
    · cases h
  | .cN, X, sc, x, c, h => by
    rw [chkE] at h
    split at h
    · rename_i e
      obtain ⟨_, _, rfl⟩ := asConst_eq e
      refine tE_eq ?_ (s_c (d := .non) pe_non fun _ _ => rfl)
      intro env st; rw [ev]; try rfl
    · cases h
  | .gcon i, X, sc, x, c, h => by
    rw [chkE] at h
    split at h
    · rename_i y e
      obtain ⟨p, rfl⟩ := asName_eq e
      rw [Bool.and_eq_true] at h
      obtain ⟨d, hd⟩ := conB_of h.1
      obtain ⟨h1, u, v, h2, h3, h4⟩ := c.con i y d hd
      obtain ⟨h5, h6⟩ := c.gl h.2
      refine tE_eq ?_ (s_gcon h5 h2 h3 h6 h4 h1)
      intro env st; rw [ev]; try rfl
    · cases h
  | .gkd i a, X, sc, x, c, h => by
    rw [chkE] at h
    split at h
    · rename_i y z e
      obtain ⟨p, rfl⟩ := asSub_eq e
      simp only [Bool.and_eq_true] at h
      obtain ⟨h1, h2, h3⟩ := h
      split at h1
      · rename_i nm e2
        obtain ⟨p2, rfl⟩ := asName_eq e2
        rw [Bool.and_eq_true] at h1
        obtain ⟨kvs, hd⟩ := kdB_of h1.1
        obtain ⟨h5, h6⟩ := c.gl h1.2
        refine tE_eq ?_ (s_gkd h5 h6 (c.kds i nm kvs hd) (soundE a c h3) h2)
        intro env st; rw [ev]; try rfl
      · cases h1
    · cases h
  | .ixl ys a, X, sc, x, c, h => by
    rw [chkE] at h
    split at h
    · rename_i o nm ln y e
      obtain ⟨ap, cp, rfl, hl⟩ := asMeth_eq e
      simp only [Bool.and_eq_true, decide_eq_true_eq] at h
      obtain ⟨⟨rfl, h1, h2⟩, h3, h4, h5⟩ := h
      split at h3
      · rename_i l e2
        obtain ⟨kk, pp, rfl⟩ := asTup_eq e2
        simp only [Bool.and_eq_true, decide_eq_true_eq] at h3
        refine tE_eq ?_ (s_ixl h3.1 h3.2 h4 (soundE a c h5) h2 (hl.trans h1))
        intro env st; rw [ev]; try rfl
      · cases h3
    · cases h
  | .bin op a b, X, sc, x, c, h => by
    rw [chkE] at h
    split at h
    · rename_i y o z e
      obtain ⟨p, rfl⟩ := asBin_eq e
      simp only [Bool.and_eq_true, decide_eq_true_eq] at h
      obtain ⟨rfl, h1, h2⟩ := h
      refine tE_eq ?_ (s_bin (soundE a c h1) (soundE b c h2))
      intro env st; rw [ev]; try rfl
    · cases h
  | .neg a, X, sc, x, c, h => by
    rw [chkE] at h
    split at h
    · rename_i y e
      obtain ⟨p, rfl⟩ := asUn_eq e
      refine tE_eq ?_ (s_neg (soundE a c h))
      intro env st; rw [ev]; try rfl
    · cases h
  | .notE a, X, sc, x, c, h => by
    rw [chkE] at h
    split at h
    · rename_i y e
      obtain ⟨p, rfl⟩ := asUn_eq e
      refine tE_eq ?_ (s_not (soundE a c h))
      intro env st; rw [ev]; try rfl
    · cases h
  | .and1 a, X, sc, x, c, h => by
    rw [chkE] at h
    split at h
    · rename_i y p e
      cases asBool_eq e
      refine tE_eq ?_ (pe_one (soundE a c h))
      intro env st; rw [ev]; try rfl
    · cases h
  | .and2 a r, X, sc, x, c, h => by
    rw [chkE] at h
    split at h
    · rename_i y z l p e
      cases asBool_eq e
      rw [Bool.and_eq_true] at h
      refine tE_eq ?_ (s_and (soundE a c h.1) (soundE r c h.2))
      intro env st; rw [ev]; try rfl
    · cases h
  | .or1 a, X, sc, x, c, h => by
    rw [chkE] at h
    split at h
    · rename_i y p e
      cases asBool_eq e
      refine tE_eq ?_ (pe_one (soundE a c h))
      intro env st; rw [ev]; try rfl
    · cases h
  | .or2 a r, X, sc, x, c, h => by
    rw [chkE] at h
    split at h
    · rename_i y z l p e
      cases asBool_eq e
      rw [Bool.and_eq_true] at h
      refine tE_eq ?_ (s_or (soundE a c h.1) (soundE r c h.2))
      intro env st; rw [ev]; try rfl
    · cases h
  | .cmp op a b, X, sc, x, c, h => by
    rw [chkE] at h
    split at h
    · rename_i y o z e
      obtain ⟨p, rfl⟩ := asCmp_eq e
      simp only [Bool.and_eq_true, decide_eq_true_eq] at h
      obtain ⟨rfl, h0, h1, h2⟩ := h
      refine tE_eq ?_ (s_cmp c.fit (soundE a c h1) (soundE b c h2) h0)
      intro env st; rw [ev]; try rfl
    · cases h
  | .cmp2 op op' a b d, X, sc, x, c, h => by
    rw [chkE] at h
    split at h
    · rename_i y o o' z w e
      obtain ⟨p, rfl⟩ := asCmp_eq e
      simp only [Bool.and_eq_true, decide_eq_true_eq] at h
      obtain ⟨⟨rfl, rfl⟩, h0, h1, h2, h3⟩ := h
      refine tE_eq ?_ (s_cmp2 c.fit (soundE a c h1) (soundE b c h2) (soundE d c h3) h0)
      intro env st; rw [ev]; try rfl
    · cases h
  | .ife t a b, X, sc, x, c, h => by
    rw [chkE] at h
    split at h
    · rename_i y z w e
      obtain ⟨p, rfl⟩ := asIf_eq e
      simp only [Bool.and_eq_true] at h
      refine tE_eq ?_ (s_ife (soundT t c h.1).1 (soundE a c h.2.1) (soundE b c h.2.2))
      intro env st; rw [ev]; try rfl
    · cases h
  | .ent ts, X, sc, x, c, h => by
    rw [chkE] at h
    split at h
    · rename_i l e
      obtain ⟨_, p, rfl⟩ := asTup_eq e
      rw [Bool.and_eq_true, decide_eq_true_eq] at h
      refine tE_eq ?_ (s_ent h.1 h.2)
      intro env st; rw [ev]; try rfl
    · cases h
  | .ixm o a, X, sc, x, c, h => by
    rw [chkE] at h
    split at h
    · rename_i y nm ln z e
      obtain ⟨ap, cp, rfl, hl⟩ := asMeth_eq e
      simp only [Bool.and_eq_true, decide_eq_true_eq] at h
      obtain ⟨⟨rfl, h1, h2⟩, h3, h4, h5⟩ := h
      refine tE_eq ?_ (s_ixm (soundE o c h3) h4 (soundE a c h5) h2 (hl.trans h1))
      intro env st; rw [ev]; try rfl
    · cases h
  | .stup fs es, X, sc, x, c, h => by
    rw [chkE] at h
    split at h
    · rename_i l e
      obtain ⟨_, p, rfl⟩ := asTup_eq e
      refine tE_eq ?_ (s_tup (soundSt fs es c h).pa)
      intro env st; rw [ev]; try rfl
    · cases h
  | .tup es, X, sc, x, c, h => by
    rw [chkE] at h
    split at h
    · rename_i l e
      obtain ⟨_, p, rfl⟩ := asTup_eq e
      refine tE_eq ?_ (s_tup (soundEs es c h).pa)
      intro env st; rw [ev]; try rfl
    · cases h
  | .lst es, X, sc, x, c, h => by
    rw [chkE] at h
    split at h
    · rename_i l e
      obtain ⟨p, rfl⟩ := asLst_eq e
      refine tE_eq ?_ (s_lst (soundEs es c h).pa)
      intro env st; rw [ev]; try rfl
    · cases h
  | .dic ks es, X, sc, x, c, h => by
    rw [chkE] at h
    split at h
    · rename_i kl vl e
      obtain ⟨p, rfl⟩ := asDic_eq e
      simp only [Bool.and_eq_true, decide_eq_true_eq] at h
      obtain ⟨⟨h1, h2, h3⟩, h4⟩ := h
      cases kl with
      | nil =>
        cases ks with
        | nil =>
          cases vl with
          | nil =>
            refine tE_eq ?_ (s_dic0 (soundEs es c h4))
            intro env st; rw [ev]; try rfl
          | cons _ _ => cases h2
        | cons _ _ => cases h1
      | cons k kl =>
        refine tE_eq ?_ (s_dic h1 h2 h3 (soundEs es c h4) (by simp))
        intro env st; rw [ev]; try rfl
    · cases h
  | .call f es, X, sc, x, c, h => by
    rw [chkE] at h
    split at h
    · rename_i y l e
      obtain ⟨p, pos, rfl⟩ := asCall_eq e
      simp only [Bool.and_eq_true] at h
      obtain ⟨⟨h1, h2⟩, h3⟩ := h
      obtain ⟨ps, h4, h5⟩ := fnB_of h1
      obtain ⟨fa, fd, h6⟩ := c.fns f y ps h4
      obtain ⟨h7, h8⟩ := c.gl h2
      refine tE_eq ?_ (s_call h6 c.fit c.room h7 h8 (soundEs es c h3) h5)
      intro env st; rw [ev]; try rfl
    · cases h
  | .callK f es ks g, X, sc, x, c, h => by
    rw [chkE] at h
    split at h
    · rename_i y l k0 kl e
      obtain ⟨p, pos, rfl⟩ := asCall_eq e
      simp only [Bool.and_eq_true] at h
      obtain ⟨⟨h1, h2⟩, h3, h9⟩ := h
      obtain ⟨ps, h4, h5, h10, h11⟩ := kwB_of h1
      obtain ⟨fa, fd, h6⟩ := c.fns f y ps h4
      obtain ⟨h7, h8⟩ := c.gl h2
      refine tE_eq ?_ (s_callK h6 c.fit c.room h7 h8 (soundEs es c h3) (soundEs ks c h9) h10 h11 h5)
      intro env st; rw [ev]; try rfl
    · cases h
  | .blt b es, X, sc, x, c, h => by
    rw [chkE] at h
    split at h
    · rename_i l hl
      refine tE_eq ?_ (blt_of c hl (soundEs es c h))
      intro env st; rw [ev]; try rfl
    · cases h
  | .meth m o es, X, sc, x, c, h => by
    rw [chkE] at h
    split at h
    · rename_i y nm ln args e
      obtain ⟨ap, cp, rfl, hl⟩ := asMeth_eq e
      simp only [Bool.and_eq_true, decide_eq_true_eq] at h
      obtain ⟨⟨rfl, h1, h2, h3⟩, h4, h5⟩ := h
      refine tE_eq ?_ (s_meth (soundE o c h4) (soundEs es c h5) h2 (hl.trans h1) h3)
      intro env st; rw [ev]; try rfl
    · cases h
  | .smeth m o es, X, sc, x, c, h => by
    rw [chkE] at h
    split at h
    · rename_i y nm ln args e
      obtain ⟨ap, cp, rfl, hl⟩ := asMeth_eq e
      simp only [Bool.and_eq_true, decide_eq_true_eq] at h
      obtain ⟨⟨rfl, h1, h2, h3⟩, h4, h5⟩ := h
      refine tE_eq ?_ (s_smeth (soundE o c h4) (soundEs es c h5) h2 (hl.trans h1) h3)
      intro env st; rw [ev]; try rfl
    · cases h
  | .idx a b, X, sc, x, c, h => by
    rw [chkE] at h
    split at h
    · rename_i y z e
      obtain ⟨p, rfl⟩ := asSub_eq e
      simp only [Bool.and_eq_true] at h
      refine tE_eq ?_ (s_idx c.fit (soundE a c h.2.1) (soundE b c h.2.2) h.1)
      intro env st; rw [ev]; try rfl
    · cases h
  | .sl a lo hi, X, sc, x, c, h => by
    have hlo := fun y hy => soundE (X := X) (sc := sc) (x := y) lo c hy
    have hhi := fun y hy => soundE (X := X) (sc := sc) (x := y) hi c hy
    rw [chkE] at h
    split at h
    · rename_i y z e
      obtain ⟨p, rfl⟩ := asSub_eq e
      split at h
      · rename_i l u e2
        obtain ⟨p2, rfl⟩ := asSlice_eq e2
        simp only [Bool.and_eq_true] at h
        obtain ⟨h1, h2, h3⟩ := h
        have part : ∀ (o : Option Expr) (w : E), (∀ y, chkE B N w sc y = true → L2.PE X y (tE X.K (ev F G w))) → (match o with | some l => chkE B N w sc l | none => isN w) = true → PO X o (tPartA (tE X.K (ev F G w))) := by
          intro o w hw hh
          cases o with
          | some l => exact po_any (hw l hh)
          | none =>
            cases w <;> first | cases hh | skip
            have e : ev F G .cN = fun _ st => Res.ok D.non st := by funext env st; rw [ev]
            rw [e]; exact s_noPart
        refine tE_eq ?_ (s_sl (soundE a c h1) (part l lo hlo h2) (part u hi hhi h3))
        intro env st; rw [ev]; try rfl
      · cases h
    · cases h
  | .rev a, X, sc, x, c, h => by
    rw [chkE] at h
    split at h
    · rename_i y e
      obtain ⟨_, _, _, _, _, rfl⟩ := asRev_eq e
      refine tE_eq ?_ (s_rev (soundE a c h))
      intro env st; rw [ev]; try rfl
    · cases h
  | .lc own elt t kk es t', X, sc, x, c, h => by
    have ht := fun (X : Cx) sc x (c : Ctx B F G N sc k X) hh => soundT (X := X) (sc := sc) (x := x) t' c hh
    rw [chkE] at h
    split at h
    · rename_i y tg it ifs sc' e
      obtain ⟨p, rfl⟩ := asLc_eq e
      simp only [Bool.and_eq_true] at h
      obtain ⟨⟨h1, h2, h3⟩, h4, h5, h6, h7⟩ := h
      have hown : (own.map fun j => (N.getD j "", j)).map (·.2) = own := by
        rw [List.map_map]
        exact List.map_id' _
      have hts : ∀ (s : Shared) (H : Hp) (C : Addr) (cl : List (Str × Addr)) (fp : List Addr), PTs (X.blk s H sc' (compEnvC sc' cl C X.env) fp) ifs (tT X.K (evT F G t')) := by
        intro s H C cl fp
        split at h6
        · cases t' <;> first | cases h6 | skip
          have e : evT F G .yes = fun _ st => Res.ok true st := by funext env st; rw [evT]
          rw [e]; exact pts_yes
        · exact pts_one (ht _ _ _ (c.blk sc' s H C cl fp) h6).1
        · cases h6
      have hit : PI X tg it (tI X.K kk (evs F G es)) := by
        split at h4
        · rename_i l hl; exact it_of c hl (soundEs es c h4)
        · cases h4
      refine tE_eq ?_ (s_lc (own := own.map fun j => (N.getD j "", j)) (k := kk) (t := t) c.fit (by rw [c.hN]; exact c.nd) (by rw [hown]; exact h2) hit (c.blkOk (blkOk_by h1))
        (fun s H C cl fp => soundTg t (c.blk sc' s H C cl fp) h5) hts (fun s H C cl fp => soundE elt (c.blk sc' s H C cl fp) h7) h3)
      intro env st; rw [ev, hown]; try rfl
    · cases h
theorem soundEs : ∀ (es : Es) {X : Cx} {sc : Scope} {l : List Expr}, Ctx B F G N sc k X → chkEs B N es sc l = true → PAll F G X es l
  | .nil, X, sc, [], c, h => True.intro
  | .nil, X, sc, _ :: _, c, h => by rw [chkEs] at h <;> first | cases h | simp
  | .cons e es, X, sc, [], c, h => by rw [chkEs] at h <;> first | cases h | simp
  | .cons e es, X, sc, x :: l, c, h => by
    rw [chkEs] at h
    simp only [Bool.and_eq_true] at h
    exact ⟨h.1, soundE e c h.2.1, soundEs es c h.2.2⟩
theorem soundSt : ∀ (fs : List Bool) (es : Es) {X : Cx} {sc : Scope} {l : List Expr}, Ctx B F G N sc k X → chkSt B N fs es sc l = true → PSt F G X fs es l
  | [], .nil, X, sc, [], c, h => True.intro
  | true :: fs, .cons e es, X, sc, x :: l, c, h => by
    rw [chkSt] at h
    rw [Bool.and_eq_true] at h
    obtain ⟨h1, h2⟩ := h
    split at h1
    · rename_i y hy
      exact ⟨⟨y, hy, soundE e c h1⟩, soundSt fs es c h2⟩
    · cases h1
  | false :: fs, .cons e es, X, sc, x :: l, c, h => by
    rw [chkSt] at h
    simp only [Bool.and_eq_true] at h
    exact ⟨h.1, soundE e c h.2.1, soundSt fs es c h.2.2⟩
  | [], .nil, X, sc, _ :: _, c, h => by rw [chkSt] at h <;> first | cases h | simp
  | [], .cons _ _, X, sc, _, c, h => by rw [chkSt] at h <;> first | cases h | simp
  | true :: _, .nil, X, sc, _, c, h => by rw [chkSt] at h <;> first | cases h | simp
  | false :: _, .nil, X, sc, _, c, h => by rw [chkSt] at h <;> first | cases h | simp
  | true :: _, .cons _ _, X, sc, [], c, h => by rw [chkSt] at h <;> first | cases h | simp
  | false :: _, .cons _ _, X, sc, [], c, h => by rw [chkSt] at h <;> first | cases h | simp
theorem soundT : ∀ (t : T) {X : Cx} {sc : Scope} {x : Expr}, Ctx B F G N sc k X → chkT B N t sc x = true → PTW X x (evT F G t)
  | .val a, X, sc, x, c, h => by
    rw [chkT, Bool.and_eq_true] at h
    refine ptw_pt (tT_eq ?_ (s_tval (soundE a c h.2) h.1)) (plainT_bool h.1)
    intro env st; rw [evT]; try rfl
  | .vc op a b, X, sc, x, c, h => by
    rw [chkT] at h
    split at h
    · rename_i y o z e
      obtain ⟨p, rfl⟩ := asCmp_eq e
      simp only [Bool.and_eq_true, decide_eq_true_eq] at h
      obtain ⟨rfl, h0, h1, h2⟩ := h
      refine ptw_pt (tT_eq ?_ (s_tcmp c.fit (soundE a c h1) (soundE b c h2) h0)) (by intro _ _ _ z; cases z)
      intro env st; rw [evT]; try rfl
    · cases h
  | .vc2 op op' a b d, X, sc, x, c, h => by
    rw [chkT] at h
    split at h
    · rename_i y o o' z w e
      obtain ⟨p, rfl⟩ := asCmp_eq e
      simp only [Bool.and_eq_true, decide_eq_true_eq] at h
      obtain ⟨⟨rfl, rfl⟩, h0, h1, h2, h3⟩ := h
      refine ptw_pt (tT_eq ?_ (s_tcmp2 c.fit (soundE a c h1) (soundE b c h2) (soundE d c h3) h0)) (by intro _ _ _ z; cases z)
      intro env st; rw [evT]; try rfl
    · cases h
  | .not t, X, sc, x, c, h => by
    rw [chkT] at h
    split at h
    · rename_i y e
      obtain ⟨p, rfl⟩ := asUn_eq e
      refine ptw_pt (tT_eq ?_ (s_tnot (soundT t c h).1)) (by intro _ _ _ z; cases z)
      intro env st; rw [evT]; try rfl
    · cases h
  | .and1 a, X, sc, x, c, h => by
    rw [chkT] at h
    split at h
    · rename_i y p e
      cases asBool_eq e
      refine ptw_pw (tW_eq ?_ (pw_and1 (soundT a c h).1))
      intro env st; rw [evT]; try rfl
    · cases h
  | .and2 a r, X, sc, x, c, h => by
    rw [chkT] at h
    split at h
    · rename_i y z l p e
      cases asBool_eq e
      rw [Bool.and_eq_true] at h
      refine ptw_pw (tW_eq ?_ (s_tand (soundT a c h.1).1 ((soundT r c h.2).2 _ _ _ rfl)))
      intro env st; rw [evT]; try rfl
    · cases h
  | .or1 a, X, sc, x, c, h => by
    rw [chkT] at h
    split at h
    · rename_i y p e
      cases asBool_eq e
      refine ptw_pw (tW_eq ?_ (pw_or1 (soundT a c h).1))
      intro env st; rw [evT]; try rfl
    · cases h
  | .or2 a r, X, sc, x, c, h => by
    rw [chkT] at h
    split at h
    · rename_i y z l p e
      cases asBool_eq e
      rw [Bool.and_eq_true] at h
      refine ptw_pw (tW_eq ?_ (s_tor (soundT a c h.1).1 ((soundT r c h.2).2 _ _ _ rfl)))
      intro env st; rw [evT]; try rfl
    · cases h
  | .yes, X, sc, x, c, h => by rw [chkT] at h; cases h
theorem soundTg : ∀ (t : Tg) {X : Cx} {sc : Scope} {x : Expr}, Ctx B F G N sc k X → chkTg B N t sc x = true → PG X x (tG X.K (tgOwn t) (asg F G t))
  | .name i, X, sc, x, c, h => by
    rw [chkTg] at h
    split at h
    · rename_i y e
      obtain ⟨p, rfl⟩ := asName_eq e
      simp only [Bool.and_eq_true, decide_eq_true_eq] at h
      obtain ⟨h1, h2⟩ := c.loc h.2
      refine tG_eq ?_ (s_name (i := i) (by rw [c.hN]; exact c.nd) (by rw [c.hN]; exact h.1) h1 h2)
      intro d env st; rw [asg]; try rfl
    · cases h
  | .tup ts, X, sc, x, c, h => by
    rw [chkTg] at h
    split at h
    · rename_i l e
      obtain ⟨_, p, rfl⟩ := asTup_eq e
      refine tG_eq ?_ (s_tgtup c.fit (soundTgs ts c h))
      intro d env st; rw [asg]; try rfl
    · cases h
  | .sub o i, X, sc, x, c, h => by
    rw [chkTg] at h
    split at h
    · rename_i y z e
      obtain ⟨p, rfl⟩ := asSub_eq e
      simp only [Bool.and_eq_true] at h
      refine tG_eq ?_ (s_tgsub c.fit (soundE o c h.2.1) (soundE i c h.2.2) h.1)
      intro d env st; rw [asg]; try rfl
    · cases h
theorem soundTgs : ∀ (ts : Tgs) {X : Cx} {sc : Scope} {l : List Expr}, Ctx B F G N sc k X → chkTgs B N ts sc l = true → PGAll F G X ts l
  | .nil, X, sc, [], c, h => True.intro
  | .nil, X, sc, _ :: _, c, h => by rw [chkTgs] at h <;> first | cases h | simp
  | .cons e es, X, sc, [], c, h => by rw [chkTgs] at h <;> first | cases h | simp
  | .cons e es, X, sc, x :: l, c, h => by
    rw [chkTgs] at h
    simp only [Bool.and_eq_true] at h
    exact ⟨h.1, soundTg e c h.2.1, soundTgs es c h.2.2⟩
end
end
end PL

set_option Elab.async false
set_option linter.all false
set_option maxRecDepth 100000
set_option maxHeartbeats 4000000
/-! PLM: statements. -/
namespace PL
open PySem PySem.Spec PyProof.Rows L2

/-- what follows a statement -/
def OutP (K : PySem.W.Frag) (D : Ends) : Out → List Addr → Hp → Prop
  | .next env, as, H => ∀ σ, REnv K as H env σ → D.nx σ H
  | .brk env, as, H => ∀ σ, REnv K as H env σ → D.bk σ H
  | .cnt env, as, H => ∀ σ, REnv K as H env σ → D.ct σ H
  | .ret d, as, H => ∀ v, RV K as H d v → D.rt v H
def tS (K : PySem.W.Frag) (m : Env → Sto → Res Out) : TS := fun D σ H => ∃ as st env, Rel K as st H ∧ REnv K as H env σ ∧ Good K (OutP K D) as H (m env st)
theorem ps_imp {X : Cx} {st : Stmt} {t t' : TS} (h : PS X st t) (f : ∀ D σ H, t' D σ H → t D σ H) : PS X st t' := ⟨fun pins s σ H D I q => h.run pins s σ H D I (f D σ H q)⟩
theorem pss_imp {X : Cx} {st : List Stmt} {t t' : TS} (h : PSs X st t) (f : ∀ D σ H, t' D σ H → t D σ H) : PSs X st t' := ⟨fun pins s σ H D I q => h.run pins s σ H D I (f D σ H q)⟩

/-! ### shapes -/
def asAssign : Stmt → Option (Expr × Expr × Nat) | .Assign [t] e p => some (t, e, p.line) | _ => none
def asExpr : Stmt → Option Expr | .Expr e _ => some e | _ => none
def asRet : Stmt → Option Expr | .Return (some e) _ => some e | _ => none
def asRetN : Stmt → Bool | .Return none _ => true | _ => false
def asIfS : Stmt → Option (Expr × List Stmt × List Stmt) | .If c a b _ => some (c, a, b) | _ => none
def asFor : Stmt → Option (Expr × Expr × List Stmt) | .For t i b [] _ => some (t, i, b) | _ => none
def asWhl : Stmt → Option (Expr × List Stmt) | .While c b [] _ => some (c, b) | _ => none
def isBrk : Stmt → Bool | .Break _ => true | _ => false
def isCnt : Stmt → Bool | .Continue _ => true | _ => false
def isPass : Stmt → Bool | .Pass _ => true | _ => false
theorem asAssign_eq {st : Stmt} {t e : Expr} {l : Nat} (h : asAssign st = some (t, e, l)) : ∃ p, st = .Assign [t] e p ∧ p.line = l := by
  unfold asAssign at h; split at h
  · cases h; exact ⟨_, rfl, rfl⟩
  · cases h
theorem asExpr_eq {st : Stmt} {e : Expr} (h : asExpr st = some e) : ∃ p, st = .Expr e p := by cases st <;> simp [asExpr] at h; exact ⟨_, by rw [h]⟩
theorem asRet_eq {st : Stmt} {e : Expr} (h : asRet st = some e) : ∃ p, st = .Return (some e) p := by
  unfold asRet at h; split at h
  · cases h; exact ⟨_, rfl⟩
  · cases h
theorem asRetN_eq {st : Stmt} (h : asRetN st = true) : ∃ p, st = .Return none p := by
  unfold asRetN at h; split at h
  · exact ⟨_, rfl⟩
  · cases h
theorem asIfS_eq {st : Stmt} {c : Expr} {a b : List Stmt} (h : asIfS st = some (c, a, b)) : ∃ p, st = .If c a b p := by cases st <;> simp [asIfS] at h; obtain ⟨rfl, rfl, rfl⟩ := h; exact ⟨_, rfl⟩
theorem asFor_eq {st : Stmt} {t i : Expr} {b : List Stmt} (h : asFor st = some (t, i, b)) : ∃ p, st = .For t i b [] p := by
  unfold asFor at h; split at h
  · cases h; exact ⟨_, rfl⟩
  · cases h
theorem asWhl_eq {st : Stmt} {c : Expr} {b : List Stmt} (h : asWhl st = some (c, b)) : ∃ p, st = .While c b [] p := by
  unfold asWhl at h; split at h
  · cases h; exact ⟨_, rfl⟩
  · cases h
theorem isBrk_eq {st : Stmt} (h : isBrk st = true) : ∃ p, st = .Break p := by cases st <;> first | exact ⟨_, rfl⟩ | cases h
theorem isCnt_eq {st : Stmt} (h : isCnt st = true) : ∃ p, st = .Continue p := by cases st <;> first | exact ⟨_, rfl⟩ | cases h
theorem isPass_eq {st : Stmt} (h : isPass st = true) : ∃ p, st = .Pass p := by cases st <;> first | exact ⟨_, rfl⟩ | cases h

/-! ### stores that are swapped -/
/-- the names when stores are swapped; none: the model does not tell -/
def swp (sc : Scope) (tg value : Expr) : Option (Option (List Str)) := match tg, value with
  | .Tuple ts _ _, .Tuple vs _ _ =>
    if (!(ts.length == 2 || ts.length == 3) || vs.length != ts.length) = true then some none
    else if (vs.any fun | .Starred .. => true | _ => false) = true then some none
    else
      let line := (ts.head?.map (·.pos.line)).getD 0
      let names := ts.filterMap fun
        | .Name id pos => if (sc.names.lookup id == some .local && pos.line == line) = true then some id else none
        | _ => none
      if (names.length != ts.length || names.eraseDups.length != names.length) = true then some none
      else if vs.all (foldedForSure 8) = true then some none
      else if vs.all (constantsAlone 8) = true then none
      else some (some names)
  | .List _ _, _ => none
  | _, _ => some none
theorem blockK {env : PySem.Env} (hk : env.scope.kind = .function) : env.blockKind = .function := by unfold PySem.Env.blockKind; rw [hk]; rfl
theorem swp_eq {sc : Scope} {tg value : Expr} {r : Option (List Str)} {env : PySem.Env} (hs : env.scope = sc) (hk : sc.kind = .function) (h : swp sc tg value = some r) : swappedStores [tg] value env = pure r := by
  subst hs
  have hb := blockK hk
  unfold swp at h
  split at h
  · rename_i ts k p vs k' p'
    unfold swappedStores
    simp only [hb, pure_bind]
    have hkk : ∀ id, env.kindOf id = env.scope.names.lookup id := fun _ => rfl
    have hff : (ScopeKind.function != ScopeKind.function) = false := rfl
    simp only [hkk, hff, Bool.or_false]
    simp only [] at h
    split at h
    · rename_i c1; cases h; exact if_pos c1
    · rename_i c1
      refine (if_neg c1).trans ?_
      split at h
      · rename_i c2; cases h; exact if_pos c2
      · rename_i c2
        refine (if_neg c2).trans ?_
        split at h
        · rename_i c3; cases h; exact if_pos c3
        · rename_i c3
          refine (if_neg c3).trans ?_
          split at h
          · rename_i c4; cases h; exact if_pos c4
          · rename_i c4
            refine (if_neg c4).trans ?_
            split at h
            · cases h
            · rename_i c5
              cases h; exact (if_neg c5).trans rfl
  · cases h
  · rename_i h1 h2
    cases h
    unfold swappedStores
    split
    · rename_i e
      split at e
      · rename_i e1; injection e1 with e3; exact (h2 _ _ _ _ _ _ e3 rfl).elim
      · rename_i e1; injection e1 with e3; exact (h1 _ _ e3).elim
      · cases e
    · rfl
/-- whether the comprehension's store is swapped -/
def swB (sc : Scope) (tg value : Expr) : Option Bool := match value with
  | .ListComp _ _ s pos => (match tg with
    | .Name t p => some ((match sc.names.lookup t with | some .local => true | _ => false) && (p.line == pos.line && !(s.names.any fun (n, k) => n == t && (k == .local || k == .cell))))
    | _ => some false)
  | .SetComp _ _ _ _ => none
  | .DictComp _ _ _ _ _ => none
  | _ => some false
theorem swB_false {sc : Scope} {tg value : Expr} {env : PySem.Env} {l : Nat} (hs : env.scope = sc) (hk : sc.kind = .function) (h : swB sc tg value = some false) : swapsWithSole [tg] value l env = pure false := by
  subst hs
  have hb := blockK hk
  have hkk : ∀ id, env.kindOf id = env.scope.names.lookup id := fun _ => rfl
  show swapsWith value (some tg) l env = pure false
  unfold swB at h
  split at h
  · rename_i s pos
    split at h
    · rename_i t p
      have h : ((match env.scope.names.lookup t with | some .local => true | _ => false) && (p.line == pos.line && !(s.names.any fun (n, k) => n == t && (k == .local || k == .cell)))) = false := by simpa using h
      unfold swapsWith
      simp only [hb, hkk, Expr.pos]
      show pure _ = pure false
      congr 1
      cases q : List.lookup t env.scope.names with
      | none => rfl
      | some k =>
        rw [q] at h
        cases k <;> first | rfl | skip
        simpa [Bool.and_assoc] using h
    · unfold swapsWith
      rename_i hn
      cases tg <;> first | rfl | exact (hn _ _ rfl).elim
  · cases h
  · cases h
  · unfold swapsWith
    cases value <;> first | rfl | (rename_i h1 h2 h3; first | exact (h1 _ _ _ _ rfl).elim | exact (h2 _ _ _ _ rfl).elim | exact (h3 _ _ _ _ _ rfl).elim)
theorem swB_true {sc : Scope} {tg value : Expr} {env : PySem.Env} {l : Nat} (hs : env.scope = sc) (hk : sc.kind = .function) (h : swB sc tg value = some true) : ∃ y p, tg = .Name y p ∧ sc.names.lookup y = some .local ∧ swapsWith value (some tg) l env = pure true := by
  subst hs
  have hb := blockK hk
  have hkk : ∀ id, env.kindOf id = env.scope.names.lookup id := fun _ => rfl
  unfold swB at h
  split at h
  · rename_i s pos
    split at h
    · rename_i t p
      have h : ((match env.scope.names.lookup t with | some .local => true | _ => false) && (p.line == pos.line && !(s.names.any fun (n, k) => n == t && (k == .local || k == .cell)))) = true := by simpa using h
      rw [Bool.and_eq_true] at h
      have hl : env.scope.names.lookup t = some .local := by
        have h1 := h.1
        split at h1
        · assumption
        · cases h1
      refine ⟨t, p, rfl, hl, ?_⟩
      unfold swapsWith
      simp only [hb, hkk, Expr.pos, hl]
      show pure _ = pure true
      congr 1
      simpa using h.2
    · cases h
  · cases h
  · cases h
  · cases h
end PL

set_option Elab.async false
set_option linter.all false
set_option maxRecDepth 100000
set_option maxHeartbeats 4000000
/-! PLN: every statement that passes the look does what the small language says. -/
namespace PL
open PySem PySem.Spec PyProof.Rows L2

section
variable {F : Nat → List D → Sto → Res D} {G : Nat → Option D} {X : Cx}
variable {me : Env → Sto → Res D}
theorem s_asg {e tg : Expr} {p : Pos} {ow : List Nat → Bool} {mt : D → Env → Sto → Res Env} (he : L2.PE X e (tE X.K me)) (hg : PG X tg (tG X.K ow mt)) (hs : swapsWithSole [tg] e p.line X.env = pure false) (hw : swappedStores [tg] e X.env = pure none) (hn : noStar tg = true) :
    PS X (.Assign [tg] e p) (tS X.K fun env st => (me env st).bind fun d st1 => (mt d env st1).bind fun env1 st2 => .ok (.next env1) st2) :=
  ps_imp (ps_asg he hg hs hw (by rw [assign_cons hn]; rfl)) fun D σ H ⟨as, st, env, rel, re, g⟩ => tE_mono (one_of rel re g) fun v H1 ⟨as1, st1, d, e1, r1, re1, rv, g1⟩ =>
    ⟨as1, st1, env, d, r1, re1, rv, g1.bind.imp fun env1 as2 H2 e2 ⟨st2, _, r2, g2⟩ σ' re' _ => g2.here r2 σ' re'⟩
theorem s_par2 {es : Es} {i j : Nat} {x y : Str} {a b : Expr} {px py pt pos : Pos} {kt k2 : Nat} {pt2 : Pos} (fx : Fit X) (hN : X.N.Nodup) (hi : X.N[i]? = some x) (hj : X.N[j]? = some y) (hij : i ≠ j)
    (hx : X.env.scope.names.lookup x = some .local) (hy : X.env.scope.names.lookup y = some .local) (ha : PAll F G X es [a, b])
    (hw : swappedStores [.Tuple [.Name x px, .Name y py] kt pt] (.Tuple [a, b] k2 pt2) X.env = pure (some [x, y])) :
    PS X (.Assign [.Tuple [.Name x px, .Name y py] kt pt] (.Tuple [a, b] k2 pt2) pos) (tS X.K fun env st => (evs F G es env st).bind fun ds st1 => if ds.length = [i, j].length then .ok (.next (setAll env [i, j] ds)) st1 else .bad) :=
  ps_imp (ps_par fx.hc hN hi hj hij hx hy ha.pa hw rfl) fun D σ H ⟨as, st, env, rel, re, g⟩ => tA_mono (evs_of rel re g) fun vs H1 ⟨as1, st1, ds, e1, r1, re1, rvs, hl, g1⟩ => by
    match ds, hl.trans ha.len.symm with
    | [d, d'], _ =>
      obtain ⟨v, w, rfl, r2, r3⟩ := rvs_two rvs
      exact ⟨v, w, rfl, g1.here r1 _ ((re1.set r2 i).set r3 j)⟩
theorem s_par3 {es : Es} {i j l : Nat} {x y z : Str} {a b c : Expr} {px py pz pt pos : Pos} {kt k2 : Nat} {pt2 : Pos} (fx : Fit X) (hN : X.N.Nodup) (hi : X.N[i]? = some x) (hj : X.N[j]? = some y) (hl : X.N[l]? = some z) (hij : i ≠ j) (hil : i ≠ l) (hjl : j ≠ l)
    (hx : X.env.scope.names.lookup x = some .local) (hy : X.env.scope.names.lookup y = some .local) (hz : X.env.scope.names.lookup z = some .local) (ha : PAll F G X es [a, b, c])
    (hw : swappedStores [.Tuple [.Name x px, .Name y py, .Name z pz] kt pt] (.Tuple [a, b, c] k2 pt2) X.env = pure (some [x, y, z])) :
    PS X (.Assign [.Tuple [.Name x px, .Name y py, .Name z pz] kt pt] (.Tuple [a, b, c] k2 pt2) pos) (tS X.K fun env st => (evs F G es env st).bind fun ds st1 => if ds.length = [i, j, l].length then .ok (.next (setAll env [i, j, l] ds)) st1 else .bad) :=
  ps_imp (ps_par3 fx.hc hN hi hj hl hij hil hjl hx hy hz ha.pa hw rfl) fun D σ H ⟨as, st, env, rel, re, g⟩ => tA_mono (evs_of rel re g) fun vs H1 ⟨as1, st1, ds, e1, r1, re1, rvs, hl, g1⟩ => by
    match ds, hl.trans ha.len.symm with
    | [d, d', d''], _ =>
      obtain ⟨v, ws, rfl, r2, r3⟩ := rvs
      obtain ⟨w, u, rfl, r4, r5⟩ := rvs_two r3
      exact ⟨v, w, u, rfl, g1.here r1 _ (((re1.set r2 i).set r4 j).set r5 l)⟩
theorem s_exp {e : Expr} {p : Pos} (he : L2.PE X e (tE X.K me)) (hn : noComp e = true) : PS X (.Expr e p) (tS X.K fun env st => (me env st).bind fun _ st1 => .ok (.next env) st1) :=
  ps_imp (ps_expr he (noComp_sw hn _ _ _)) fun D σ H ⟨as, st, env, rel, re, g⟩ => tE_mono (one_of rel re g) fun v H1 ⟨as1, st1, d, e1, r1, re1, rv, g1⟩ => g1.here r1 σ re1
theorem s_ret {e : Expr} {p : Pos} (he : L2.PE X e (tE X.K me)) : PS X (.Return (some e) p) (tS X.K fun env st => (me env st).bind fun d st1 => .ok (.ret d) st1) :=
  ps_imp (ps_ret he) fun D σ H ⟨as, st, env, rel, re, g⟩ => tE_mono (one_of rel re g) fun v H1 ⟨as1, st1, d, e1, r1, re1, rv, g1⟩ => g1.here r1 v rv
theorem s_retN {p : Pos} : PS X (.Return none p) (tS X.K fun env st => .ok (.ret .non) st) :=
  ps_imp ps_retN fun D σ H ⟨as, st, env, rel, re, g⟩ => g.here rel _ rfl
theorem s_ite {c : Expr} {a b : List Stmt} {p : Pos} {mc : Env → Sto → Res Bool} {ma mb : Env → Sto → Res Out} (hc : L2.PT X c (tT X.K mc)) (ha : PSs X a (tS X.K ma)) (hb : PSs X b (tS X.K mb)) :
    PS X (.If c a b p) (tS X.K fun env st => (mc env st).bind fun k st1 => if k then ma env st1 else mb env st1) :=
  ps_imp (ps_if hc ha hb) fun D σ H ⟨as, st, env, rel, re, g⟩ => tT_mono (test_of rel re g) fun b H1 ⟨as1, st1, e1, r1, re1, g1⟩ => by
    cases b with
    | true => rw [if_pos rfl]; exact ⟨as1, st1, env, r1, re1, g1⟩
    | false => rw [if_neg (by simp)]; exact ⟨as1, st1, env, r1, re1, g1⟩
theorem s_brk {p : Pos} : PS X (.Break p) (tS X.K fun env st => .ok (.brk env) st) := ps_imp ps_break fun D σ H ⟨as, st, env, rel, re, g⟩ => g.here rel _ re
theorem s_cnt {p : Pos} : PS X (.Continue p) (tS X.K fun env st => .ok (.cnt env) st) := ps_imp ps_continue fun D σ H ⟨as, st, env, rel, re, g⟩ => g.here rel _ re
theorem s_pass {p : Pos} : PS X (.Pass p) (tS X.K fun env st => .ok (.next env) st) := ps_imp ps_pass fun D σ H ⟨as, st, env, rel, re, g⟩ => g.here rel _ re
theorem s_never {st : Stmt} : PS X st (tS X.K fun env st => .bad) := ps_imp ps_never fun D σ H ⟨as, st, env, rel, re, g⟩ => g
theorem ss_nil : PSs X [] (tS X.K fun env st => .ok (.next env) st) := pss_imp pss_nil fun D σ H ⟨as, st, env, rel, re, g⟩ => g.here rel _ re
theorem ss_cons {s : Stmt} {l : List Stmt} {m m' : Env → Sto → Res Out} (h : PS X s (tS X.K m)) (h' : PSs X l (tS X.K m')) : PSs X (s :: l) (tS X.K fun env st => (m env st).bind fun o st1 => match o with
    | .next env1 => m' env1 st1
    | .brk env1 => .ok (.brk env1) st1
    | .cnt env1 => .ok (.cnt env1) st1
    | .ret d => .ok (.ret d) st1) :=
  pss_imp (pss_cons h h') fun D σ H ⟨as, st, env, rel, re, g⟩ => ⟨as, st, env, rel, re, g.bind.imp fun o as1 H1 e1 ⟨st1, _, r1, g1⟩ => by
    cases o with
    | next env1 => exact fun σ1 re1 => ⟨as1, st1, env1, r1, re1, g1⟩
    | brk env1 => exact g1.here r1
    | cnt env1 => exact g1.here r1
    | ret d => exact g1.here r1⟩
theorem s_for {k : ItK} {tg it : Expr} {body : List Stmt} {p : Pos} {ow : List Nat → Bool} {ms : Env → Sto → Res (List D)} {mt : D → Env → Sto → Res Env} {mb : Env → Sto → Res Out} (fx : Fit X) (hp : PassesOwn (model X.prog X.w) X.A X.env X.xe)
    (hi : PI X tg it (tI X.K k ms)) (hg : PG X tg (tG X.K ow mt)) (hb : PSs X body (tS X.K mb)) (hs : noSet it = true) :
    PS X (.For tg it body [] p) (tS X.K fun env st => (ms env st).bind fun ds st1 => match srcD k ds st1 with
      | none => .bad
      | some s => forLoop s (fun d env st => (mt d env st).bind fun env1 st1 => mb env1 st1) (s.len st1 + 1) 0 env st1) := by
  refine ps_imp (ps_for hp fx.hc hi hg hb (noSet_fold hs X.env)) fun D σ H ⟨as, st, env, rel, re, g⟩ => ?_
  have eq := src_bind (r := ms env st) (k := k) (L := fun s st1 => forLoop s (fun d env st => (mt d env st).bind fun env1 st1 => mb env1 st1) (s.len st1 + 1) 0 env st1)
  have g : Good X.K (OutP X.K D) as H (((ms env st).bind fun ds st1 => liftO (srcD k ds st1) st1).bind fun s st1 => forLoop s (fun d env st => (mt d env st).bind fun env1 st1 => mb env1 st1) (s.len st1 + 1) 0 env st1) := by rw [← eq]; exact g
  refine ⟨as, st, env, rel, re, g.bind.imp fun s as0 H0 e1 ⟨st0, _, r1, g1⟩ J hJ => ?_⟩
  refine ⟨fun i m σ' H' => ∃ as' st' env', Ext X.K as0 H0 as' H' ∧ Rel X.K as' st' H' ∧ REnv X.K as' H' env' σ' ∧ Good X.K (OutP X.K D) as' H' (forLoop s (fun d env st => (mt d env st).bind fun env1 st1 => mb env1 st1) m i env' st'),
    ⟨s.len st0 + 1, as0, st0, env, Ext.refl, r1, re.mono e1, g1⟩, ?_⟩
  rintro i m σ' H' ⟨as', st', env', e2, r2, re2, g2⟩
  cases m with
  | zero => exact g2.elim
  | succ m =>
    rw [forLoop] at g2
    split at g2
    · exact g2.elim
    · rename_i hat
      exact .inl ⟨hJ.stop as' H' st' i e2 r2 hat, g2.here r2 _ re2⟩
    · rename_i d hat
      obtain ⟨hgo, hy⟩ := hJ.go as' H' st' i d e2 r2 hat
      refine .inr ⟨hgo, _, fun σ1 H1 hN => ⟨m, Nat.lt_succ_self m, hN⟩, fun x H3 yl => ?_⟩
      obtain ⟨e3, r3, rx⟩ := hy x H3 yl
      simp only [Res.bind_assoc] at g2
      have g3 := g2.mono e3
      refine ⟨as', st', env', d, r3, re2.mono e3, rx, g3.bind.imp fun env1 as4 H4 e4 ⟨st4, _, r4, g4⟩ σ4 re4 _ => ?_⟩
      refine ⟨as4, st4, env1, r4, re4, g4.bind.imp fun o as5 H5 e5 ⟨st5, _, r5, g5⟩ => ?_⟩
      have ee := ((e2.trans e3).trans e4).trans e5
      cases o with
      | next env2 => exact fun σ5 re5 => ⟨as5, st5, env2, ee, r5, re5, g5⟩
      | cnt env2 => exact fun σ5 re5 => ⟨as5, st5, env2, ee, r5, re5, g5⟩
      | brk env2 => exact fun σ5 re5 => g5.here r5 σ5 re5
      | ret d => exact fun v rv => g5.here r5 v rv
theorem s_whl {c : Expr} {body : List Stmt} {p : Pos} {mc : Env → Sto → Res Bool} {mb : Env → Sto → Res Out} {n : Nat} (hp : PassesOwn (model X.prog X.w) X.A X.env X.xe)
    (hc : L2.PT X c (tT X.K mc)) (hb : PSs X body (tS X.K mb)) : PS X (.While c body [] p) (tS X.K fun env st => whlLoop mc mb n env st) := by
  refine ps_imp (ps_while hp hc hb) fun D σ H ⟨as, st, env, rel, re, g⟩ => ?_
  refine ⟨fun m σ' H' => ∃ as' st' env', Rel X.K as' st' H' ∧ REnv X.K as' H' env' σ' ∧ Good X.K (OutP X.K D) as' H' (whlLoop mc mb m env' st'), ⟨n, as, st, env, rel, re, g⟩, ?_⟩
  rintro m σ' H' ⟨as', st', env', r2, re2, g2⟩
  cases m with
  | zero => exact g2.elim
  | succ m =>
    rw [whlLoop] at g2
    refine tT_mono (test_of r2 re2 g2) fun b H3 ⟨as3, st3, e3, r3, re3, g3⟩ => ?_
    cases b with
    | false =>
      rw [if_neg (by simp)] at g3 ⊢
      exact g3.here r3 _ re3
    | true =>
      rw [if_pos rfl] at g3 ⊢
      refine ⟨_, fun σ1 H1 hN => ⟨m, Nat.lt_succ_self m, hN⟩, as3, st3, env', r3, re3, g3.bind.imp fun o as5 H5 e5 ⟨st5, _, r5, g5⟩ => ?_⟩
      cases o with
      | next env2 => exact fun σ5 re5 => ⟨as5, st5, env2, r5, re5, g5⟩
      | cnt env2 => exact fun σ5 re5 => ⟨as5, st5, env2, r5, re5, g5⟩
      | brk env2 => exact fun σ5 re5 => g5.here r5 σ5 re5
      | ret d => exact fun v rv => g5.here r5 v rv
end

/-! ### the look -/
section
variable (B : Tab) (N : List Str) (sc : Scope)
def locB1 (i : Nat) (x : Str) : Bool := decide (N[i]? = some x) && (match sc.names.lookup x with | some .local => true | _ => false)
def parB (is : List Nat) (tg v : Expr) : Option (List Expr) := match is, tg, v with
  | [i, j], .Tuple [.Name x _, .Name y _] _ _, .Tuple [a, b] _ _ => onlyIf ((locB1 N sc i x && locB1 N sc j y) && (decide (i ≠ j) && decide (swp sc tg v = some (some [x, y])))) [a, b]
  | [i, j, l], .Tuple [.Name x _, .Name y _, .Name z _] _ _, .Tuple [a, b, c] _ _ => onlyIf ((locB1 N sc i x && (locB1 N sc j y && locB1 N sc l z)) && ((decide (i ≠ j) && (decide (i ≠ l) && decide (j ≠ l))) && decide (swp sc tg v = some (some [x, y, z])))) [a, b, c]
  | _, _, _ => none
/-- names, one behind another -/
def tgsN : List Nat → Tgs
  | [] => .nil
  | i :: is => .cons (.name i) (tgsN is)
def nameB (i : Nat) (tg : Expr) : Bool := match asName tg with | some x => locB1 N sc i x | none => false
mutual
def chkS : S → Stmt → Bool
  | .asg t e, st => match asAssign st with
    | some (tg, v, _) => (decide (swp sc tg v = some none) && (decide (swB sc tg v = some false) && noStar tg)) && (chkTg B N t sc tg && chkE B N e sc v)
    | none => false
  | .asgC i own elt t k es c, st => match asAssign st with
    | some (tg, v, _) => (nameB N sc i tg && decide (swB sc tg v = some true)) && chkE B N (.lc own elt t k es c) sc v
    | none => false
  | .par is es, st => match asAssign st with
    | some (tg, v, _) => (match parB N sc is tg v with | some l => chkEs B N es sc l | none => false) || (decide (is.length ≤ 1000) && ((decide (swp sc tg v = some none) && (decide (swB sc tg v = some false) && noStar tg)) && (chkTg B N (.tup (tgsN is)) sc tg && chkE B N (.tup es) sc v)))
    | none => false
  | .exp e, st => match asExpr st with | some x => noComp x && chkE B N e sc x | none => false
  | .ret e, st => match asRet st with | some x => chkE B N e sc x | none => false
  | .retN, st => asRetN st
  | .ite c a b, st => match asIfS st with | some (x, p, q) => chkT B N c sc x && (chkSs a p && chkSs b q) | none => false
  | .for_ t k es body, st => match asFor st with
    | some (tg, it, b) => noSet it && ((match itA B sc k it tg with | some l => chkEs B N es sc l | none => false) && (chkTg B N t sc tg && chkSs body b))
    | none => false
  | .whl c body, st => match asWhl st with | some (x, b) => chkT B N c sc x && chkSs body b | none => false
  | .brk, st => isBrk st
  | .cnt, st => isCnt st
  | .pass, st => isPass st
  | .never, _ => true
def chkSs : Ss → List Stmt → Bool
  | .nil, [] => true
  | .cons s ss, x :: l => chkS s x && chkSs ss l
  | _, _ => false
end
end

section
variable {B : Tab} {F : Nat → List D → Sto → Res D} {G : Nat → Option D} {N : List Str} {k : Nat} {sc : Scope} {X : Cx}
structure StC (B : Tab) (F : Nat → List D → Sto → Res D) (G : Nat → Option D) (N : List Str) (sc : Scope) (k : Nat) (X : Cx) : Prop where
  cx : Ctx B F G N sc k X
  hsc : X.env.scope = sc
  hk : sc.kind = .function
  hp : PassesOwn (model X.prog X.w) X.A X.env X.xe
theorem locB1_of (c : StC B F G N sc k X) {i : Nat} {x : Str} (h : locB1 N sc i x = true) : X.N[i]? = some x ∧ X.env.scope.names.lookup x = some .local := by
  unfold locB1 at h
  rw [Bool.and_eq_true] at h
  rw [c.cx.hN, c.hsc]
  refine ⟨of_decide_eq_true h.1, ?_⟩
  have h2 := h.2
  split at h2
  · assumption
  · cases h2
theorem tS_eq {x : Stmt} {m m' : Env → Sto → Res Out} (h : ∀ env st, m' env st = m env st) (p : PS X x (tS X.K m)) : PS X x (tS X.K m') := by
  have : m' = m := by funext env st; exact h env st
  rw [this]; exact p
theorem tSs_eq {x : List Stmt} {m m' : Env → Sto → Res Out} (h : ∀ env st, m' env st = m env st) (p : PSs X x (tS X.K m)) : PSs X x (tS X.K m') := by
  have : m' = m := by funext env st; exact h env st
  rw [this]; exact p
theorem asgs_names : ∀ (is : List Nat) (ds : List D) (env : Env) (st : Sto), asgs F G (tgsN is) ds env st = if ds.length = is.length then .ok (setAll env is ds) st else .bad
  | [], [], env, st => by rw [tgsN, asgs]; rfl
  | [], d :: ds, env, st => by rw [tgsN, asgs] <;> first | (simp; done) | rfl
  | i :: is, [], env, st => by rw [tgsN, asgs] <;> first | (simp; done) | rfl
  | i :: is, d :: ds, env, st => by
    rw [tgsN, asgs, asg, Res.bind_ok, asgs_names is ds]
    by_cases h : ds.length = is.length
    · rw [if_pos h, if_pos (by simp [h])]; rfl
    · rw [if_neg h, if_neg (by simp [h])]
theorem par_tup {is : List Nat} {es : Es} (h : is.length ≤ 1000) (env : Env) (st : Sto) : ex F G (.par is es) env st = ex F G (.asg (.tup (tgsN is)) (.tup es)) env st := by
  rw [ex, ex, ev, Res.bind_assoc]
  cases evs F G es env st with
  | bad => rfl
  | exc _ _ _ => rfl
  | ok ds st1 =>
    simp only [Res.bind_ok]
    by_cases h1 : ds.length ≤ sizeLine
    · rw [if_pos h1, Res.bind_ok, asg]
      simp only [partsOf]
      rw [asgs_names]
      by_cases h2 : ds.length = is.length
      · rw [if_pos h2, if_pos h2]; rfl
      · rw [if_neg h2, if_neg h2]; rfl
    · rw [if_neg h1, if_neg (fun z => h1 (by rw [z]; exact Nat.le_trans h (by decide)))]; rfl
theorem par_of (c : StC B F G N sc k X) {is : List Nat} {tg v : Expr} {l : List Expr} {es : Es} {p : Pos} (h : parB N sc is tg v = some l) (ha : PAll F G X es l) :
    PS X (.Assign [tg] v p) (tS X.K fun env st => (evs F G es env st).bind fun ds st1 => if ds.length = is.length then .ok (.next (setAll env is ds)) st1 else .bad) := by
  have hN : X.N.Nodup := by rw [c.cx.hN]; exact c.cx.nd
  unfold parB at h
  split at h
  · obtain ⟨hh, rfl⟩ := onlyIf_of h
    simp only [Bool.and_eq_true, decide_eq_true_eq] at hh
    obtain ⟨⟨h1, h2⟩, h3, h4⟩ := hh
    obtain ⟨a1, a2⟩ := locB1_of c h1
    obtain ⟨b1, b2⟩ := locB1_of c h2
    exact s_par2 c.cx.fit hN a1 b1 h3 a2 b2 ha (swp_eq c.hsc c.hk h4)
  · obtain ⟨hh, rfl⟩ := onlyIf_of h
    simp only [Bool.and_eq_true, decide_eq_true_eq] at hh
    obtain ⟨⟨h1, h2, h2'⟩, ⟨h3, h3', h3''⟩, h4⟩ := hh
    obtain ⟨a1, a2⟩ := locB1_of c h1
    obtain ⟨b1, b2⟩ := locB1_of c h2
    obtain ⟨c1, c2⟩ := locB1_of c h2'
    exact s_par3 c.cx.fit hN a1 b1 c1 h3 h3' h3'' a2 b2 c2 ha (swp_eq c.hsc c.hk h4)
  · cases h
/-- name = [..], the store within the comprehension -/
theorem s_asgC (c : StC B F G N sc k X) {i : Nat} {own : List Nat} {elt : E} {t : Tg} {kk : ItK} {es : Es} {t' : T} {tg v : Expr} {p : Pos} (h1 : nameB N sc i tg = true) (h2 : swB sc tg v = some true) (h : chkE B N (.lc own elt t kk es t') sc v = true) :
    PS X (.Assign [tg] v p) (tS X.K fun env st => (ev F G (.lc own elt t kk es t') env st).bind fun d st1 => .ok (.next (env.set i (some d))) st1) := by
  obtain ⟨y, py, rfl, _, hsw⟩ := swB_true (l := p.line) c.hsc c.hk h2
  have h1 : locB1 N sc i y = true := h1
  obtain ⟨hi, hl⟩ := locB1_of c h1
  have hN : X.N.Nodup := by rw [c.cx.hN]; exact c.cx.nd
  rw [chkE] at h
  split at h
  · rename_i x tg' it ifs sc' e
    obtain ⟨pc, rfl⟩ := asLc_eq e
    simp only [Bool.and_eq_true] at h
    obtain ⟨⟨h1, h2, h3⟩, h4, h5, h6, h7⟩ := h
    have hown : (own.map fun j => (N.getD j "", j)).map (·.2) = own := by
      rw [List.map_map]
      exact List.map_id' _
    have hts : ∀ (s : Shared) (H : Hp) (C : Addr) (cl : List (Str × Addr)) (fp : List Addr), PTs (X.blk s H sc' (compEnvC sc' cl C X.env) fp) ifs (tT X.K (evT F G t')) := by
      intro s H C cl fp
      split at h6
      · cases t' <;> first | cases h6 | skip
        have e : evT F G .yes = fun _ st => Res.ok true st := by funext env st; rw [evT]
        rw [e]; exact pts_yes
      · exact pts_one (soundT t' (c.cx.blk sc' s H C cl fp) h6).1
      · cases h6
    have hit : PI X tg' it (tI X.K kk (evs F G es)) := by
      split at h4
      · rename_i l hl; exact it_of c.cx hl (soundEs es c.cx h4)
      · cases h4
    have hlc := ps_setLc (own := own.map fun j => (N.getD j "", j)) (spos := p) (te := tE X.K (ev F G elt)) (tt := tT X.K (evT F G t')) (g := tG X.K (tgOwn t) (asg F G t)) c.cx.fit.hc hN hi hl hsw hit (c.cx.blkOk (blkOk_by h1)) (fun s H C cl fp => soundTg t (c.cx.blk sc' s H C cl fp) h5) hts (fun s H C cl fp => soundE elt (c.cx.blk sc' s H C cl fp) h7) (noSet_fold h3 X.env)
    rw [hown] at hlc
    refine ps_imp hlc fun D σ H ⟨as, st, env, rel, re, g⟩ => ?_
    refine lc_of (Q := fun v H1 => D.nx (σ.set i (some v)) H1) h2 ⟨as, st, env, rel, re, ?_⟩
    have e2 : ev F G (.lc own elt t kk es t') env st = mLc own kk (evs F G es) (asg F G t) (evT F G t') (ev F G elt) env st := by rw [ev]; rfl
    simp only [] at g
    rw [e2] at g
    exact g.bind.imp fun d as1 H1 e1 ⟨st1, _, r1, g1⟩ v rv => g1.here r1 _ ((re.mono e1).set rv i)
  · cases h
set_option maxHeartbeats 40000000 in
mutual
theorem soundS (c : StC B F G N sc k X) : ∀ (s : S) {x : Stmt}, chkS B N sc s x = true → PS X x (tS X.K (ex F G s))
  | .asg t e, x, h => by
    rw [chkS] at h
    split at h
    · rename_i tg v l e'
      obtain ⟨p, rfl, rfl⟩ := asAssign_eq e'
      simp only [Bool.and_eq_true, decide_eq_true_eq] at h
      obtain ⟨⟨h1, h2, h3⟩, h4, h5⟩ := h
      refine tS_eq ?_ (s_asg (soundE e c.cx h5) (soundTg t c.cx h4) (swB_false c.hsc c.hk h2) (swp_eq c.hsc c.hk h1) h3)
      intro env st; rw [ex]; try rfl
    · cases h
  | .asgC i own elt t kk es t', x, h => by
    rw [chkS] at h
    split at h
    · rename_i tg v l e'
      obtain ⟨p, rfl, rfl⟩ := asAssign_eq e'
      simp only [Bool.and_eq_true, decide_eq_true_eq] at h
      obtain ⟨⟨h1, h2⟩, h3⟩ := h
      refine tS_eq ?_ (s_asgC c h1 h2 h3)
      intro env st; rw [ex]; try rfl
    · cases h
  | .par is es, x, h => by
    rw [chkS] at h
    split at h
    · rename_i tg v l e'
      obtain ⟨p, rfl, rfl⟩ := asAssign_eq e'
      rw [Bool.or_eq_true] at h
      rcases h with h | h
      · split at h
        · rename_i l hl
          refine tS_eq ?_ (par_of c hl (soundEs es c.cx h))
          intro env st; rw [ex]; try rfl
        · cases h
      · simp only [Bool.and_eq_true, decide_eq_true_eq] at h
        obtain ⟨h0, ⟨h1, h2, h3⟩, h4, h5⟩ := h
        refine tS_eq ?_ (s_asg (soundE (.tup es) c.cx h5) (soundTg (.tup (tgsN is)) c.cx h4) (swB_false c.hsc c.hk h2) (swp_eq c.hsc c.hk h1) h3)
        intro env st; rw [par_tup h0, ex]; try rfl
    · cases h
  | .exp e, x, h => by
    rw [chkS] at h
    split at h
    · rename_i y e'
      obtain ⟨p, rfl⟩ := asExpr_eq e'
      rw [Bool.and_eq_true] at h
      refine tS_eq ?_ (s_exp (soundE e c.cx h.2) h.1)
      intro env st; rw [ex]; try rfl
    · cases h
  | .ret e, x, h => by
    rw [chkS] at h
    split at h
    · rename_i y e'
      obtain ⟨p, rfl⟩ := asRet_eq e'
      refine tS_eq ?_ (s_ret (soundE e c.cx h))
      intro env st; rw [ex]; try rfl
    · cases h
  | .retN, x, h => by
    rw [chkS] at h
    obtain ⟨p, rfl⟩ := asRetN_eq h
    refine tS_eq ?_ s_retN
    intro env st; rw [ex]; try rfl
  | .ite t a b, x, h => by
    rw [chkS] at h
    split at h
    · rename_i y p q e'
      obtain ⟨p, rfl⟩ := asIfS_eq e'
      simp only [Bool.and_eq_true] at h
      refine tS_eq ?_ (s_ite (soundT t c.cx h.1).1 (soundSs c a h.2.1) (soundSs c b h.2.2))
      intro env st; rw [ex]; try rfl
    · cases h
  | .for_ t kk es body, x, h => by
    rw [chkS] at h
    split at h
    · rename_i tg it b e'
      obtain ⟨p, rfl⟩ := asFor_eq e'
      simp only [Bool.and_eq_true] at h
      obtain ⟨h1, h2, h3, h4⟩ := h
      have hit : PI X tg it (tI X.K kk (evs F G es)) := by
        split at h2
        · rename_i l hl; exact it_of c.cx hl (soundEs es c.cx h2)
        · cases h2
      refine tS_eq ?_ (s_for c.cx.fit c.hp hit (soundTg t c.cx h3) (soundSs c body h4) h1)
      intro env st; rw [ex]; try rfl
    · cases h
  | .whl t body, x, h => by
    rw [chkS] at h
    split at h
    · rename_i y b e'
      obtain ⟨p, rfl⟩ := asWhl_eq e'
      rw [Bool.and_eq_true] at h
      refine tS_eq ?_ (s_whl (n := whileMost) c.hp (soundT t c.cx h.1).1 (soundSs c body h.2))
      intro env st; rw [ex]; try rfl
    · cases h
  | .brk, x, h => by
    rw [chkS] at h
    obtain ⟨p, rfl⟩ := isBrk_eq h
    refine tS_eq ?_ s_brk
    intro env st; rw [ex]; try rfl
  | .cnt, x, h => by
    rw [chkS] at h
    obtain ⟨p, rfl⟩ := isCnt_eq h
    refine tS_eq ?_ s_cnt
    intro env st; rw [ex]; try rfl
  | .pass, x, h => by
    rw [chkS] at h
    obtain ⟨p, rfl⟩ := isPass_eq h
    refine tS_eq ?_ s_pass
    intro env st; rw [ex]; try rfl
  | .never, x, h => by
    refine tS_eq ?_ s_never
    intro env st; rw [ex]; try rfl
theorem soundSs (c : StC B F G N sc k X) : ∀ (s : Ss) {x : List Stmt}, chkSs B N sc s x = true → PSs X x (tS X.K (exs F G s))
  | .nil, [], h => by
    refine tSs_eq ?_ ss_nil
    intro env st; rw [exs]; try rfl
  | .nil, _ :: _, h => by rw [chkSs] at h <;> first | cases h | simp
  | .cons s ss, [], h => by rw [chkSs] at h <;> first | cases h | simp
  | .cons s ss, x :: l, h => by
    rw [chkSs, Bool.and_eq_true] at h
    refine tSs_eq ?_ (ss_cons (soundS c s h.1) (soundSs c ss h.2))
    intro env st; rw [exs]; try rfl
end
end
end PL

set_option Elab.async false
set_option linter.all false
set_option maxRecDepth 100000
set_option maxHeartbeats 4000000
/-! PLO: defs, the law, the head. -/
namespace PL
open PySem PySem.Spec PyProof.Rows L2

/-! ### one def -/
theorem fn_ofG {CX : CXT} {P : Program} {w : World} {K : PySem.W.Frag} {mg : Str → Option Value} {base : Heap} {k : Nat} {f : Addr} {name qual : Str} {params : Arguments} {body : List Stmt} {scope : Scope} {dV kV doc pm cdv ct oc : Value} {an od : Option Addr}
    {osl : Array (Option Value)} {N ps : List Str} {sp : Sp} (lk : K.lookup f = some ⟨oc, od, .func (PySem.W.fnOf name qual params body scope dV kV doc pm an cdv ct), osl⟩) (hcd : PySem.W.codeIn K cdv qual = true) (S : FnScope N ps scope)
    (len : ∀ vs H Q E, sp vs H Q E → vs.length = ps.length)
    (hbody : ∀ (A : Around) (outer : List PySem.Env) (s : Shared) (H : Hp) (vs : List V) (Q : VK) (E : XK), A.guards = some [] → Room k (A.deeper (envOfC qual scope s.heap.objs.size f cdv)) → sp vs H Q E →
      ∃ t, PSs (cxOf CX P w K mg base N qual scope f cdv A outer s H E) body t ∧ t { nx := fun _ H' => Q .non H', rt := Q } (start N vs) H) :
    FnOkG P w K mg base CX (k + 1) f (PySem.W.fnOf name qual params body scope dV kV doc pm an cdv ct) ps sp := by
  refine ⟨len, fun A outer s H args us vs Q E hg hr e0 hb r hsp => ?_⟩
  have hl := len _ _ _ _ hsp
  have KX : K.In s.heap := e0.mod.kin.keeps fun b o e => (e0.bs b o e).1
  have lim : s.heap.NoLimit := e0.mod.nolimit.keeps fun b o e => (e0.bs b o e).1
  have hkind : ∀ y ∈ ps.zip us, scope.names.lookup y.1 = some .local ∨ (scope.names.lookup y.1 = some .cell ∧ ((cellsFrom (s.heap.objs.size + 1) scope.names []).lookup y.1).isSome = true) := fun ⟨n, v⟩ hy => by
    rcases S.par n (List.of_mem_zip hy).1 with q | q
    · exact .inl q
    · exact .inr ⟨q, PySem.W.cellsFrom_some _ _ _ (.inl q)⟩
  refine codeAny_call_function hr.depth (KX _ _ lk) rfl S.co S.gen rfl (PySem.W.codeRec_of KX hcd) (hb _ _ _ _ ?_)
  refine wpAny_newFunctionEnv_cells S.kind hkind fun env he s1 x => ?_
  subst he
  refine ⟨lim.keeps x.toInCall.keep, codeAny_func ?_⟩
  obtain ⟨t, ht, hq⟩ := hbody A outer s H vs Q E hg (hr.deeper _) hsp
  have I : Inv (cxOf CX P w K mg base N qual scope f cdv A outer s H E) [] (start N vs) H s1 := inv_start S hr.hd e0 hl r x
  refine wpAny_mono (ht.run [] s1 (start N vs) H _ I hq) (fun fl s' hs => ?_) fun e s' hs => hs
  have fin : ∀ {σ' : L2.St} {H' : Hp} {v : V} {u : Value}, Inv (cxOf CX P w K mg base N qual scope f cdv A outer s H E) [] σ' H' s' → RelV v u → Q v H' → CE outer P w H s Q u s' :=
    fun {σ' H' v u} J rv q => ⟨v, H', J.os, J.bare, J.base, J.hok, rv, q⟩
  cases fl with
  | ret u =>
    obtain ⟨v, σ', H', J, rv, q⟩ := hs
    exact fin J rv q
  | next =>
    obtain ⟨σ', H', J, q⟩ := hs
    exact fin (v := V.non) (u := Value.none) J rfl q
  | brk =>
    obtain ⟨_, _, _, q⟩ := hs
    exact False.elim q
  | cont =>
    obtain ⟨_, _, _, q⟩ := hs
    exact False.elim q
theorem FunD_okG {CX : CXT} {P : Program} {w : World} {K : PySem.W.Frag} {mg : Str → Option Value} {base : Heap} {x qual : Str} {params : Arguments} {body : List Stmt} {scope : Scope} {dvs : List V} {kws : List (Str × V)} {f : Addr} {fd : FuncData}
    {N ps : List Str} {k : Nat} {sp : Sp} (F : FunD K x qual params body scope dvs kws f fd) (S : FnScope N ps scope) (len : ∀ vs H Q E, sp vs H Q E → vs.length = ps.length)
    (hbody : ∀ (cdv : Value) (A : Around) (outer : List PySem.Env) (s : Shared) (H : Hp) (vs : List V) (Q : VK) (E : XK), A.guards = some [] → Room k (A.deeper (envOfC qual scope s.heap.objs.size f cdv)) → sp vs H Q E →
      ∃ t, PSs (cxOf CX P w K mg base N qual scope f cdv A outer s H E) body t ∧ t { nx := fun _ H' => Q .non H', rt := Q } (start N vs) H) : FnOkG P w K mg base CX (k + 1) f fd ps sp := by
  obtain ⟨oc, od, dV, kV, doc, pm, an, cdv, ct, osl, rfl, lk, hcd, _, _⟩ := F.ex
  exact fn_ofG lk hcd S len fun A outer s H vs Q E hg hr hsp => hbody cdv A outer s H vs Q E hg hr hsp
theorem FunD_bindK {K : PySem.W.Frag} {x qual : Str} {params : Arguments} {body : List Stmt} {scope : Scope} {kws : List (Str × V)} {f : Addr} {fd : FuncData} (F : FunD K x qual params body scope [] kws f fd) {args : Args} {bs : List (Str × Value)}
    (h : ∀ (kV doc pm : Value) (an : Option Addr) (cdv ct : Value), bindArgs (PySem.W.fnOf x qual params body scope .none kV doc pm an cdv ct) args = pure bs) (s : Shared) : BindsTo s fd args bs := by
  obtain ⟨oc, od, dV, kV, doc, pm, an, cdv, ct, osl, rfl, lk, hcd, hD, hK⟩ := F.ex
  rcases hD with ⟨_, rfl⟩ | ⟨e, _⟩
  · exact .of_eq (h kV doc pm an cdv ct)
  · exact absurd rfl e

/-! ### all defs -/
/-- what is known of a def of the program -/
structure DefOk (B : Tab) (Pf : Nat → Option Fn) (K : PySem.W.Frag) (mg : Str → Option Value) (i : Nat) (x : Str) (ps : List Str) (f : Addr) (fd : FuncData) : Prop where
  mg : mg x = some (.ref f)
  bind : ∀ (s : Shared) (us : List Value), us.length = ps.length → BindsTo s fd ⟨us, []⟩ (ps.zip us)
  bindK : ∀ q ∈ B.kwsOf i, ∀ (s : Shared) (us ws : List Value), us.length = q.1 → ws.length = q.2.1.length → BindsTo s fd ⟨us, q.2.1.zip ws⟩ (ps.zip (q.2.2.map fun j => (us ++ ws).getD j .none))
  fn : ∃ (params : Arguments) (body : List Stmt) (scope : Scope) (N : List Str) (fn : Fn), FunD K x x params body scope [] [] f fd ∧ (Pf i) = some fn ∧ fn.np = ps.length ∧ fn.ns = N.length ∧ FnScope N ps scope ∧ chkSs B N scope fn.body body = true
structure Mods (B : Tab) (Pf : Nat → Option Fn) (G : Nat → Option D) (K : PySem.W.Frag) (w : World) (mg : Str → Option Value) : Prop where
  defs : ∀ (i : Nat) (x : Str) (ps : List Str), (B.fns.lookup i) = some (x, ps) → ∃ f fd, DefOk B Pf K mg i x ps f fd
  sys : sysB K = true
  free : ∀ x ∈ B.free, mg x = none
  con : ∀ (i : Nat) (x : Str) (d : D), (B.cons.lookup i) = some (x, d) → (G i) = some d ∧ ∃ u v, mg x = some u ∧ RelV v u ∧ ∀ as H, RV K as H d v
  kds : ∀ (i : Nat) (x : Str) (kvs : List (Str × D)), (B.kds.lookup i) = some (x, kvs) → KdFact K w mg G i x kvs
theorem renv_start {K : PySem.W.Frag} {as : List Addr} {H : Hp} {N : List Str} {ds : List D} {vs : List V} {np : Nat} (r : RVs K as H ds vs) (hn : ds.length = np) : REnv K as H (ds.map some ++ List.replicate (N.length - np) none) (L2.start N vs) := by
  have hl := r.length
  refine ⟨by unfold L2.start; simp only [List.length_append, List.length_map, List.length_replicate]; omega, fun i d h => ?_⟩
  by_cases hi : i < ds.length
  · rw [List.getElem?_append_left (by simpa using hi)] at h
    rw [List.getElem?_map] at h
    obtain ⟨d', h1, h2⟩ := Option.map_eq_some_iff.mp h
    cases h2
    obtain ⟨v, h3, h4⟩ := r.get h1
    refine ⟨v, ?_, h4⟩
    unfold L2.start
    rw [List.getElem?_append_left (by rw [List.length_map]; omega), List.getElem?_map, h3]; rfl
  · rw [List.getElem?_append_right (by simpa using hi)] at h
    rw [List.length_map] at h
    by_cases h2 : i - ds.length < N.length - np
    · rw [List.getElem?_replicate_of_lt h2] at h; cases h
    · rw [List.getElem?_eq_none (by simpa using h2)] at h; cases h
theorem sp_len {K : PySem.W.Frag} {m : List D → Sto → Res D} {n : Nat} {vs : List V} {H : Hp} {Q : VK} {E : XK} (h : spU K m n vs H Q E) : vs.length = n := by
  obtain ⟨as, st, ds, _, r, hl, _⟩ := h
  rw [← r.length, hl]
theorem all_ok {P : Program} {w : World} {K : PySem.W.Frag} {mg : Str → Option Value} {base : Heap} {B : Tab} {Pf : Nat → Option Fn} {G : Nat → Option D} (M : Mods B Pf G K w mg) : ∀ (k : Nat) (i : Nat) (x : Str) (ps : List Str) (f : Addr) (fd : FuncData), DefOk B Pf K mg i x ps f fd →
    FnOkG P w K mg base CXP k f fd ps (spU K (run Pf G k i) ps.length)
  | 0, i, x, ps, f, fd, dk => ⟨fun vs H Q E h => sp_len h, fun A outer s H args us vs Q E _ _ _ _ _ h => by
    obtain ⟨as, st, ds, _, _, _, g⟩ := h
    exact g.elim⟩
  | k + 1, i, x, ps, f, fd, dk => by
    obtain ⟨params, body, scope, N, fn, hF, hPf, hnp, hns, S, hchk⟩ := dk.fn
    refine FunD_okG hF S (fun vs H Q E h => sp_len h) fun cdv A outer s H vs Q E hg hr hsp => ?_
    obtain ⟨as, st, ds, rel, rvs, hl, g⟩ := hsp
    have c : StC B (run Pf G k) G N scope k (cxOf CXP P w K mg base N x scope f cdv A outer s H E) := {
      cx := {
        fit := ⟨by have := hr.un; show (A.deeper _).units + 100 < cLine; omega, hg, rfl, M.sys⟩
        hN := rfl
        nd := S.nd
        sub := fun y q h => ⟨q, h, .inl rfl⟩
        fnc := fun _ _ => rfl
        room := hr
        fns := fun j y qs h => by
          obtain ⟨f', fd', dk'⟩ := M.defs j y qs h
          obtain ⟨_, _, _, _, _, hF', _⟩ := dk'.fn
          exact ⟨f', fd', ⟨dk'.mg, hF'.kp, dk'.bind, dk'.bindK, all_ok M k j y qs f' fd' dk'⟩⟩
        free := M.free
        con := M.con
        kds := M.kds }
      hsc := rfl
      hk := S.kind
      hp := passes_of (K := fun e s'' => CXP outer H s E e s'') (E₁ := fun e s'' => CXP outer H s E e s'') rfl }
    refine ⟨_, soundSs c fn.body hchk, as, st, _, rel, renv_start (N := N) rvs hl, ?_⟩
    rw [run, hPf] at g
    simp only [] at g
    rw [if_pos (by rw [hl, hnp]), hns, hnp] at g
    exact g.bind.imp fun o as1 H1 e1 ⟨st1, _, r1, g1⟩ => by
      cases o with
      | ret d => exact g1.here r1
      | next env => exact fun σ _ => g1.here r1 _ rfl
      | brk _ => exact g1.elim
      | cnt _ => exact g1.elim

/-! ### the look at a def -/
def scopeB (N ps : List Str) (sc : Scope) : Bool := (match sc.kind with | .function => true | _ => false) && (!sc.isCoroutine && (!sc.isGenerator && (decide N.Nodup && (decide (N.take ps.length = ps) &&
  ((ps.all fun x => match sc.names.lookup x with | some .local => true | some .cell => true | _ => false) && sc.names.all fun y => !(y.2 == .free))))))
theorem scopeB_of {N ps : List Str} {sc : Scope} (h : scopeB N ps sc = true) : FnScope N ps sc := by
  unfold scopeB at h
  simp only [Bool.and_eq_true, Bool.not_eq_true', decide_eq_true_eq, List.all_eq_true] at h
  obtain ⟨h1, h2, h3, h4, h5, h6, h7⟩ := h
  refine ⟨?_, h2, h3, h4, h5, fun x hx => ?_, fun y hy e => ?_⟩
  · split at h1
    · assumption
    · cases h1
  · have := h6 x hx
    split at this
    · exact .inl (by assumption)
    · exact .inr (by assumption)
    · cases this
  · have := h7 y hy
    rw [e] at this
    cases this
def defB (B : Tab) (fn : Fn) (st : Stmt) (N ps : List Str) : Bool := (decide (fn.np = ps.length) && decide (fn.ns = N.length)) && (scopeB N ps (defScope st) && chkSs B N (defScope st) fn.body (defBody st))
theorem defOk_by {B : Tab} {Pf : Nat → Option Fn} {K : PySem.W.Frag} {mg : Str → Option Value} {i : Nat} {x : Str} {ps : List Str} {f : Addr} {fd : FuncData} {fn : Fn} {st : Stmt} {N : List Str} (hm : mg x = some (.ref f)) (hF : FunD K x x (defArgs st) (defBody st) (defScope st) [] [] f fd)
    (hPf : (Pf i) = some fn) (h : defB B fn st N ps = true)
    (hb : ∀ (kV doc pm : Value) (an : Option Addr) (cdv ct : Value) (us : List Value), us.length = ps.length → bindArgs (PySem.W.fnOf x x (defArgs st) (defBody st) (defScope st) .none kV doc pm an cdv ct) ⟨us, []⟩ = pure (ps.zip us))
    (hk : ∀ q ∈ B.kwsOf i, ∀ (kV doc pm : Value) (an : Option Addr) (cdv ct : Value) (us ws : List Value), us.length = q.1 → ws.length = q.2.1.length →
      bindArgs (PySem.W.fnOf x x (defArgs st) (defBody st) (defScope st) .none kV doc pm an cdv ct) ⟨us, q.2.1.zip ws⟩ = pure (ps.zip (q.2.2.map fun j => (us ++ ws).getD j .none))) : DefOk B Pf K mg i x ps f fd := by
  unfold defB at h
  simp only [Bool.and_eq_true, decide_eq_true_eq] at h
  obtain ⟨⟨h1, h2⟩, h3, h4⟩ := h
  exact ⟨hm, hF.bindsA hb, fun q hq s us ws l1 l2 => FunD_bindK hF (fun kV doc pm an cdv ct => hk q hq kV doc pm an cdv ct us ws l1 l2) s, _, _, _, N, fn, hF, hPf, h1, h2, scopeB_of h3, h4⟩

/-! ### the law -/
theorem sqS_of {K : PySem.W.Frag} {H : Hp} {a : Addr} {vs : List V} (hO : Only H) (h : SqL K H a vs) : SqS K H a vs := by
  rcases h with (h | ⟨o, h⟩) | ⟨o, its, n, h⟩
  · rcases hO a with z | ⟨o, xs, z⟩
    · rw [z] at h; cases h
    · rw [z] at h; cases h
  · exact .inl ⟨o, h⟩
  · exact .inr ⟨o, h.1, .inr ⟨o, its, n, h⟩⟩
def scriptD (ns : List Int) : D := .scr (ns.map .int)
theorem rvs_ints {K : PySem.W.Frag} {as : List Addr} {H : Hp} : ∀ ns : List Int, RVs K as H (ns.map D.int) (ns.map V.int)
  | [] => rfl
  | n :: ns => ⟨_, _, rfl, rfl, rvs_ints ns⟩
theorem law_callG {P : Program} {w : World} {K : PySem.W.Frag} {mg mb : Str → Option Value} {CX : CXT} {k : Nat} {fa a : Addr} {fd : FuncData} {x : Str} {sp : Sp} {s₁ : Shared} {vs : List Value} {ns : List Int}
    (KX : K.In s₁.heap) (hns : s₁.heap.Ns mainGlobals mg) (hb : s₁.heap.Ns builtinsNs mb) (hbb : ∀ x : Str, x ≠ "__name__" → mb x = bootBuiltins x) (hlim : s₁.heap.NoLimit) (hg : s₁.gens = #[])
    (ha : s₁.heap.get? a = some { cls := .type "list", data := .seq vs.toArray }) (hi : IntsAre vs ns) (hl : ns.length ≤ sizeLine) (hr : Room k callerA)
    (F : ∀ base : Heap, K.In base → base.Ns mainGlobals mg → FnOkG P w K mg base CX k fa fd [x] sp) (hbind : ∀ (s : Shared) (u : Value), BindsTo s fd ⟨[u], []⟩ [(x, u)])
    (hsp : ∀ H : Hp, Only H → SqL K H a (ns.map V.int) → sp [.ref a] H (fun v _ => v = .bl true) fun _ _ _ => False)
    (hCX : ∀ H e s', CX [] H s₁ (fun _ _ _ => False) e s' → False) :
    codeAny (model P w) callerA (.call (.ref fa) ⟨[.ref a], []⟩) (fun r s' => r = .ok (.ret (.bool true)) ∧ OldK s₁.heap s'.heap ∧ s'.os = s₁.os ∧ AllBare s'.gens) s₁ := by
  have rv := vals_ints hi
  have lenV := hi.length
  have core : ∀ H : Hp, Only H → SqL K H a (ns.map V.int) → HOk P w H s₁.heap → (∀ b, H b ≠ none → b = a) → (H a ≠ none → K.lookup a = none) →
      codeAny (model P w) callerA (.call (.ref fa) ⟨[.ref a], []⟩) (fun r s' => r = .ok (.ret (.bool true)) ∧ OldK s₁.heap s'.heap ∧ s'.os = s₁.os ∧ AllBare s'.gens) s₁ := by
    intro H hO hS hok hA hK
    have base_of : ∀ {b : Addr} {o : Obj}, s₁.heap.get? b = some o → H b = none → (hidT s₁.heap H).get? b = some o := fun e n => hidT_get e n
    have noA : ∀ {b : Addr} {o : Obj} {es : Array DictEntry} {ep : Nat}, s₁.heap.get? b = some o → o.data = .dict es ep → H b = none := fun {b o es ep} e d => by
      cases q : H b with
      | none => rfl
      | some u =>
        have e' : b = a := hA b (by rw [q]; simp)
        subst e'
        rw [ha] at e; cases e
        have d' : Data.seq vs.toArray _ = Data.dict es ep := d
        cases d'
    have nsK : ∀ {b : Addr} {m : Str → Option Value}, s₁.heap.Ns b m → (hidT s₁.heap H).Ns b m := fun {b m} ⟨o, es, ep, e, d, r⟩ => ⟨o, es, ep, base_of e (noA e d), d, r⟩
    have hKb : K.In (hidT s₁.heap H) := fun b o e => base_of (KX b o e) (by
      cases q : H b with
      | none => rfl
      | some u =>
        have e' : b = a := hA b (by rw [q]; simp)
        subst e'
        rw [hK (by rw [q]; simp)] at e; cases e)
    have hM : Mod K mg (hidT s₁.heap H) := ⟨hKb, nsK hns, ⟨mb, nsK hb, hbb⟩, let ⟨mc, h1, h2⟩ := hlim; ⟨mc, nsK h1, h2⟩⟩
    have e0 : Env0 P w K mg (hidT s₁.heap H) callerA [] s₁ H := ⟨rfl, hM, fun b o e => of_hidT e, Nat.le_of_eq (hidT_size _ _), trivial, fun b hb => absurd (show b ∈ ([] : List Addr) from hb) (by simp), hok, .of_eq hg⟩
    refine codeAny_mono ((F _ hKb (nsK hns)).run callerA [] s₁ H ⟨[.ref a], []⟩ [.ref a] [.ref a] _ _ rfl hr e0 (hbind s₁ (.ref a)) (.cons rfl .nil) (hsp H hO hS)) fun r s' h => ?_
    cases r with
    | error e => exact (hCX H e s' h).elim
    | ok fl =>
      cases fl with
      | next => exact False.elim h
      | brk => exact False.elim h
      | cont => exact False.elim h
      | ret u =>
        obtain ⟨v, H', os, bare, un, hok', r', q⟩ := h
        have q' : v = .bl true := q
        subst q'
        obtain rfl : u = Value.bool true := r'
        refine ⟨rfl, OldK.of_keep fun b o e => ?_, os, bare⟩
        cases q : H b with
        | none => exact un.keep b o e q (by intro z; exact absurd (show b ∈ ([] : List Addr) from z) (by simp)) (by simp)
        | some u =>
          rcases hO b with z | ⟨ob, xs, z⟩
          · rw [q] at z; cases z
          · have z2 := un.frzs b ob _ z
            obtain ⟨e1, _⟩ := hok b _ z
            obtain ⟨e2, _⟩ := hok' b _ z2
            rw [e] at e1; cases e1
            exact e2
  cases hk : K.lookup a with
  | some o =>
    have e := KX a o hk
    rw [ha] at e
    cases e
    refine core (fun _ => none) (fun _ => .inl rfl) (.inr ⟨_, vs.toArray, _, hk, rfl, rfl, rfl, by rw [List.size_toArray, lenV]; exact hl, by simpa using rv⟩) (fun b u z => by have z' : (none : Option HO) = some u := z; cases z') (fun b z => absurd rfl z) fun z => absurd rfl z
  | none =>
    refine core (fun b => if b = a then some (.frz { cls := .type "list", data := .seq vs.toArray } (.lst (ns.map V.int))) else none) (fun b => ?_) (.inl (.inr ⟨{ cls := .type "list", data := .seq vs.toArray }, if_pos rfl⟩)) (fun b u z => ?_) (fun b z => ?_) fun _ => hk
    · by_cases hb : b = a
      · exact .inr ⟨_, _, if_pos hb⟩
      · exact .inl (if_neg hb)
    · by_cases hb : b = a
      · have z' := (if_pos hb).symm.trans z
        cases z'
        subst hb
        exact ⟨ha, by rw [List.length_map]; exact hl, vs, _, rv, ha⟩
      · have z' := (if_neg hb).symm.trans z
        cases z'
    · by_cases hb : b = a
      · exact hb
      · exact absurd (if_neg hb) z
/-- THE ROAD: a law whose program passes the look holds when the small language's run comes to True -/
theorem walk_PL {l : PySem.W.OpenLaw} {n k : Nat} {q : Program} {loose : List Str} {XP : (Str → Option Value) → Heap → Prop} {YP : World → Heap → Prop} {d : DefRec} {x : Str} {B : Tab} {Pf : Nat → Option Fn} {G : Nat → Option D} {i : Nat}
    (hn : l.most = some n) (hn2 : n ≤ sizeLine) (hdf : d.params.defaults = []) (hr : Room k callerA) (hfn : (B.fns.lookup i) = some (d.name, [x]))
    (F : ∀ (w : World) (mg : Str → Option Value) (h : Heap), YP w h → h.Ns mainGlobals mg → ∃ (K : PySem.W.Frag), K.In h ∧ Mods B Pf G K w mg)
    (hrun : ∀ ns : List Int, ns.length ≤ n → ∃ st, run Pf G k i [scriptD ns] [] = .ok (.bl true) st) :
    PySem.W.WalkO q loose XP YP l.row.toRowW d [] (fun f vs => PySem.call f vs) := by
  refine Att.attach_call hn hdf fun w s₀ s₁ mg mb fa o pm cd doc a vs ns G' Y ho hd hcd hmg hobj hints hlen hg => ?_
  obtain ⟨K, KX, M⟩ := F w mg _ Y G'.T.g
  obtain ⟨f, fd, dk⟩ := M.defs i d.name [x] hfn
  have e := hmg.symm.trans dk.mg
  cases e
  refine law_callG (CX := CXP) (sp := spU K (run Pf G k i) [x].length) KX G'.T.g G'.T.b G'.T.builtins G'.T.nolimit hg hobj hints (Nat.le_trans hlen hn2) hr (fun base hKb _ => all_ok M k i d.name [x] _ fd dk) (fun s u => dk.bind s [u] rfl) (fun H hO hS => ?_) fun H e s' z => z
  obtain ⟨st, e⟩ := hrun ns hlen
  refine ⟨[], [], [scriptD ns], ⟨rfl, fun i o a h _ => by simp at h, fun i j a o o' h _ _ _ _ _ => by simp at h⟩, ?_, rfl, ?_⟩
  · exact ⟨_, _, rfl, ⟨a, _, rfl, sqS_of hO hS, rvs_ints ns⟩, rfl⟩
  · rw [e]
    exact fun as' H' _ _ v rv => rv
end PL

set_option Elab.async false
set_option linter.all false
set_option maxRecDepth 100000
set_option maxHeartbeats 4000000
/-! PLQ: a program's run where some defs are taken by what they are known to tell. -/
namespace PL
open PySem PySem.Spec PyProof.Rows L2

/-! ### data without references -/
mutual
def ground : D → Bool
  | .ref _ => false
  | .tup ds => grounds ds
  | .scr ds => grounds ds
  | _ => true
def grounds : List D → Bool
  | [] => true
  | d :: ds => ground d && grounds ds
end
section
variable {K : PySem.W.Frag} {as as' : List Addr} {H : Hp}
mutual
theorem RV.grd : ∀ (d : D) (v : V), ground d = true → RV K as H d v → RV K as' H d v
  | .non, _, _, h => h
  | .bl _, _, _, h => h
  | .int _, _, _, h => h
  | .str _, _, _, h => h
  | .rep _, _, _, h => h
  | .ent _, _, _, h => h
  | .tup ds, _, g, h => by
    obtain ⟨a, vs, rfl, ht, hs⟩ := h
    exact ⟨a, vs, rfl, ht, RVs.grd ds vs (by simpa [ground] using g) hs⟩
  | .scr ds, _, g, h => by
    obtain ⟨a, vs, rfl, ht, hs⟩ := h
    exact ⟨a, vs, rfl, ht, RVs.grd ds vs (by simpa [ground] using g) hs⟩
  | .ref _, _, g, _ => by simp [ground] at g
theorem RVs.grd : ∀ (ds : List D) (vs : List V), grounds ds = true → RVs K as H ds vs → RVs K as' H ds vs
  | [], _, _, h => h
  | d :: ds, _, g, h => by
    obtain ⟨v, vs', rfl, h1, h2⟩ := h
    simp only [grounds, Bool.and_eq_true] at g
    exact ⟨v, vs', rfl, RV.grd d v g.1 h1, RVs.grd ds vs' g.2 h2⟩
end
end

/-! ### a run with contracts -/
def runC (P : Nat → Option Fn) (G : Nat → Option D) (C : Nat → Option (List D → Sto → Res D)) : Nat → Nat → List D → Sto → Res D
  | 0, f, ds, st => match C f with
    | some c => c ds st
    | none => .bad
  | n + 1, f, ds, st => match C f with
    | some c => c ds st
    | none => match (P f) with
      | none => .bad
      | some fn => if ds.length = fn.np then
          (exs (runC P G C n) G fn.body (ds.map some ++ List.replicate (fn.ns - fn.np) none) st).bind fun o st1 => match o with
            | .ret d => .ok d st1
            | .next _ => .ok .non st1
            | _ => .bad
        else .bad
theorem FnOkG.mono {P : Program} {w : World} {K : PySem.W.Frag} {mg : Str → Option Value} {base : Heap} {CX : CXT} {j k : Nat} {f : Addr} {fd : FuncData} {ps : List Str} {sp : Sp} (F : FnOkG P w K mg base CX j f fd ps sp) (h : j ≤ k) :
    FnOkG P w K mg base CX k f fd ps sp := ⟨F.len, fun A outer s H args us vs Q E hg hr => F.run A outer s H args us vs Q E hg (hr.mono h)⟩
theorem FnOkG.imp {P : Program} {w : World} {K : PySem.W.Frag} {mg : Str → Option Value} {base : Heap} {CX : CXT} {k : Nat} {f : Addr} {fd : FuncData} {ps : List Str} {sp sp' : Sp} (F : FnOkG P w K mg base CX k f fd ps sp)
    (h : ∀ vs H Q E, sp' vs H Q E → sp vs H Q E) : FnOkG P w K mg base CX k f fd ps sp' := ⟨fun vs H Q E q => F.len vs H Q E (h vs H Q E q), fun A outer s H args us vs Q E hg hr e0 hb r q => F.run A outer s H args us vs Q E hg hr e0 hb r (h vs H Q E q)⟩
/-- what a def tells of data without references, wherever it is called -/
structure Pure (m : List D → Sto → Res D) (c : List D → Sto → Res D) : Prop where
  of : ∀ ds st d st1, c ds st = .ok d st1 → st1 = st ∧ grounds ds = true ∧ ground d = true ∧ ∃ st', m ds [] = .ok d st'
  noex : ∀ ds st k xs st1, c ds st ≠ .exc k xs st1
/-- what a def tells, told of every store -/
def pureC (m : List D → Sto → Res D) (ds : List D) (st : Sto) : Res D := if grounds ds = true then match m ds [] with
  | .ok d _ => if ground d = true then .ok d st else .bad
  | _ => .bad
  else .bad
theorem pureC_pure (m : List D → Sto → Res D) : Pure m (pureC m) := by
  refine ⟨fun ds st d st1 h => ?_, fun ds st k xs st1 h => ?_⟩
  · unfold pureC at h
    split at h
    · rename_i hg
      split at h
      · rename_i d' st' e
        split at h
        · rename_i hd
          cases h
          exact ⟨rfl, hg, hd, st', e⟩
        · cases h
      · cases h
    · cases h
  · unfold pureC at h
    split at h
    · split at h
      · split at h <;> cases h
      · cases h
    · cases h
theorem pureC_ok {m : List D → Sto → Res D} {ds : List D} {st st' : Sto} {d : D} (hg : grounds ds = true) (h : m ds [] = .ok d st') (hd : ground d = true) : pureC m ds st = .ok d st := by
  unfold pureC
  rw [if_pos hg, h]
  simp only []
  rw [if_pos hd]
theorem pure_imp {K : PySem.W.Frag} {m c : List D → Sto → Res D} {n : Nat} (p : Pure m c) (vs : List V) (H : Hp) (Q : VK) (E : XK) (h : spU K c n vs H Q E) : spU K m n vs H Q E := by
  obtain ⟨as, st, ds, rel, rvs, hl, g⟩ := h
  cases e : c ds st with
  | bad => rw [e] at g; exact g.elim
  | exc _ _ _ => rw [e] at g; exact g.elim
  | ok d st1 =>
    obtain ⟨rfl, h1, h2, st', h3⟩ := p.of ds st d st1 e
    rw [e] at g
    refine ⟨[], [], ds, ⟨rfl, fun i o a h _ => by simp at h, fun i j a o o' h _ _ _ _ _ => by simp at h⟩, RVs.grd ds vs h1 rvs, hl, ?_⟩
    rw [h3]
    intro as' H' e' r' v rv
    have keep : ∀ a u, H a = some u → H' a = some u := fun a u q => e'.frm a u (by simp) q
    have e2 : Ext K as H as H' := ⟨⟨[], by simp, by simp⟩, fun a o _ q => keep a o q, e'.tup, e'.frz⟩
    refine g as H' e2 ⟨rel.len, fun i o a q1 q2 => (rel.at_ i o a q1 q2).mono e2.wk fun u q _ => keep a u q, rel.inj⟩ v (RV.grd d v h2 rv)
theorem all_okC {P : Program} {w : World} {K : PySem.W.Frag} {mg : Str → Option Value} {base : Heap} {B : Tab} {Pf : Nat → Option Fn} {G : Nat → Option D} {C : Nat → Option (List D → Sto → Res D)} {kc : Nat} (M : Mods B Pf G K w mg)
    (hC : ∀ i c, C i = some c → Pure (run Pf G kc i) c) : ∀ (k : Nat) (i : Nat) (x : Str) (ps : List Str) (f : Addr) (fd : FuncData), DefOk B Pf K mg i x ps f fd →
    FnOkG P w K mg base CXP (kc + k) f fd ps (spU K (runC Pf G C k i) ps.length)
  | 0, i, x, ps, f, fd, dk => by
    cases e : C i with
    | none => exact ⟨fun vs H Q E h => sp_len h, fun A outer s H args us vs Q E _ _ _ _ _ h => by
        obtain ⟨as, st, ds, _, _, _, g⟩ := h
        rw [runC, e] at g
        exact g.elim⟩
    | some c =>
      have : runC Pf G C 0 i = c := by funext ds st; rw [runC, e]
      rw [this]
      exact ((all_ok M kc i x ps f fd dk).imp (pure_imp (hC i c e))).mono (Nat.le_refl _)
  | k + 1, i, x, ps, f, fd, dk => by
    cases e : C i with
    | some c =>
      have : runC Pf G C (k + 1) i = c := by funext ds st; rw [runC, e]
      rw [this]
      exact ((all_ok M kc i x ps f fd dk).imp (pure_imp (hC i c e))).mono (Nat.le_add_right _ _)
    | none =>
      obtain ⟨params, body, scope, N, fn, hF, hPf, hnp, hns, S, hchk⟩ := dk.fn
      show FnOkG P w K mg base CXP (kc + k + 1) f fd ps _
      refine FunD_okG hF S (fun vs H Q E h => sp_len h) fun cdv A outer s H vs Q E hg hr hsp => ?_
      obtain ⟨as, st, ds, rel, rvs, hl, g⟩ := hsp
      have c : StC B (runC Pf G C k) G N scope (kc + k) (cxOf CXP P w K mg base N x scope f cdv A outer s H E) := {
        cx := {
          fit := ⟨by have := hr.un; show (A.deeper _).units + 100 < cLine; omega, hg, rfl, M.sys⟩
          hN := rfl
          nd := S.nd
          sub := fun y q h => ⟨q, h, .inl rfl⟩
          fnc := fun _ _ => rfl
          room := hr
          fns := fun j y qs h => by
            obtain ⟨f', fd', dk'⟩ := M.defs j y qs h
            obtain ⟨_, _, _, _, _, hF', _⟩ := dk'.fn
            exact ⟨f', fd', ⟨dk'.mg, hF'.kp, dk'.bind, dk'.bindK, all_okC M hC k j y qs f' fd' dk'⟩⟩
          free := M.free
          con := M.con
          kds := M.kds }
        hsc := rfl
        hk := S.kind
        hp := passes_of (K := fun e s'' => CXP outer H s E e s'') (E₁ := fun e s'' => CXP outer H s E e s'') rfl }
      refine ⟨_, soundSs c fn.body hchk, as, st, _, rel, renv_start (N := N) rvs hl, ?_⟩
      rw [runC, e, hPf] at g
      simp only [] at g
      rw [if_pos (by rw [hl, hnp]), hns, hnp] at g
      exact g.bind.imp fun o as1 H1 e1 ⟨st1, _, r1, g1⟩ => by
        cases o with
        | ret d => exact g1.here r1
        | next env => exact fun σ _ => g1.here r1 _ rfl
        | brk _ => exact g1.elim
        | cnt _ => exact g1.elim
/-- THE ROAD with contracts -/
theorem walk_PLC {l : PySem.W.OpenLaw} {n k kc : Nat} {q : Program} {loose : List Str} {XP : (Str → Option Value) → Heap → Prop} {YP : World → Heap → Prop} {d : DefRec} {x : Str} {B : Tab} {Pf : Nat → Option Fn} {G : Nat → Option D} {C : Nat → Option (List D → Sto → Res D)} {i : Nat}
    (hn : l.most = some n) (hn2 : n ≤ sizeLine) (hdf : d.params.defaults = []) (hr : Room (kc + k) callerA) (hfn : (B.fns.lookup i) = some (d.name, [x]))
    (F : ∀ (w : World) (mg : Str → Option Value) (h : Heap), YP w h → h.Ns mainGlobals mg → ∃ (K : PySem.W.Frag), K.In h ∧ Mods B Pf G K w mg)
    (hC : ∀ i c, C i = some c → Pure (run Pf G kc i) c)
    (hrun : ∀ ns : List Int, ns.length ≤ n → ∃ st, runC Pf G C k i [scriptD ns] [] = .ok (.bl true) st) :
    PySem.W.WalkO q loose XP YP l.row.toRowW d [] (fun f vs => PySem.call f vs) := by
  refine Att.attach_call hn hdf fun w s₀ s₁ mg mb fa o pm cd doc a vs ns G' Y ho hd hcd hmg hobj hints hlen hg => ?_
  obtain ⟨K, KX, M⟩ := F w mg _ Y G'.T.g
  obtain ⟨f, fd, dk⟩ := M.defs i d.name [x] hfn
  have e := hmg.symm.trans dk.mg
  cases e
  refine law_callG (CX := CXP) (sp := spU K (runC Pf G C k i) [x].length) KX G'.T.g G'.T.b G'.T.builtins G'.T.nolimit hg hobj hints (Nat.le_trans hlen hn2) hr (fun base hKb _ => all_okC M hC k i d.name [x] _ fd dk) (fun s u => dk.bind s [u] rfl) (fun H hO hS => ?_) fun H e s' z => z
  obtain ⟨st, e⟩ := hrun ns hlen
  refine ⟨[], [], [scriptD ns], ⟨rfl, fun i o a h _ => by simp at h, fun i j a o o' h _ _ _ _ _ => by simp at h⟩, ?_, rfl, ?_⟩
  · exact ⟨_, _, rfl, ⟨a, _, rfl, sqS_of hO hS, rvs_ints ns⟩, rfl⟩
  · rw [e]
    exact fun as' H' _ _ v rv => rv

/-! ### a tree of words -/
inductive Tr where
  | leaf | node (i : Nat) (ts : List Tr)
def setW (w : Nat → Str) (i : Nat) (x : Str) : Nat → Str := fun j => if j = i then x else w j
theorem setW_self (w : Nat → Str) (i : Nat) : setW w i (w i) = w := by
  funext j; unfold setW; split
  · rename_i e; rw [e]
  · rfl
section
variable (dom : Nat → List Str) (lf : (Nat → Str) → Bool)
mutual
def Tr.chk : Tr → (Nat → Str) → Bool
  | .leaf, w => lf w
  | .node i ts, w => chkAll ts (dom i) i w
def chkAll : List Tr → List Str → Nat → (Nat → Str) → Bool
  | t :: ts, x :: xs, i, w => t.chk (setW w i x) && chkAll ts xs i w
  | [], [], _, _ => true
  | _, _, _, _ => false
end
end
section
variable {dom : Nat → List Str} {lf : (Nat → Str) → Bool} {w : Nat → Str}
mutual
theorem Tr.chk_of (hw : ∀ i, w i ∈ dom i) : ∀ t : Tr, t.chk dom lf w = true → lf w = true
  | .leaf, h => by rw [Tr.chk] at h; exact h
  | .node i ts, h => by
    rw [Tr.chk] at h
    exact chkAll_of hw ts (dom i) i (hw i) h
theorem chkAll_of (hw : ∀ i, w i ∈ dom i) : ∀ (ts : List Tr) (xs : List Str) (i : Nat), w i ∈ xs → chkAll dom lf ts xs i w = true → lf w = true
  | t :: ts, x :: xs, i, hm, h => by
    rw [chkAll, Bool.and_eq_true] at h
    rcases List.mem_cons.mp hm with e | hm
    · have h1 := h.1
      rw [← e, setW_self] at h1
      exact Tr.chk_of hw t h1
    · exact chkAll_of hw ts xs i hm h.2
  | [], [], i, hm, h => by cases hm
  | t :: ts, [], i, hm, h => by cases hm
  | [], x :: xs, i, hm, h => by rw [chkAll] at h <;> first | cases h | simp
end
end
end PL

set_option Elab.async false
set_option linter.all false
set_option maxRecDepth 100000
set_option maxHeartbeats 4000000
/-! PLW: what the small language does, step by step, as propositions. -/
namespace PL
open PySem

def Wd {α : Type} (r : Res α) (P : α → Sto → Prop) : Prop := match r with
  | .ok a st => P a st
  | _ => False
section
variable {α β : Type}
theorem Wd_ok {a : α} {st : Sto} {P : α → Sto → Prop} : Wd (.ok a st) P ↔ P a st := Iff.rfl
theorem Wd_bad {P : α → Sto → Prop} : Wd (.bad : Res α) P ↔ False := Iff.rfl
theorem Wd_bind {r : Res α} {k : α → Sto → Res β} {P : β → Sto → Prop} : Wd (r.bind k) P ↔ Wd r fun a st => Wd (k a st) P := by
  cases r <;> exact Iff.rfl
theorem Wd.mono {r : Res α} {P Q : α → Sto → Prop} (h : Wd r P) (f : ∀ a st, P a st → Q a st) : Wd r Q := by
  cases r with
  | ok a st => exact f a st h
  | exc _ _ _ => exact h
  | bad => exact h
theorem Wd_lift {o : Option α} {st : Sto} {P : α → Sto → Prop} : Wd (liftO o st) P ↔ ∃ a, o = some a ∧ P a st := by
  cases o with
  | some a => exact ⟨fun h => ⟨a, rfl, h⟩, fun ⟨b, e, h⟩ => by cases e; exact h⟩
  | none => exact ⟨fun h => h.elim, fun ⟨b, e, h⟩ => by cases e⟩
theorem Wd_ite {c : Prop} [Decidable c] {x y : Res α} {P : α → Sto → Prop} : Wd (if c then x else y) P ↔ if c then Wd x P else Wd y P := by
  split <;> exact Iff.rfl
theorem Wd_ok_of {r : Res α} {P : α → Sto → Prop} (h : Wd r P) : ∃ a st, r = .ok a st ∧ P a st := by
  cases r with
  | ok a st => exact ⟨a, st, rfl, h⟩
  | exc _ _ _ => exact h.elim
  | bad => exact h.elim
end
section
variable {F : Nat → List D → Sto → Res D} {G : Nat → Option D} {env : Env} {st : Sto} {P : D → Sto → Prop} {PL' : List D → Sto → Prop} {PT' : Bool → Sto → Prop} {PE' : Env → Sto → Prop} {PO' : Out → Sto → Prop}
theorem W_var {i : Nat} : Wd (ev F G (.var i) env st) P ↔ ∃ d, env[i]? = some (some d) ∧ P d st := by
  rw [ev]
  split
  · rename_i d e; rw [e]; simp [Wd]
  · rename_i h
    refine ⟨fun z => z.elim, fun ⟨d, e, _⟩ => (h d e).elim⟩
theorem W_cI {i : Int} : Wd (ev F G (.cI i) env st) P ↔ P (.int i) st := by rw [ev]; exact Iff.rfl
theorem W_cB {i : Bool} : Wd (ev F G (.cB i) env st) P ↔ P (.bl i) st := by rw [ev]; exact Iff.rfl
theorem W_cS {i : Str} : Wd (ev F G (.cS i) env st) P ↔ P (.str i) st := by rw [ev]; exact Iff.rfl
theorem W_cN : Wd (ev F G .cN env st) P ↔ P .non st := by rw [ev]; exact Iff.rfl
theorem W_gcon {i : Nat} : Wd (ev F G (.gcon i) env st) P ↔ ∃ d, (G i) = some d ∧ P d st := by rw [ev]; exact Wd_lift
theorem W_bin {op : Bop} {a b : E} : Wd (ev F G (.bin op a b) env st) P ↔ Wd (ev F G a env st) fun x st1 => Wd (ev F G b env st1) fun y st2 => Wd (binD op x y st2) P := by
  rw [ev]; simp only [Wd_bind]
theorem W_neg {a : E} : Wd (ev F G (.neg a) env st) P ↔ Wd (ev F G a env st) fun x st1 => ∃ i, x = .int i ∧ P (.int (-i)) st1 := by
  rw [ev]; simp only [Wd_bind]
  constructor
  · intro h; refine h.mono fun x st1 h => ?_
    split at h
    · exact ⟨_, rfl, h⟩
    · exact h.elim
  · intro h; refine h.mono fun x st1 ⟨i, e, h⟩ => ?_
    subst e; exact h
theorem W_notE {a : E} : Wd (ev F G (.notE a) env st) P ↔ Wd (ev F G a env st) fun x st1 => ∃ k, truth st1 x = some k ∧ P (.bl (!k)) st1 := by
  rw [ev]; simp only [Wd_bind, Wd_lift, Option.map_eq_some_iff]
  constructor
  · intro h; exact h.mono fun x st1 ⟨d, ⟨k, e, e2⟩, h⟩ => ⟨k, e, by rw [e2]; exact h⟩
  · intro h; exact h.mono fun x st1 ⟨k, e, h⟩ => ⟨_, ⟨k, e, rfl⟩, h⟩
theorem W_and1 {a : E} : Wd (ev F G (.and1 a) env st) P ↔ Wd (ev F G a env st) P := by rw [ev]
theorem W_or1 {a : E} : Wd (ev F G (.or1 a) env st) P ↔ Wd (ev F G a env st) P := by rw [ev]
theorem W_and2 {a r : E} : Wd (ev F G (.and2 a r) env st) P ↔ Wd (ev F G a env st) fun x st1 => ∃ k, truth st1 x = some k ∧ if k = true then Wd (ev F G r env st1) P else P x st1 := by
  rw [ev]; simp only [Wd_bind]
  constructor
  · intro h; refine h.mono fun x st1 h => ?_
    split at h
    · rename_i e; exact ⟨true, e, by rw [if_pos rfl]; exact h⟩
    · rename_i e; exact ⟨false, e, by rw [if_neg (by simp)]; exact h⟩
    · exact h.elim
  · intro h; refine h.mono fun x st1 ⟨k, e, h⟩ => ?_
    rw [e]
    cases k
    · rw [if_neg (by simp)] at h; exact h
    · rw [if_pos rfl] at h; exact h
theorem W_or2 {a r : E} : Wd (ev F G (.or2 a r) env st) P ↔ Wd (ev F G a env st) fun x st1 => ∃ k, truth st1 x = some k ∧ if k = true then P x st1 else Wd (ev F G r env st1) P := by
  rw [ev]; simp only [Wd_bind]
  constructor
  · intro h; refine h.mono fun x st1 h => ?_
    split at h
    · rename_i e; exact ⟨true, e, by rw [if_pos rfl]; exact h⟩
    · rename_i e; exact ⟨false, e, by rw [if_neg (by simp)]; exact h⟩
    · exact h.elim
  · intro h; refine h.mono fun x st1 ⟨k, e, h⟩ => ?_
    rw [e]
    cases k
    · rw [if_neg (by simp)] at h; exact h
    · rw [if_pos rfl] at h; exact h
theorem W_cmp {op : Cop} {a b : E} : Wd (ev F G (.cmp op a b) env st) P ↔ Wd (ev F G a env st) fun x st1 => Wd (ev F G b env st1) fun y st2 => ∃ k, cmpD op x y st2 = some k ∧ P (.bl k) st2 := by
  rw [ev]; simp only [Wd_bind, Wd_lift, Option.map_eq_some_iff]
  constructor
  · intro h; exact h.mono fun x st1 h => h.mono fun y st2 ⟨d, ⟨k, e, e2⟩, h⟩ => ⟨k, e, by rw [e2]; exact h⟩
  · intro h; exact h.mono fun x st1 h => h.mono fun y st2 ⟨k, e, h⟩ => ⟨_, ⟨k, e, rfl⟩, h⟩
theorem W_ife {c : T} {a b : E} : Wd (ev F G (.ife c a b) env st) P ↔ Wd (evT F G c env st) fun k st1 => if k = true then Wd (ev F G a env st1) P else Wd (ev F G b env st1) P := by
  rw [ev]; simp only [Wd_bind, Wd_ite]
theorem W_tup {es : Es} : Wd (ev F G (.tup es) env st) P ↔ Wd (evs F G es env st) fun ds st1 => ds.length ≤ sizeLine ∧ P (.tup ds) st1 := by
  rw [ev]; simp only [Wd_bind, Wd_ite]
  constructor
  · intro h; refine h.mono fun x st1 h => ?_
    split at h
    · rename_i e; exact ⟨e, h⟩
    · exact h.elim
  · intro h; exact h.mono fun x st1 ⟨e, h⟩ => by rw [if_pos e]; exact h
theorem W_lst {es : Es} : Wd (ev F G (.lst es) env st) P ↔ Wd (evs F G es env st) fun ds st1 => ds.length ≤ sizeLine ∧ P (.ref st1.length) (st1 ++ [.lst ds]) := by
  rw [ev]; simp only [Wd_bind, Wd_ite]
  constructor
  · intro h; refine h.mono fun x st1 h => ?_
    split at h
    · rename_i e; exact ⟨e, h⟩
    · exact h.elim
  · intro h; exact h.mono fun x st1 ⟨e, h⟩ => by rw [if_pos e]; exact h
theorem W_dic {ks : List L2.Key} {es : Es} : Wd (ev F G (.dic ks es) env st) P ↔ Wd (evs F G es env st) fun ds st1 => (ks.length = ds.length ∧ ks.length ≤ 15) ∧ P (.ref st1.length) (st1 ++ [.dct ((ks.zip ds).foldl (fun acc kv => putKV acc kv.1 kv.2) [])]) := by
  rw [ev]; simp only [Wd_bind, Wd_ite]
  constructor
  · intro h; refine h.mono fun x st1 h => ?_
    split at h
    · rename_i e; exact ⟨e, h⟩
    · exact h.elim
  · intro h; exact h.mono fun x st1 ⟨e, h⟩ => by rw [if_pos e]; exact h
theorem W_call {f : Nat} {es : Es} : Wd (ev F G (.call f es) env st) P ↔ Wd (evs F G es env st) fun ds st1 => Wd (F f ds st1) P := by rw [ev]; simp only [Wd_bind]
theorem W_callK {f : Nat} {es ks : Es} {g : List Nat} : Wd (ev F G (.callK f es ks g) env st) P ↔ Wd (evs F G es env st) fun ds st1 => Wd (evs F G ks env st1) fun zs st2 => Wd (F f (g.map fun j => (ds ++ zs).getD j .non) st2) P := by rw [ev]; simp only [Wd_bind]
theorem W_blt {b : Blt} {es : Es} : Wd (ev F G (.blt b es) env st) P ↔ Wd (evs F G es env st) fun ds st1 => Wd (bltD b ds st1) P := by rw [ev]; simp only [Wd_bind]
theorem W_meth {m : Mt} {o : E} {es : Es} : Wd (ev F G (.meth m o es) env st) P ↔ Wd (ev F G o env st) fun x st1 => isLst x st1 = true ∧ Wd (evs F G es env st1) fun ds st2 => Wd (methD m x ds st2) P := by
  rw [ev]; simp only [Wd_bind, Wd_ite]
  constructor
  · intro h; refine h.mono fun x st1 h => ?_
    split at h
    · rename_i e; exact ⟨e, h⟩
    · exact h.elim
  · intro h; exact h.mono fun x st1 ⟨e, h⟩ => by rw [if_pos e]; exact h
theorem W_idx {a b : E} : Wd (ev F G (.idx a b) env st) P ↔ Wd (ev F G a env st) fun x st1 => Wd (ev F G b env st1) fun y st2 => Wd (idxD x y st2) P := by rw [ev]; simp only [Wd_bind]
theorem W_sl {a b c : E} : Wd (ev F G (.sl a b c) env st) P ↔ Wd (ev F G a env st) fun x st1 => Wd (ev F G b env st1) fun y st2 => Wd (ev F G c env st2) fun z st3 => Wd (slD x y z st3) P := by rw [ev]; simp only [Wd_bind]
theorem W_rev {a : E} : Wd (ev F G (.rev a) env st) P ↔ Wd (ev F G a env st) fun x st1 => Wd (revD x st1) P := by rw [ev]; simp only [Wd_bind]
theorem W_lc {own : List Nat} {elt : E} {t : Tg} {k : ItK} {es : Es} {c : T} : Wd (ev F G (.lc own elt t k es c) env st) P ↔ Wd (evs F G es env st) fun ds st1 => ∃ s, srcD k ds st1 = some s ∧
    Wd (lcLoop s (fun d st2 => (asg F G t d (wipeE env own) st2).bind fun env1 st3 => (evT F G c env1 st3).bind fun b st4 => if b then (ev F G elt env1 st4).bind fun y st5 => .ok (some y) st5 else .ok none st4) (s.len st1 + 1) 0 [] st1) P := by
  rw [ev]; simp only [Wd_bind]
  constructor
  · intro h; refine h.mono fun x st1 h => ?_
    split at h
    · exact h.elim
    · rename_i s e; exact ⟨s, e, h⟩
  · intro h; refine h.mono fun x st1 ⟨s, e, h⟩ => ?_
    rw [e]; exact h
theorem W_nil : Wd (evs F G .nil env st) PL' ↔ PL' [] st := by rw [evs]; exact Iff.rfl
theorem W_cons {e : E} {es : Es} : Wd (evs F G (.cons e es) env st) PL' ↔ Wd (ev F G e env st) fun d st1 => Wd (evs F G es env st1) fun ds st2 => PL' (d :: ds) st2 := by rw [evs]; simp only [Wd_bind, Wd_ok]
theorem W_val {e : E} : Wd (evT F G (.val e) env st) PT' ↔ Wd (ev F G e env st) fun x st1 => ∃ k, truth st1 x = some k ∧ PT' k st1 := by rw [evT]; simp only [Wd_bind, Wd_lift]
theorem W_vc {op : Cop} {a b : E} : Wd (evT F G (.vc op a b) env st) PT' ↔ Wd (ev F G a env st) fun x st1 => Wd (ev F G b env st1) fun y st2 => ∃ k, cmpD op x y st2 = some k ∧ PT' k st2 := by rw [evT]; simp only [Wd_bind, Wd_lift]
theorem W_not {t : T} : Wd (evT F G (.not t) env st) PT' ↔ Wd (evT F G t env st) fun b st1 => PT' (!b) st1 := by rw [evT]; simp only [Wd_bind, Wd_ok]
theorem W_tand1 {t : T} : Wd (evT F G (.and1 t) env st) PT' ↔ Wd (evT F G t env st) PT' := by rw [evT]
theorem W_tor1 {t : T} : Wd (evT F G (.or1 t) env st) PT' ↔ Wd (evT F G t env st) PT' := by rw [evT]
theorem W_tand2 {t r : T} : Wd (evT F G (.and2 t r) env st) PT' ↔ Wd (evT F G t env st) fun b st1 => if b = true then Wd (evT F G r env st1) PT' else PT' false st1 := by rw [evT]; simp only [Wd_bind, Wd_ite, Wd_ok]
theorem W_tor2 {t r : T} : Wd (evT F G (.or2 t r) env st) PT' ↔ Wd (evT F G t env st) fun b st1 => if b = true then PT' true st1 else Wd (evT F G r env st1) PT' := by rw [evT]; simp only [Wd_bind, Wd_ite, Wd_ok]
theorem W_yes : Wd (evT F G .yes env st) PT' ↔ PT' true st := by rw [evT]; exact Iff.rfl
theorem W_name {i : Nat} {d : D} : Wd (asg F G (.name i) d env st) PE' ↔ PE' (env.set i (some d)) st := by rw [asg]; exact Iff.rfl
theorem W_tgt {ts : Tgs} {d : D} : Wd (asg F G (.tup ts) d env st) PE' ↔ ∃ ds, partsOf d st = some ds ∧ Wd (asgs F G ts ds env st) PE' := by
  rw [asg]
  constructor
  · intro h; split at h
    · rename_i ds e; exact ⟨ds, e, h⟩
    · exact h.elim
  · intro ⟨ds, e, h⟩; rw [e]; exact h
theorem W_tgsub {o i : E} {d : D} : Wd (asg F G (.sub o i) d env st) PE' ↔ Wd (ev F G o env st) fun x st1 => Wd (ev F G i env st1) fun y st2 => ∃ st3, setD x y d st2 = some st3 ∧ PE' env st3 := by
  rw [asg]; simp only [Wd_bind]
  constructor
  · intro h; refine h.mono fun x st1 h => h.mono fun y st2 h => ?_
    split at h
    · rename_i s e; exact ⟨s, e, h⟩
    · exact h.elim
  · intro h; refine h.mono fun x st1 h => h.mono fun y st2 ⟨s, e, h⟩ => ?_
    rw [e]; exact h
theorem W_tgnil : Wd (asgs F G .nil [] env st) PE' ↔ PE' env st := by rw [asgs]; exact Iff.rfl
theorem W_tgcons {t : Tg} {ts : Tgs} {d : D} {ds : List D} : Wd (asgs F G (.cons t ts) (d :: ds) env st) PE' ↔ Wd (asg F G t d env st) fun env1 st1 => Wd (asgs F G ts ds env1 st1) PE' := by rw [asgs]; simp only [Wd_bind]
theorem W_asg {t : Tg} {e : E} : Wd (ex F G (.asg t e) env st) PO' ↔ Wd (ev F G e env st) fun d st1 => Wd (asg F G t d env st1) fun env1 st2 => PO' (.next env1) st2 := by rw [ex]; simp only [Wd_bind, Wd_ok]
theorem W_asgC {i : Nat} {own : List Nat} {elt : E} {t : Tg} {k : ItK} {es : Es} {c : T} : Wd (ex F G (.asgC i own elt t k es c) env st) PO' ↔ Wd (ev F G (.lc own elt t k es c) env st) fun d st1 => PO' (.next (env.set i (some d))) st1 := by rw [ex]; simp only [Wd_bind, Wd_ok]
theorem W_par {is : List Nat} {es : Es} : Wd (ex F G (.par is es) env st) PO' ↔ Wd (evs F G es env st) fun ds st1 => ds.length = is.length ∧ PO' (.next (setAll env is ds)) st1 := by
  rw [ex]; simp only [Wd_bind, Wd_ite]
  constructor
  · intro h; refine h.mono fun x st1 h => ?_
    split at h
    · rename_i e; exact ⟨e, h⟩
    · exact h.elim
  · intro h; exact h.mono fun x st1 ⟨e, h⟩ => by rw [if_pos e]; exact h
theorem W_exp {e : E} : Wd (ex F G (.exp e) env st) PO' ↔ Wd (ev F G e env st) fun _ st1 => PO' (.next env) st1 := by rw [ex]; simp only [Wd_bind, Wd_ok]
theorem W_ret {e : E} : Wd (ex F G (.ret e) env st) PO' ↔ Wd (ev F G e env st) fun d st1 => PO' (.ret d) st1 := by rw [ex]; simp only [Wd_bind, Wd_ok]
theorem W_if {c : T} {a b : Ss} : Wd (ex F G (.ite c a b) env st) PO' ↔ Wd (evT F G c env st) fun k st1 => if k = true then Wd (exs F G a env st1) PO' else Wd (exs F G b env st1) PO' := by rw [ex]; simp only [Wd_bind, Wd_ite]
theorem W_for {t : Tg} {k : ItK} {es : Es} {body : Ss} : Wd (ex F G (.for_ t k es body) env st) PO' ↔ Wd (evs F G es env st) fun ds st1 => ∃ s, srcD k ds st1 = some s ∧
    Wd (forLoop s (fun d env st => (asg F G t d env st).bind fun env1 st1 => exs F G body env1 st1) (s.len st1 + 1) 0 env st1) PO' := by
  rw [ex]; simp only [Wd_bind]
  constructor
  · intro h; refine h.mono fun x st1 h => ?_
    split at h
    · exact h.elim
    · rename_i s e; exact ⟨s, e, h⟩
  · intro h; refine h.mono fun x st1 ⟨s, e, h⟩ => ?_
    rw [e]; exact h
theorem W_snil : Wd (exs F G .nil env st) PO' ↔ PO' (.next env) st := by rw [exs]; exact Iff.rfl
/-- what is done behind a statement -/
def Then (Q : Env → Sto → Prop) (PO' : Out → Sto → Prop) : Out → Sto → Prop
  | .next env1, st1 => Q env1 st1
  | .brk env1, st1 => PO' (.brk env1) st1
  | .cnt env1, st1 => PO' (.cnt env1) st1
  | .ret d, st1 => PO' (.ret d) st1
theorem Then_next {Q : Env → Sto → Prop} : Then Q PO' (.next env) st ↔ Q env st := Iff.rfl
theorem Then_ret {Q : Env → Sto → Prop} {d : D} : Then Q PO' (.ret d) st ↔ PO' (.ret d) st := Iff.rfl
theorem W_scons {s : S} {ss : Ss} : Wd (exs F G (.cons s ss) env st) PO' ↔ Wd (ex F G s env st) (Then (fun env1 st1 => Wd (exs F G ss env1 st1) PO') PO') := by
  rw [exs]; simp only [Wd_bind]
  constructor
  · intro h; refine h.mono fun o st1 h => ?_
    cases o <;> exact h
  · intro h; refine h.mono fun o st1 h => ?_
    cases o <;> exact h
/-- what a def's body comes to -/
def Back (P : D → Sto → Prop) : Out → Sto → Prop
  | .ret d, st => P d st
  | .next _, st => P .non st
  | _, _ => False
theorem Back_ret {d : D} : Back P (.ret d) st ↔ P d st := Iff.rfl
theorem Back_next : Back P (.next env) st ↔ P .non st := Iff.rfl
end
section
variable {Pf : Nat → Option Fn} {G : Nat → Option D} {C : Nat → Option (List D → Sto → Res D)} {n f : Nat} {ds : List D} {st : Sto} {P : D → Sto → Prop}
/-- a def by its body -/
theorem W_def {fn : Fn} (hC : C f = none) (hf : (Pf f) = some fn) (hl : ds.length = fn.np) (h : Wd (exs (runC Pf G C n) G fn.body (ds.map some ++ List.replicate (fn.ns - fn.np) none) st) (Back P)) : Wd (runC Pf G C (n + 1) f ds st) P := by
  rw [runC, hC, hf]
  simp only []
  rw [if_pos hl, Wd_bind]
  refine h.mono fun o st1 h => ?_
  cases o <;> exact h
/-- a def by its contract -/
theorem W_con {c : List D → Sto → Res D} (hC : C f = some c) (h : Wd (c ds st) P) : Wd (runC Pf G C n f ds st) P := by
  cases n <;> (rw [runC, hC]; exact h)
end

/-! ### loops -/
section
variable {step : D → Env → Sto → Res Out} {P : Out → Sto → Prop} {s : Src}
/-- a turn of a for: what it leaves -/
def Turn (Inv : Env → Sto → Prop) (P : Out → Sto → Prop) : Out → Sto → Prop
  | .next env, st => Inv env st
  | .cnt env, st => Inv env st
  | .brk env, st => P (.next env) st
  | .ret d, st => P (.ret d) st
theorem W_loop (Inv : Nat → Env → Sto → Prop) (m : Nat) (hs : ∀ i env st, i < m → Inv i env st → ∃ d, s.at st i = some (some d) ∧ Wd (step d env st) (Turn (Inv (i + 1)) P)) (hd : ∀ env st, Inv m env st → s.at st m = some none ∧ P (.next env) st) :
    ∀ (n i : Nat) (env : Env) (st : Sto), i + n = m + 1 → i ≤ m → Inv i env st → Wd (forLoop s step n i env st) P
  | 0, i, env, st, e, hi, _ => by omega
  | n + 1, i, env, st, e, hi, h => by
    rw [forLoop]
    by_cases hm : i < m
    · obtain ⟨d, h1, h2⟩ := hs i env st hm h
      rw [h1]
      simp only [Wd_bind]
      refine h2.mono fun o st1 h => ?_
      cases o with
      | next env1 => exact W_loop Inv m hs hd n (i + 1) env1 st1 (by omega) (by omega) h
      | cnt env1 => exact W_loop Inv m hs hd n (i + 1) env1 st1 (by omega) (by omega) h
      | brk env1 => exact h
      | ret d => exact h
    · have : i = m := by omega
      subst this
      obtain ⟨h1, h2⟩ := hd env st h
      rw [h1]
      exact h2
theorem W_for_fix {ds : List D} {env : Env} {st : Sto} (Inv : Nat → Env → Sto → Prop) (h0 : Inv 0 env st) (hs : ∀ i d env st, ds[i]? = some d → Inv i env st → Wd (step d env st) (Turn (Inv (i + 1)) P)) (hd : ∀ env st, Inv ds.length env st → P (.next env) st) :
    Wd (forLoop (.fix ds) step ((Src.fix ds).len st + 1) 0 env st) P := by
  refine W_loop Inv ds.length (fun i env st hi h => ?_) (fun env st h => ?_) _ 0 env st (by simp [Src.len]) (Nat.zero_le _) h0
  · refine ⟨ds[i], ?_, hs i ds[i] env st (List.getElem?_eq_getElem hi) h⟩
    rw [Src.at, if_pos (by omega), List.getElem?_eq_getElem hi]
  · refine ⟨?_, hd env st h⟩
    rw [Src.at, if_pos (Nat.le_refl _), List.getElem?_eq_none (Nat.le_refl _)]
theorem W_for_live {r : Nat} {ds : List D} {env : Env} {st : Sto} (Inv : Nat → Env → Sto → Prop) (h0 : Inv 0 env st) (hl : ∀ i env st, Inv i env st → st[r]? = some (.lst ds)) (hs : ∀ i d env st, ds[i]? = some d → Inv i env st → Wd (step d env st) (Turn (Inv (i + 1)) P)) (hd : ∀ env st, Inv ds.length env st → P (.next env) st) :
    Wd (forLoop (.live r) step ((Src.live r).len st + 1) 0 env st) P := by
  refine W_loop Inv ds.length (fun i env st hi h => ?_) (fun env st h => ?_) _ 0 env st ?_ (Nat.zero_le _) h0
  · refine ⟨ds[i], ?_, hs i ds[i] env st (List.getElem?_eq_getElem hi) h⟩
    rw [Src.at, hl i env st h]
    simp only []
    rw [if_pos (by omega), List.getElem?_eq_getElem hi]
  · refine ⟨?_, hd env st h⟩
    rw [Src.at, hl _ env st h]
    simp only []
    rw [if_pos (Nat.le_refl _), List.getElem?_eq_none (Nat.le_refl _)]
  · rw [Src.len, hl 0 env st h0]; simp
theorem W_for_enum {s : Src} {ds : List D} {env : Env} {st : Sto} (Inv : Nat → Env → Sto → Prop) (h0 : Inv 0 env st) (hl : ∀ i env st, i ≤ ds.length → Inv i env st → s.at st i = some ds[i]?) (hlen : s.len st = ds.length) (hs : ∀ i d env st, ds[i]? = some d → Inv i env st → Wd (step (.tup [.int (i : Int), d]) env st) (Turn (Inv (i + 1)) P)) (hd : ∀ env st, Inv ds.length env st → P (.next env) st) :
    Wd (forLoop (.enum s) step ((Src.enum s).len st + 1) 0 env st) P := by
  refine W_loop Inv ds.length (fun i env st hi h => ?_) (fun env st h => ?_) _ 0 env st (by rw [Src.len, hlen]; omega) (Nat.zero_le _) h0
  · refine ⟨.tup [.int (i : Int), ds[i]], ?_, hs i ds[i] env st (List.getElem?_eq_getElem hi) h⟩
    rw [Src.at, hl i env st (by omega) h, List.getElem?_eq_getElem hi]
  · refine ⟨?_, hd env st h⟩
    rw [Src.at, hl _ env st (Nat.le_refl _) h, List.getElem?_eq_none (Nat.le_refl _)]
end
section
variable {step : D → Sto → Res (Option D)} {P : D → Sto → Prop} {s : Src}
/-- a turn of a comprehension -/
def LTurn (Inv : List D → Sto → Prop) (acc : List D) : Option D → Sto → Prop
  | none, st => Inv acc st
  | some y, st => acc.length < sizeLine ∧ Inv (acc ++ [y]) st
theorem W_lcl (Inv : Nat → List D → Sto → Prop) (m : Nat) (hs : ∀ i acc st, i < m → Inv i acc st → ∃ d, s.at st i = some (some d) ∧ Wd (step d st) (LTurn (Inv (i + 1)) acc)) (hd : ∀ acc st, Inv m acc st → s.at st m = some none ∧ P (.ref st.length) (st ++ [.lst acc])) :
    ∀ (n i : Nat) (acc : List D) (st : Sto), i + n = m + 1 → i ≤ m → Inv i acc st → Wd (lcLoop s step n i acc st) P
  | 0, i, acc, st, e, hi, _ => by omega
  | n + 1, i, acc, st, e, hi, h => by
    rw [lcLoop]
    by_cases hm : i < m
    · obtain ⟨d, h1, h2⟩ := hs i acc st hm h
      rw [h1]
      simp only [Wd_bind]
      refine h2.mono fun o st1 h => ?_
      cases o with
      | none => exact W_lcl Inv m hs hd n (i + 1) acc st1 (by omega) (by omega) h
      | some y =>
        simp only []
        rw [if_pos h.1]
        exact W_lcl Inv m hs hd n (i + 1) _ st1 (by omega) (by omega) h.2
    · have : i = m := by omega
      subst this
      obtain ⟨h1, h2⟩ := hd acc st h
      rw [h1]
      exact h2
theorem W_lc_fix {ds : List D} {st : Sto} (Inv : Nat → List D → Sto → Prop) (h0 : Inv 0 [] st) (hs : ∀ i d acc st, ds[i]? = some d → Inv i acc st → Wd (step d st) (LTurn (Inv (i + 1)) acc)) (hd : ∀ acc st, Inv ds.length acc st → P (.ref st.length) (st ++ [.lst acc])) :
    Wd (lcLoop (.fix ds) step ((Src.fix ds).len st + 1) 0 [] st) P := by
  refine W_lcl Inv ds.length (fun i env st hi h => ?_) (fun env st h => ?_) _ 0 [] st (by simp [Src.len]) (Nat.zero_le _) h0
  · refine ⟨ds[i], ?_, hs i ds[i] env st (List.getElem?_eq_getElem hi) h⟩
    rw [Src.at, if_pos (by omega), List.getElem?_eq_getElem hi]
  · refine ⟨?_, hd env st h⟩
    rw [Src.at, if_pos (Nat.le_refl _), List.getElem?_eq_none (Nat.le_refl _)]
theorem W_lc_live {r : Nat} {ds : List D} {st : Sto} (Inv : Nat → List D → Sto → Prop) (h0 : Inv 0 [] st) (hl : ∀ i acc st, Inv i acc st → st[r]? = some (.lst ds)) (hs : ∀ i d acc st, ds[i]? = some d → Inv i acc st → Wd (step d st) (LTurn (Inv (i + 1)) acc)) (hd : ∀ acc st, Inv ds.length acc st → P (.ref st.length) (st ++ [.lst acc])) :
    Wd (lcLoop (.live r) step ((Src.live r).len st + 1) 0 [] st) P := by
  refine W_lcl Inv ds.length (fun i env st hi h => ?_) (fun env st h => ?_) _ 0 [] st ?_ (Nat.zero_le _) h0
  · refine ⟨ds[i], ?_, hs i ds[i] env st (List.getElem?_eq_getElem hi) h⟩
    rw [Src.at, hl i env st h]
    simp only []
    rw [if_pos (by omega), List.getElem?_eq_getElem hi]
  · refine ⟨?_, hd env st h⟩
    rw [Src.at, hl _ env st h]
    simp only []
    rw [if_pos (Nat.le_refl _), List.getElem?_eq_none (Nat.le_refl _)]
  · rw [Src.len, hl 0 [] st h0]; simp
end

/-! ### operations -/
section
variable {st : Sto} {P : D → Sto → Prop} {Q : Sto → Prop} {i j : Int} {x y : Str} {r : Nat}
theorem X_add : Wd (binD .add (.int i) (.int j) st) P ↔ P (.int (i + j)) st := Iff.rfl
theorem X_sub : Wd (binD .sub (.int i) (.int j) st) P ↔ P (.int (i - j)) st := Iff.rfl
theorem X_mul : Wd (binD .mul (.int i) (.int j) st) P ↔ (small64 i || small64 j) = true ∧ P (.int (i * j)) st := by
  unfold binD; simp only []; rw [Wd_ite]
  constructor
  · intro h; split at h
    · rename_i e; exact ⟨e, h⟩
    · exact h.elim
  · intro ⟨e, h⟩; rw [if_pos e]; exact h
theorem X_fdiv : Wd (binD .fdiv (.int i) (.int j) st) P ↔ (0 < j ∧ j < 1073741824) ∧ P (.int (i / j)) st := by
  unfold binD; simp only [Bool.and_eq_true, decide_eq_true_eq]; rw [Wd_ite]
  constructor
  · intro h; split at h
    · rename_i e; exact ⟨e, h⟩
    · exact h.elim
  · intro ⟨e, h⟩; rw [if_pos e]; exact h
theorem X_md : Wd (binD .md (.int i) (.int j) st) P ↔ 0 < j ∧ P (.int (i % j)) st := by
  unfold binD; simp only [decide_eq_true_eq]; rw [Wd_ite]
  constructor
  · intro h; split at h
    · rename_i e; exact ⟨e, h⟩
    · exact h.elim
  · intro ⟨e, h⟩; rw [if_pos e]; exact h
theorem X_addT {xs ys : List D} : Wd (binD .add (.tup xs) (.tup ys) st) P ↔ xs.length + ys.length ≤ sizeLine ∧ P (.tup (xs ++ ys)) st := by
  unfold binD; simp only []; rw [Wd_ite]
  constructor
  · intro h; split at h
    · rename_i e; exact ⟨e, h⟩
    · exact h.elim
  · intro ⟨e, h⟩; rw [if_pos e]; exact h
theorem X_addL {r' : Nat} : Wd (binD .add (.ref r) (.ref r') st) P ↔ ∃ xs, st[r]? = some (.lst xs) ∧ ∃ ys, st[r']? = some (.lst ys) ∧ xs.length + ys.length ≤ sizeLine ∧ P (.ref st.length) (st ++ [.lst (xs ++ ys)]) := by
  unfold binD; simp only []
  constructor
  · intro h; split at h
    · rename_i e1 e2
      rw [Wd_ite] at h
      split at h
      · rename_i e; exact ⟨_, e1, _, e2, e, h⟩
      · exact h.elim
    · exact h.elim
  · intro ⟨xs, e1, ys, e2, e, h⟩
    rw [e1, e2]; simp only []; rw [if_pos e]; exact h
theorem X_int : Wd (bltD .int [.int i] st) P ↔ P (.int i) st := Iff.rfl
theorem X_intB {b : Bool} : Wd (bltD .int [.bl b] st) P ↔ P (.int (if b then 1 else 0)) st := Iff.rfl
theorem X_abs : Wd (bltD .abs [.int i] st) P ↔ P (.int (if i < 0 then -i else i)) st := Iff.rfl
theorem X_lenT {xs : List D} : Wd (bltD .len [.tup xs] st) P ↔ P (.int xs.length) st := Iff.rfl
theorem X_lenS {xs : List D} : Wd (bltD .len [.scr xs] st) P ↔ P (.int xs.length) st := Iff.rfl
theorem X_lenR : Wd (bltD .len [.ref r] st) P ↔ ∃ xs, st[r]? = some (.lst xs) ∧ P (.int xs.length) st := by
  unfold bltD; simp only []
  constructor
  · intro h; split at h
    · rename_i e; exact ⟨_, e, h⟩
    · exact h.elim
  · intro ⟨xs, e, h⟩; rw [e]; exact h
theorem X_tupR : Wd (bltD .tuple [.ref r] st) P ↔ ∃ xs, st[r]? = some (.lst xs) ∧ P (.tup xs) st := by
  unfold bltD; simp only []
  constructor
  · intro h; split at h
    · rename_i e; exact ⟨_, e, h⟩
    · exact h.elim
  · intro ⟨xs, e, h⟩; rw [e]; exact h
theorem X_idxT {xs : List D} : Wd (idxD (.tup xs) (.int i) st) P ↔ ∃ d, L2.atI xs i = some d ∧ P d st := Wd_lift
theorem X_idxS {xs : List D} : Wd (idxD (.scr xs) (.int i) st) P ↔ ∃ d, L2.atI xs i = some d ∧ P d st := Wd_lift
theorem X_idxR : Wd (idxD (.ref r) (.int i) st) P ↔ (∃ xs, st[r]? = some (.lst xs) ∧ ∃ d, L2.atI xs i = some d ∧ P d st) ∨ ∃ kvs, st[r]? = some (.dct kvs) ∧ ∃ d, getKV kvs (.inl i) = some d ∧ P d st := by
  unfold idxD; simp only []
  constructor
  · intro h; split at h
    · rename_i e1 e2; cases e2; exact .inl ⟨_, e1, Wd_lift.mp h⟩
    · rename_i e1; simp only [keyD] at h; exact .inr ⟨_, e1, Wd_lift.mp h⟩
    · exact h.elim
  · intro h
    rcases h with ⟨xs, e, h⟩ | ⟨kvs, e, h⟩
    · rw [e]; exact Wd_lift.mpr h
    · rw [e]; simp only [keyD]; exact Wd_lift.mpr h
theorem X_idxK : Wd (idxD (.ref r) (.str x) st) P ↔ ∃ kvs, st[r]? = some (.dct kvs) ∧ ∃ d, getKV kvs (.inr x) = some d ∧ P d st := by
  unfold idxD; simp only []
  constructor
  · intro h; split at h
    · rename_i e1 e2; cases e2
    · rename_i e1; simp only [keyD] at h; exact ⟨_, e1, Wd_lift.mp h⟩
    · exact h.elim
  · intro ⟨kvs, e, h⟩
    rw [e]; simp only [keyD]; exact Wd_lift.mpr h
theorem X_slT {xs : List D} {lo hi : D} : Wd (slD (.tup xs) lo hi st) P ↔ ∃ l, partD lo = some l ∧ ∃ h, partD hi = some h ∧ P (.tup (cutD xs l h)) st := by
  unfold slD
  constructor
  · intro h; split at h
    · rename_i e1 e2 e3; cases e3; exact ⟨_, e1, _, e2, h⟩
    · rename_i e3; cases e3
    · rename_i e3; cases e3
    · rename_i e3; cases e3
    · exact h.elim
  · intro ⟨l, e1, u, e2, h⟩; rw [e1, e2]; exact h
theorem X_slS {xs : List D} {lo hi : D} : Wd (slD (.scr xs) lo hi st) P ↔ ∃ l, partD lo = some l ∧ ∃ h, partD hi = some h ∧ P (.ref st.length) (st ++ [.lst (cutD xs l h)]) := by
  unfold slD
  constructor
  · intro h; split at h
    · rename_i e3; cases e3
    · rename_i e1 e2 e3; cases e3; exact ⟨_, e1, _, e2, h⟩
    · rename_i e3; cases e3
    · rename_i e3; cases e3
    · exact h.elim
  · intro ⟨l, e1, u, e2, h⟩; rw [e1, e2]; exact h
theorem X_setI {v : D} : (∃ st3, setD (.ref r) (.int i) v st = some st3 ∧ Q st3) ↔ (∃ xs, st[r]? = some (.lst xs) ∧ ∃ j, L2.ixN xs.length i = some j ∧ Q (st.set r (.lst (xs.set j v)))) ∨ ∃ kvs, st[r]? = some (.dct kvs) ∧ kvs.length < sizeLine ∧ Q (st.set r (.dct (putKV kvs (.inl i) v))) := by
  unfold setD; simp only []
  constructor
  · intro ⟨st3, e, h⟩
    split at e
    · rename_i e1 e2; cases e2
      obtain ⟨j, e4, rfl⟩ := Option.map_eq_some_iff.mp e
      exact .inl ⟨_, e1, j, e4, h⟩
    · rename_i e1; simp only [keyD] at e
      split at e
      · rename_i hl; cases e; exact .inr ⟨_, e1, hl, h⟩
      · cases e
    · cases e
  · intro h
    rcases h with ⟨xs, e, j, e2, h⟩ | ⟨kvs, e, hl, h⟩
    · rw [e]; simp only [e2, Option.map_some]; exact ⟨_, rfl, h⟩
    · rw [e]; simp only [keyD, hl, if_true]; exact ⟨_, rfl, h⟩
theorem X_setK {v : D} : (∃ st3, setD (.ref r) (.str x) v st = some st3 ∧ Q st3) ↔ ∃ kvs, st[r]? = some (.dct kvs) ∧ kvs.length < sizeLine ∧ Q (st.set r (.dct (putKV kvs (.inr x) v))) := by
  unfold setD; simp only []
  constructor
  · intro ⟨st3, e, h⟩
    split at e
    · rename_i e1 e2; cases e2
    · rename_i e1; simp only [keyD] at e
      split at e
      · rename_i hl; cases e; exact ⟨_, e1, hl, h⟩
      · cases e
    · cases e
  · intro ⟨kvs, e, hl, h⟩
    rw [e]; simp only [keyD, hl, if_true]; exact ⟨_, rfl, h⟩
theorem X_isLst {xs : List D} (h : st[r]? = some (.lst xs)) : isLst (.ref r) st = true := by unfold isLst; simp only [h]
theorem X_append {xs : List D} {d : D} (h : st[r]? = some (.lst xs)) (hl : xs.length < sizeLine) : Wd (methD .append (.ref r) [d] st) P ↔ P .non (st.set r (.lst (xs ++ [d]))) := by
  unfold methD; simp only [h, if_pos hl]; exact Iff.rfl
theorem X_pop0 {xs : List D} {d : D} (h : st[r]? = some (.lst (xs ++ [d]))) : Wd (methD .pop0 (.ref r) [] st) P ↔ P d (st.set r (.lst xs)) := by
  unfold methD; simp only [h]
  have : (xs ++ [d])[(xs ++ [d]).length - 1]? = some d := by simp
  rw [this]; simp only [List.dropLast_concat]; exact Iff.rfl
theorem X_popF {xs : List D} {d : D} (h : st[r]? = some (.lst (d :: xs))) : Wd (methD .popAt (.ref r) [.int 0] st) P ↔ P d (st.set r (.lst xs)) := by
  unfold methD; simp only [h]
  have e : seqIndex? 0 (d :: xs).length = some 0 := by unfold seqIndex?; simp
  rw [e]; exact Iff.rfl
theorem X_insF {xs : List D} {d : D} (h : st[r]? = some (.lst xs)) (hl : xs.length < sizeLine) : Wd (methD .insert (.ref r) [.int 0, d] st) P ↔ P .non (st.set r (.lst (d :: xs))) := by
  unfold methD; simp only [h]
  rw [if_pos (by simp [hl])]
  exact Iff.rfl
theorem X_extend {xs ys : List D} {q : Nat} (h : st[r]? = some (.lst xs)) (h2 : st[q]? = some (.lst ys)) (hl : xs.length + ys.length ≤ sizeLine) : Wd (methD .extend (.ref r) [.ref q] st) P ↔ P .non (st.set r (.lst (xs ++ ys))) := by
  unfold methD; simp only [h, h2, if_pos hl]; exact Iff.rfl
theorem C_lt : cmpD .lt (.int i) (.int j) st = some (decide (i < j)) := rfl
theorem C_le : cmpD .le (.int i) (.int j) st = some (decide (i ≤ j)) := rfl
theorem C_gt : cmpD .gt (.int i) (.int j) st = some (decide (j < i)) := rfl
theorem C_ge : cmpD .ge (.int i) (.int j) st = some (decide (j ≤ i)) := rfl
theorem C_eqI : cmpD .eq (.int i) (.int j) st = some (decide (i = j)) := rfl
theorem C_neI : cmpD .ne (.int i) (.int j) st = some (!decide (i = j)) := rfl
theorem C_eqS : cmpD .eq (.str x) (.str y) st = some (decide (x = y)) := rfl
theorem C_neS : cmpD .ne (.str x) (.str y) st = some (!decide (x = y)) := rfl
theorem C_rep {p q : PyData} (h : same p q = true) : cmpD .eq (.rep p) (.rep q) st = some true ∧ cmpD .ne (.rep p) (.rep q) st = some false := by
  constructor
  · show eqD st (.rep p) (.rep q) = _
    unfold eqD; simp only [h, if_true]
  · show (eqD st (.rep p) (.rep q)).map _ = _
    unfold eqD; simp only [h, if_true]; rfl
theorem toPys_ints {n : Nat} : ∀ ns : List Int, optMap (toPy st n) (ns.map D.int) = some (ns.map PyData.int)
  | [] => rfl
  | k :: ns => by rw [List.map_cons, optMap, toPys_ints ns]; cases n <;> rfl
theorem lay_ints : ∀ ns : List Int, PyData.canLayAll0 (ns.map PyData.int) = true
  | [] => rfl
  | k :: ns => by rw [List.map_cons, PyData.canLayAll0, lay_ints ns]; rfl
/-- a list of ints against the empty list -/
theorem C_neNil {ns : List Int} {q : Nat} (h : st[r]? = some (.lst (ns.map .int))) (h2 : st[q]? = some (.lst [])) : cmpD .ne (.ref r) (.ref q) st = some (!ns.isEmpty) := by
  show (eqD st (.ref r) (.ref q)).map _ = _
  have e0 : dctEq st (.ref r) (.ref q) = false := rfl
  have e1 : nilEq st (.ref r) (.ref q) = some ns.isEmpty := by unfold nilEq; simp only [h, h2]; cases ns <;> rfl
  unfold eqD; simp only [e0, e1]
  rfl
theorem get_app {o : Ob} {l : Sto} (h : st[r]? = some o) : (st ++ l)[r]? = some o := by
  rw [List.getElem?_append_left (List.getElem?_eq_some_iff.mp h).1]; exact h
theorem get_new {o : Ob} {l : Sto} : (st ++ o :: l)[st.length]? = some o := by
  rw [List.getElem?_append_right (Nat.le_refl _)]; simp
theorem get_set_self {o o' : Ob} (h : st[r]? = some o) : (st.set r o')[r]? = some o' := List.getElem?_set_self (List.getElem?_eq_some_iff.mp h).1
theorem get_set_ne {o o' : Ob} {q : Nat} (hn : q ≠ r) (h : st[r]? = some o) : (st.set q o')[r]? = some o := by rw [List.getElem?_set_ne hn]; exact h
end
end PL

set_option Elab.async false
set_option linter.all false
set_option maxRecDepth 100000
set_option maxHeartbeats 4000000
/-! PLV: books, as twelve words. -/
namespace PL
open PySem

def dom (i : Nat) : List Str := match i with
  | 0 => ["none", "perhaps", "sure"] | 1 => ["none", "perhaps", "sure"] | 2 => ["marked", "unraised", "never"] | 3 => ["answer", "check", "work"] | 4 => ["answer", "check", "work"] | 5 => ["values", "mark"] | 6 => ["none", "sure"]
  | 7 => ["first", "last", "between"] | 8 => ["ahead", "behind", "unless"] | 9 => ["ahead", "behind"] | 10 => ["struck", "kept"] | _ => ["one", "any"]
def bk (w : Nat → Str) : D := .tup [.str (w 0), .str (w 1), .str (w 2), .str (w 3), .str (w 4), .str (w 5), .str (w 6), .str (w 7), .str (w 8), .str (w 9), .str (w 10), .str (w 11)]
def pb (w : Nat → Str) : PyData := .tuple [.str (w 0), .str (w 1), .str (w 2), .str (w 3), .str (w 4), .str (w 5), .str (w 6), .str (w 7), .str (w 8), .str (w 9), .str (w 10), .str (w 11)]
def Gd (w : Nat → Str) : Prop := ∀ i, w i ∈ dom i
theorem Gd.set {w : Nat → Str} (h : Gd w) {i : Nat} {x : Str} (hx : x ∈ dom i) : Gd (setW w i x) := by
  intro j; unfold setW; split
  · rename_i e; rw [e]; exact hx
  · exact h j
theorem dom_out : ∀ {i : Nat}, 12 ≤ i → dom i = (["one", "any"] : List Str)
  | 0, h => by omega | 1, h => by omega | 2, h => by omega | 3, h => by omega | 4, h => by omega | 5, h => by omega | 6, h => by omega | 7, h => by omega | 8, h => by omega | 9, h => by omega | 10, h => by omega
  | _ + 11, _ => rfl
def domB (p : Str → Bool) : Bool := (List.range 12).all fun i => (dom i).all p
theorem domB_of {p : Str → Bool} (h : domB p = true) {i : Nat} {x : Str} (hx : x ∈ dom i) : p x = true := by
  unfold domB at h
  rw [List.all_eq_true] at h
  by_cases hi : i < 12
  · have := h i (List.mem_range.mpr hi)
    rw [List.all_eq_true] at this
    exact this x hx
  · rw [dom_out (by omega)] at hx
    have := h 11 (by simp)
    rw [List.all_eq_true] at this
    exact this x hx
theorem dom_ok : domB (fun x => PyData.canLay0 (.str x) && decide (x.length ≤ 8)) = true := by decide +kernel
theorem Gd.ok {w : Nat → Str} (h : Gd w) (i : Nat) : PyData.canLay0 (.str (w i)) = true ∧ (w i).length ≤ 8 := by
  have := domB_of dom_ok (h i)
  simpa only [Bool.and_eq_true, decide_eq_true_eq] using this
theorem grd_bk {w : Nat → Str} : ground (bk w) = true := rfl
theorem same_bk {w : Nat → Str} : same (pb w) (pb w) = true := by simp [pb, same, sameAll]
theorem toPy_bk {w : Nat → Str} {st : Sto} : toPy st 60 (bk w) = some (pb w) := rfl
theorem repr_bk {w : Nat → Str} (h : Gd w) {st : Sto} : bltD .repr [bk w] st = .ok (.rep (pb w)) st := by
  unfold bltD
  simp only [toPyR_of 60 _ _ (toPy_bk (w := w) (st := st))]
  have l : (pb w).canLay0 = true := by
    unfold pb
    simp only [PyData.canLay0, PyData.canLayAll0, Bool.and_eq_true, Bool.and_true]
    have o := fun i => by have := (h.ok i).1; rw [PyData.canLay0] at this; exact this
    exact ⟨o 0, o 1, o 2, o 3, o 4, o 5, o 6, o 7, o 8, o 9, o 10, o 11⟩
  have s : (pb w).showable = true := rfl
  have c : showCost (pb w) ≤ sizeLine := by
    unfold pb
    simp only [showCost, showCost.costAll]
    have o := fun i => (h.ok i).2
    have := o 0; have := o 1; have := o 2; have := o 3; have := o 4; have := o 5; have := o 6; have := o 7; have := o 8; have := o 9; have := o 10; have := o 11
    have : 2000 ≤ sizeLine := by decide
    omega
  rw [layD_of _ l, s, if_pos (by simp [c])]
/-- a book of a list of words -/
def wOf (ws : List Str) (i : Nat) : Str := match ws[i]? with | some x => x | none => "one"
theorem wOf_gd {ws : List Str} (hl : ws.length = 12) (h : ∀ i x, ws[i]? = some x → x ∈ dom i) : Gd (wOf ws) := by
  intro i; unfold wOf; split
  · rename_i e; exact h i _ e
  · rename_i e
    have : 12 ≤ i := by rw [← hl]; exact List.getElem?_eq_none_iff.mp e
    rw [dom_out this]; simp
theorem bk_wOf {ws : List Str} (hl : ws.length = 12) : D.tup (ws.map .str) = bk (wOf ws) := by
  match ws, hl with
  | [a, b, c, d, e, f, g, h, i, j, k, l], _ => rfl
theorem bk_at {w : Nat → Str} {i : Nat} (hi : i < 12) : L2.atI [D.str (w 0), .str (w 1), .str (w 2), .str (w 3), .str (w 4), .str (w 5), .str (w 6), .str (w 7), .str (w 8), .str (w 9), .str (w 10), .str (w 11)] (i : Int) = some (.str (w i)) := by
  match i, hi with
  | 0, _ => rfl | 1, _ => rfl | 2, _ => rfl | 3, _ => rfl | 4, _ => rfl | 5, _ => rfl | 6, _ => rfl | 7, _ => rfl | 8, _ => rfl | 9, _ => rfl | 10, _ => rfl | 11, _ => rfl
  | n + 12, h => omega
/-- by pure defs -/
theorem W_pure {Pf : Nat → Option Fn} {G : Nat → Option D} {C : Nat → Option (List D → Sto → Res D)} {n f : Nat} {ds : List D} {st st' : Sto} {d : D} {P : D → Sto → Prop} {m : List D → Sto → Res D} (hC : C f = some (pureC m)) (h : m ds [] = .ok d st') (hg : grounds ds = true) (hd : ground d = true) (k : P d st) :
    Wd (runC Pf G C n f ds st) P := W_con hC (by rw [pureC_ok hg h hd]; exact k)
end PL

set_option Elab.async false
set_option linter.all false
set_option maxRecDepth 100000
set_option maxHeartbeats 4000000
/-! PLX: while. -/
namespace PL
open PySem
section
variable {F : Nat → List D → Sto → Res D} {G : Nat → Option D} {PO' : Out → Sto → Prop} {env : PL.Env} {st : Sto}
theorem W_whl {c : T} {body : Ss} : Wd (ex F G (.whl c body) env st) PO' ↔ Wd (whlLoop (evT F G c) (exs F G body) whileMost env st) PO' := by rw [ex]
end
section
variable {test : PL.Env → Sto → Res Bool} {step : PL.Env → Sto → Res Out} {P : Out → Sto → Prop}
/-- a while by a bound on the turns left -/
theorem W_whl_inv (Inv : Nat → PL.Env → Sto → Prop) (hs : ∀ n env st, Inv n env st → Wd (test env st) fun b st1 => if b = true then ∃ k, n = k + 1 ∧ Wd (step env st1) (Turn (Inv k) P) else P (.next env) st1) :
    ∀ (n N : Nat) (env : PL.Env) (st : Sto), n < N → Inv n env st → Wd (whlLoop test step N env st) P
  | n, 0, env, st, hN, _ => absurd hN (Nat.not_lt_zero _)
  | n, N + 1, env, st, hN, h => by
    rw [whlLoop, Wd_bind]
    refine (hs n env st h).mono fun b st1 hb => ?_
    cases b with
    | false => exact hb
    | true =>
      rw [if_pos rfl] at hb
      obtain ⟨k, rfl, hb⟩ := hb
      rw [if_pos rfl, Wd_bind]
      refine hb.mono fun o st2 ho => ?_
      cases o with
      | next env1 => exact W_whl_inv Inv hs k N env1 st2 (by omega) ho
      | cnt env1 => exact W_whl_inv Inv hs k N env1 st2 (by omega) ho
      | brk env1 => exact ho
      | ret d => exact ho
end
end PL

set_option Elab.async false
set_option linter.all false
set_option maxRecDepth 100000
set_option maxHeartbeats 4000000
/-! PLY: the head: sys.modules looked at; constants that are tuples, dicts with text keys. -/
namespace PL
open PySem PySem.Spec PyProof.Rows L2 PySem.W He
/-- a value of the module's beginning is this datum -/
def rvB (K : PySem.W.Frag) : Nat → Value → D → Bool
  | 0, _, _ => false
  | n + 1, u, d => match d, u with
    | .non, .none => true
    | .bl b, .bool c => b == c
    | .int i, .int j _ => decide (i = j)
    | .str x, .str y _ => decide (x = y)
    | .tup ds, .ref a => (match K.lookup a with
      | some ⟨.type c, _, .seq its _, _⟩ => decide (c = "tuple") && (decide (its.size ≤ sizeLine) && (decide (its.toList.length = ds.length) && (its.toList.zip ds).all fun q => rvB K n q.1 q.2))
      | _ => false)
    | _, _ => false
theorem rvs_zip {K : PySem.W.Frag} {p : Value → D → Bool} (h : ∀ u d, p u d = true → ∃ v, RelV v u ∧ ∀ as H, RV K as H d v) : ∀ {us : List Value} {ds : List D}, us.length = ds.length → ((us.zip ds).all fun q => p q.1 q.2) = true → ∃ vs, Vals vs us ∧ ∀ as H, RVs K as H ds vs
  | [], [], _, _ => ⟨[], .nil, fun _ _ => rfl⟩
  | [], _ :: _, hl, _ => by cases hl
  | _ :: _, [], hl, _ => by cases hl
  | u :: us, d :: ds, hl, hp => by
    rw [List.zip_cons_cons, List.all_cons, Bool.and_eq_true] at hp
    obtain ⟨v, h1, h2⟩ := h u d hp.1
    obtain ⟨vs, h3, h4⟩ := rvs_zip h (Nat.succ.inj hl) hp.2
    exact ⟨v :: vs, .cons h1 h3, fun as H => ⟨v, vs, rfl, h2 as H, h4 as H⟩⟩
theorem rvB_ok {K : PySem.W.Frag} : ∀ (n : Nat) (u : Value) (d : D), rvB K n u d = true → ∃ v, RelV v u ∧ ∀ as H, RV K as H d v
  | 0, _, _, h => by cases h
  | n + 1, u, d, h => by
    unfold rvB at h
    split at h
    · exact ⟨.non, rfl, fun _ _ => rfl⟩
    · exact ⟨.bl _, by rw [show _ = _ from eq_of_beq h]; rfl, fun _ _ => rfl⟩
    · exact ⟨.int _, ⟨_, by rw [of_decide_eq_true h]⟩, fun _ _ => rfl⟩
    · exact ⟨.str _, ⟨_, by rw [of_decide_eq_true h]⟩, fun _ _ => rfl⟩
    · rename_i ds a
      split at h
      · rename_i c od its k sl e
        simp only [Bool.and_eq_true, decide_eq_true_eq] at h
        obtain ⟨rfl, h2, h3, h4⟩ := h
        obtain ⟨vs, h5, h6⟩ := rvs_zip (rvB_ok n) h3 h4
        exact ⟨.ref a, rfl, fun as H => ⟨a, vs, rfl, .inr ⟨_, its, k, e, rfl, rfl, h2, h5⟩, h6 as H⟩⟩
      · cases h
    · cases h
/-- a constant: a datum; a dict with text keys -/
inductive Ck where
  | con (x : Str) (d : D)
  | kd (x : Str) (kvs : List (Str × D))
def Ck.ok (K : PySem.W.Frag) : Ck → Bool
  | .con x d => (match PySem.W.nsIn K mainGlobals x with
    | some (some u) => rvB K 8 u d
    | _ => false)
  | .kd x kvs => eqO (PySem.W.nsIn K mainGlobals x) (some (some (.ref (ga K x)))) && kvs.all fun q => (match PySem.W.nsIn K (ga K x) q.1 with
    | some (some u) => rvB K 8 u q.2
    | _ => false)
theorem Ck.con_ok {K : PySem.W.Frag} {h : Heap} {mg : Str → Option Value} (X : K.In h) (G : h.Ns mainGlobals mg) {x : Str} {d : D} (c : (Ck.con x d).ok K = true) : ∃ u v, mg x = some u ∧ RelV v u ∧ ∀ as H, RV K as H d v := by
  unfold Ck.ok at c
  simp only [] at c
  split at c
  · rename_i u e
    obtain ⟨v, h1, h2⟩ := rvB_ok _ _ _ c
    exact ⟨u, v, PySem.W.mg_of X G e, h1, h2⟩
  · cases c
theorem Ck.kd_ok {K : PySem.W.Frag} {h : Heap} {w : World} {mg : Str → Option Value} {Gd : Nat → Option D} {i : Nat} (X : K.In h) (G : h.Ns mainGlobals mg) {x : Str} {kvs : List (Str × D)} (hG : Gd i = some (.tup (kvs.map fun q => .tup [.str q.1, q.2])))
    (hd : ∃ es n, KDict K w (ga K x) es n) (c : (Ck.kd x kvs).ok K = true) : KdFact K w mg Gd i x kvs := by
  unfold Ck.ok at c
  simp only [Bool.and_eq_true] at c
  obtain ⟨c1, c2⟩ := c
  obtain ⟨es, n, hd⟩ := hd
  refine ⟨hG, ga K x, es, n, PySem.W.mg_of X G (eqO_ok c1), hd, fun q hq => ?_⟩
  have c3 := List.all_eq_true.mp c2 q hq
  split at c3
  · rename_i u e
    obtain ⟨v, h1, h2⟩ := rvB_ok _ _ _ c3
    exact ⟨u, v, e, h1, h2⟩
  · cases c3
abbrev AlS : Type := Bool × AlT
def frS (n : Nat) (g : Addr → Option Obj) : PySem.W.Frag := frG g (sysModules :: asD g n)
def chS (cs : List Ck) (K : PySem.W.Frag) : Bool := sysB K && cs.all fun q => q.ok K
def obsS (n : Nat) (fa : List Fa) (fn : List DefD) (ts : List He.Tab) (cs : List Ck) (g : Addr → Option Obj) : AlS := (chS cs (frS n g), obsT fa fn ts (frS n g))
def hookS (n : Nat) (fa : List Fa) (fn : List DefD) (ts : List He.Tab) (cs : List Ck) : PySem.W.Hook where
  α := AlS
  obs := fun s => obsS n fa fn ts cs s.heap.get?
  val := fun w => (true, valT fn ts w)
  says := fun w h => ∃ K : PySem.W.Frag, K.In h ∧ SaysT fa fn ts w K ∧ chS cs K = true
  of := fun _ _ e => ⟨_, frG_in, congrArg (fun z : AlS => z.2) e, congrArg (fun z : AlS => z.1) e⟩
  keeps := fun _ _ _ ⟨K, hK, c⟩ k => ⟨K, PySem.W.Frag.In.keeps hK k, c⟩
theorem chS_sys {cs : List Ck} {K : PySem.W.Frag} (h : chS cs K = true) : sysB K = true := (ba h).1
theorem chS_at {cs : List Ck} {K : PySem.W.Frag} (h : chS cs K = true) (i : Nat) {q : Ck} (e : cs[i]? = some q := by rfl) : q.ok K = true := List.all_eq_true.mp (ba h).2 q (List.mem_of_getElem? e)
theorem obsS_eq {n : Nat} {fa : List Fa} {fn : List DefD} {ts : List He.Tab} {cs : List Ck} {g : Addr → Option Obj} {s : Shared} (h : ∀ a, g a = s.heap.get? a) : obsS n fa fn ts cs g = (hookS n fa fn ts cs).obs s := by
  have e : g = s.heap.get? := funext h
  rw [e] <;> rfl
end PL

set_option Elab.async false
set_option linter.all false
set_option maxRecDepth 100000
set_option maxHeartbeats 4000000
/-! VSA: the small language on values alone: a list is a value; a name owns its list, or it is one that nobody changes any more. -/
namespace PL
open PySem L2

inductive U where
  | non | bl (b : Bool) | int (i : Int) | str (x : Str) | tup (us : List U) | lst (us : List U) | dct (ks : List Key) (us : List U) | rep (d : PyData) | bag | ent (ts : List Str)
  deriving Inhabited
/-- a name's: whether it owns, the value -/
abbrev VEnv := List (Option (Bool × U))
inductive VR (σ α : Type) where
  | ok (a : α) (e : VEnv) (s : σ)
  | exc (c : Nat) (us : List U) (s : σ)
  | bad
def VR.bind {σ α β : Type} (r : VR σ α) (k : α → VEnv → σ → VR σ β) : VR σ β := match r with
  | .ok a e s => k a e s
  | .exc c us s => .exc c us s
  | .bad => .bad
/-- what a def tells -/
inductive FR (σ : Type) where
  | ok (o : Bool) (u : U) (s : σ)
  | exc (c : Nat) (us : List U) (s : σ)
  | bad
def vlift {σ α : Type} (o : Option α) (e : VEnv) (s : σ) : VR σ α := match o with
  | some a => .ok a e s
  | none => .bad

/-! ### operations -/
def vpy : Nat → U → Option PyData
  | _, .non => some .none
  | _, .bl b => some (.bool b)
  | _, .int i => some (.int i)
  | _, .str x => some (.str x)
  | n + 1, .tup us => (optMap (vpy n) us).map .tuple
  | n + 1, .lst us => (optMap (vpy n) us).map .list
  | _ + 1, .ent ts => some (.tuple (ts.map .str))
  | _, _ => none
/-- as vpy; dicts too -/
def vpyR : Nat → U → Option PyData
  | _, .non => some .none
  | _, .bl b => some (.bool b)
  | _, .int i => some (.int i)
  | _, .str x => some (.str x)
  | n + 1, .tup us => (optMap (vpyR n) us).map .tuple
  | n + 1, .lst us => (optMap (vpyR n) us).map .list
  | _ + 1, .ent ts => some (.tuple (ts.map .str))
  | n + 1, .dct ks us => (optMap (vpyR n) us).map fun ps => .dict ((ks.map keyPy).zip ps)
  | _, _ => none
def strsU : List U → Option (List Str)
  | [] => some []
  | .str x :: r => (strsU r).map (x :: ·)
  | _ :: _ => none
def vdctEq (a b : U) : Bool := match a, b with
  | .str _, .dct _ _ => true
  | _, _ => false
def vdctIn (a : U) (bs : List U) : Bool := match a with
  | .dct _ _ => (strsU bs).isSome
  | _ => false
def vnil (a b : U) : Option Bool := match a, b with
  | .lst us, .lst [] => some us.isEmpty
  | _, _ => none
def veqP (a b : U) : Option Bool := if vdctEq a b then some false else match vnil a b with
  | some r => some r
  | none => match vpy 60 a, vpy 60 b with
    | some x, some y => if x.canLay0 && y.canLay0 then some (PyData.eqv x y) else none
    | _, _ => none
def veq (a b : U) : Option Bool := match a, b with
  | .rep d, .rep e => if same d e then some true else none
  | .rep d, .str x => some (decide (d.shown = x))
  | .int i, .int j => some (decide (i = j))
  | .str x, .str y => some (decide (x = y))
  | .non, .non => some true
  | .non, .int _ => some false
  | .int _, .non => some false
  | .non, .str _ => some false
  | .str _, .non => some false
  | .bl x, .bl y => some (x == y)
  | a, b => veqP a b
def vinP (a : U) (bs : List U) : Option Bool := if vdctIn a bs then some false else match vpy 60 a, optMap (vpy 59) bs with
  | some x, some ys => if x.canLay0 && PyData.canLayAll0 ys then some (ys.any fun y => PyData.eqv y x) else none
  | _, _ => none
def vin (a b : U) : Option Bool := match b with
  | .lst us => vinP a us
  | .tup us => vinP a us
  | .ent ts => if vdctIn a (ts.map .str) = true then none else vinP a (ts.map .str)
  | _ => none
def vtruth : U → Option Bool
  | .non => some false
  | .bl b => some b
  | .int i => some (i != 0)
  | .str x => if x.length ≤ sizeLine then some ((x.length : Int) != 0) else none
  | .tup us => some (!us.isEmpty)
  | .lst us => some (!us.isEmpty)
  | .dct ks _ => some (!ks.isEmpty)
  | _ => none
def vbin (op : Bop) (a b : U) : Option (Bool × U) := match op, a, b with
  | .add, .int i, .int j => some (false, .int (i + j))
  | .sub, .int i, .int j => some (false, .int (i - j))
  | .mul, .int i, .int j => if small64 i || small64 j then some (false, .int (i * j)) else none
  | .fdiv, .int i, .int j => if decide (0 < j) && decide (j < 1073741824) then some (false, .int (i / j)) else none
  | .md, .int i, .int j => if decide (0 < j) then some (false, .int (i % j)) else none
  | .pow, .int i, .int j => if decide (0 ≤ j) && (decide (j ≤ 1000000) && decide (i.natAbs < 2 ^ 64)) then some (false, .int (i ^ j.toNat)) else none
  | .add, .str x, .str y => if x.length + y.length ≤ sizeLine then some (false, .str (x ++ y)) else none
  | .add, .tup xs, .tup ys => if xs.length + ys.length ≤ sizeLine then some (false, .tup (xs ++ ys)) else none
  | .add, .lst xs, .lst ys => if xs.length + ys.length ≤ sizeLine then some (true, .lst (xs ++ ys)) else none
  | .mul, .tup xs, .int k => if !xs.isEmpty && (decide (xs.length ≤ 1000) && (decide (1 ≤ k) && decide (k ≤ 1000))) then some (false, .tup (List.replicate k.toNat xs).flatten) else none
  | .mul, .lst xs, .int k => if decide (-(2 ^ 63) ≤ k) && (decide (k < 2 ^ 63) && decide (xs.length * k.toNat ≤ sizeLine)) then some (true, .lst (List.replicate k.toNat xs).flatten) else none
  | _, _, _ => none
def vcmp (op : Cop) (a b : U) : Option Bool := match op, a, b with
  | .eq, a, b => veq a b
  | .ne, a, b => (veq a b).map (!·)
  | .lt, .int i, .int j => some (decide (i < j))
  | .le, .int i, .int j => some (decide (i ≤ j))
  | .gt, .int i, .int j => some (decide (j < i))
  | .ge, .int i, .int j => some (decide (j ≤ i))
  | .isn, .non, .non => some true
  | .isn, _, .non => some false
  | .isnn, .non, .non => some false
  | .isnn, _, .non => some true
  | .isin, a, b => vin a b
  | .notin, a, b => (vin a b).map (!·)
  | _, _, _ => none
def vty : U → Option Ty
  | .bl _ => some .bool
  | .int _ => some .int
  | .str _ => some .str
  | .tup _ => some .tup
  | .lst _ => some .lst
  | .dct _ _ => some .dct
  | .rep _ => some .str
  | _ => none
def visi (t : Ty) (u : U) : Option Bool := match u with
  | .non => some false
  | u => match vty u with
    | some v => some (decide (v = t) || (decide (v = .bool) && decide (t = .int)))
    | none => none
def vkey : U → Option Key
  | .int i => some (.inl i)
  | .str x => some (.inr x)
  | _ => none
def getU : List Key → List U → Key → Option U
  | k' :: ks, u :: us, k => if k' = k then some u else getU ks us k
  | _, _, _ => none
def putU (k : Key) (v : U) : List Key → List U → List U
  | k' :: ks, u :: us => (if k' = k then v else u) :: putU k v ks us
  | _, us => us
def hasK (k : Key) (ks : List Key) : Bool := ks.any fun k' => decide (k' = k)
def itemsU : U → Option (List U)
  | .tup xs => some xs
  | .lst xs => some xs
  | _ => none
def keysU : List U → Option (List Key)
  | [] => some []
  | u :: r => match vkey u with
    | some k => (keysU r).map (k :: ·)
    | none => none
def intsU : List U → Option (List Int)
  | [] => some []
  | .int i :: r => (intsU r).map (i :: ·)
  | _ :: _ => none
def vdz (u v : U) : Option (Bool × U) := match itemsU u, itemsU v with
  | some xs, some ys => (match keysU xs with
    | some ks => if ks.length = ys.length ∧ ks.Nodup then some (true, .dct ks ys) else none
    | none => none)
  | _, _ => none
def pairsU : List U → Option (List (Int × U))
  | [] => some []
  | .tup [.int i, d] :: r => (pairsU r).map ((i, d) :: ·)
  | _ :: _ => none
def vsrtP (xs : List U) : Option (Bool × U) := match pairsU xs with
  | some ps => if ps.length < 64 ∧ (ps.map (·.1)).Nodup then some (true, .lst ((sortP ps).map fun p => .tup [.int p.1, p.2])) else none
  | none => none
def vsrt (u : U) : Option (Bool × U) := match itemsU u with
  | some xs => (match intsU xs with
    | some ns => if ns.length < 64 then some (true, .lst ((sortI ns).map .int)) else none
    | none => match u with
      | .lst _ => vsrtP xs
      | _ => none)
  | none => none
def vblt (b : Blt) (us : List U) : Option (Bool × U) := match b, us with
  | .len, [.tup xs] => some (false, .int xs.length)
  | .len, [.lst xs] => some (false, .int xs.length)
  | .len, [.ent ts] => some (false, .int ts.length)
  | .len, [.str x] => if x.length ≤ sizeLine then some (false, .int x.length) else none
  | .abs, [.int i] => some (false, .int (if i < 0 then -i else i))
  | .int, [.int i] => some (false, .int i)
  | .int, [.bl b] => some (false, .int (if b then 1 else 0))
  | .tuple, [.tup xs] => some (false, .tup xs)
  | .tuple, [.lst xs] => some (false, .tup xs)
  | .list, [.tup xs] => some (true, .lst xs)
  | .list, [.lst xs] => some (true, .lst xs)
  | .min2, [.int i, .int j] => some (false, .int (if j < i then j else i))
  | .max2, [.int i, .int j] => some (false, .int (if j > i then j else i))
  | .repr, [u] => match vpyR 60 u with
    | some p => if layD p && (p.showable && decide (showCost p ≤ sizeLine)) then some (false, .rep p) else none
    | none => none
  | .strI, [.int i] => if decide (i.natAbs.log2 < 1920) then some (false, .str (toString i)) else none
  | .isi t, [u] => (visi t u).map fun b => (false, .bl b)
  | .srt, [u] => vsrt u
  | .dictP, [u, v] => vdz u v
  | _, _ => none
def vidx (a b : U) : Option U := match a, b with
  | .tup xs, .int i => atU xs i
  | .lst xs, .int i => atU xs i
  | .ent ts, .int i => (atI ts i).map .str
  | .str x, .int i => if x.length ≤ sizeLine then (atI x.cps.toList i).map fun c => .str ⟨#[c]⟩ else none
  | .dct ks us, k => match vkey k with
    | some k => getU ks us k
    | none => none
  | _, _ => none
where atU (xs : List U) (i : Int) : Option U := (ixN xs.length i).bind fun j => xs[j]?
/-- what stands at a text in a dict of constants: pairs -/
def pairU' : List U → Str → Option U
  | .tup [.str y, v] :: r, k => if y = k then some v else pairU' r k
  | _, _ => none
def gkU (c : Option U) (x : U) : Option U := match c, x with
  | some (.tup ps), .str k => pairU' ps k
  | _, _ => none
def ixU (ys : List Str) (x : U) : Option U := match x with
  | .str k => if k ∈ ys then some (.int (ys.idxOf k : Nat)) else none
  | _ => none
def ixmU (o x : U) : Option U := match o with
  | .ent ys => ixU ys x
  | .lst xs => match strsU xs with
    | some ys => ixU ys x
    | none => none
  | _ => none
def asT : U → Option (List U)
  | .tup xs => some xs
  | _ => none
def isRowU : U → Bool
  | .ent _ => true
  | .lst _ => true
  | _ => false
def vpart : U → Option (Option Int)
  | .non => some none
  | .int i => some (some i)
  | _ => none
def vsl (a lo hi : U) : Option (Bool × U) := match vpart lo, vpart hi, a with
  | some l, some h, .tup xs => some (false, .tup (cutD xs l h))
  | some l, some h, .lst xs => some (true, .lst (cutD xs l h))
  | some l, some h, .str x => if x.length ≤ sizeLine then some (false, .str ⟨(cutD x.cps.toList l h).toArray⟩) else none
  | _, _, _ => none
def vrev (a : U) : Option (Bool × U) := match a with
  | .lst xs => some (true, .lst xs.reverse)
  | _ => none
def vset (a i v : U) : Option U := match a with
  | .lst xs => match i with
    | .int k => (ixN xs.length k).map fun j => .lst (xs.set j v)
    | _ => none
  | .dct ks us => match vkey i with
    | some k => if ks.length < sizeLine then some (if hasK k ks = true then .dct ks (putU k v ks us) else .dct (ks ++ [k]) (us ++ [v])) else none
    | none => none
  | _ => none
/-- a list's method: what it tells, the list behind -/
def vmeth (m : Mt) (xs : List U) (us : List U) : Option (U × List U) := match m, us with
  | .append, [d] => if xs.length < sizeLine then some (.non, xs ++ [d]) else none
  | .pop0, [] => match xs[xs.length - 1]? with
    | some d => some (d, xs.dropLast)
    | none => none
  | .popAt, [.int i] => if decide (-(2 ^ 63) ≤ i) && decide (i < 2 ^ 63) then
      match seqIndex? i xs.length with
      | some k => match xs[k]? with
        | some d => some (d, xs.eraseIdx k)
        | none => none
      | none => none
    else none
  | .insert, [.int i, d] => if decide (xs.length < sizeLine) && (decide (0 ≤ i) && decide (i < 2 ^ 63)) then some (.non, xs.take i.toNat ++ [d] ++ xs.drop i.toNat) else none
  | .extend, [.lst ys] => if xs.length + ys.length ≤ sizeLine then some (.non, xs ++ ys) else none
  | _, _ => none
def vjoin (x : Str) (u : U) : Option (Bool × U) := match itemsU u with
  | some xs => (match strsU xs with
    | some ys => if (ys.map (·.length)).sum + ys.length * x.length ≤ 16777216 then some (false, .str (Txt.join x ys)) else none
    | none => none)
  | none => none
/-- methods of texts -/
def vsm (m : Tm) (x : Str) (us : List U) : Option (Bool × U) := match m, us with
  | .join, [u] => vjoin x u
  | .split, [.str b] => if (b.length == 0) = false ∧ x.length + 2 ≤ sizeLine then some (true, .lst ((Txt.split x b).map .str)) else none
  | .upper, [] => if x.length ≤ 5592405 then some (false, .str (Txt.upper x)) else none
  | _, _ => none
def rangeU (lo c : Int) (n : Nat) : List U := (List.range n).map fun (i : Nat) => U.int (lo + (i : Int) * c)
def signsU (x : Str) : List U := x.cps.toList.map fun c => U.str ⟨#[c]⟩
def vseq : U → Option (List U)
  | .tup us => some us
  | .lst us => some us
  | _ => none
def numU : Nat → List U → List U
  | _, [] => []
  | i, u :: us => .tup [.int (i : Int), u] :: numU (i + 1) us
def pairU : List U → List U → List U
  | u :: us, v :: vs => .tup [u, v] :: pairU us vs
  | _, _ => []
def vsrc (k : ItK) (us : List U) : Option (List U) := match k, us with
  | .plain, [.str x] => some (signsU x)
  | .plain, [.ent ts] => some (ts.map .str)
  | .plain, [d] => vseq d
  | .range1, [.int n] => if big62 n then some (rangeU 0 1 n.toNat) else none
  | .range2, [.int a, .int b] => if big62 a && big62 b then some (rangeU a 1 (b - a).toNat) else none
  | .range3, [.int a, .int b, .int c] => if (big62 a && big62 b) && decide (c = -1) then some (rangeU a (-1) (a - b).toNat) else none
  | .enum, [d] => (vseq d).map (numU 0)
  | .zip, [d, e] => match vseq d, vseq e with
    | some s, some t => some (pairU s t)
    | _, _ => none
  | _, _ => none

/-! ### the evaluator -/
inductive BV where
  | val (o : Bool) (u : U) | var (i : Nat)
def slotU (e : VEnv) (i : Nat) : Option U := match e[i]? with
  | some (some (_, u)) => some u
  | _ => none
def BV.get (b : BV) (e : VEnv) : Option U := match b with
  | .val _ u => some u
  | .var i => slotU e i
def getAll (e : VEnv) : List BV → Option (List U)
  | [] => some []
  | b :: bs => match b.get e, getAll e bs with
    | some u, some us => some (u :: us)
    | _, _ => none
mutual
/-- no object within -/
def flat : U → Bool
  | .tup us => flats us
  | .lst _ => false
  | .dct _ _ => false
  | .bag => false
  | _ => true
def flats : List U → Bool
  | [] => true
  | u :: us => flat u && flats us
end
def flatR (o : Bool) (u : U) : Bool := match o, u with
  | true, .lst us => flats us
  | true, .dct _ us => flats us
  | _, u => flat u
/-- whether a name's own object is handed in -/
def ownIn (e : VEnv) : List BV → Bool
  | [] => false
  | .val _ _ :: bs => ownIn e bs
  | .var i :: bs => match e[i]? with
    | some (some (true, _)) => true
    | _ => ownIn e bs
/-- names that give away what they own -/
def frzB (e : VEnv) : List BV → VEnv
  | [] => e
  | .val _ _ :: bs => frzB e bs
  | .var i :: bs => match e[i]? with
    | some (some (_, u)) => frzB (e.set i (some (false, u))) bs
    | _ => frzB e bs
def endC (e : VEnv) (bs : List BV) (o : Bool) (u : U) : VEnv := if ownIn e bs = true then (if flatR o u = true then e else frzB e bs) else e
inductive VOut where
  | next | brk | cnt | ret (o : Bool) (u : U)
def setAllV (env : VEnv) : List Nat → List (Bool × U) → VEnv
  | i :: is, d :: ds => setAllV (env.set i (some d)) is ds
  | _, _ => env
def wipeV (env : VEnv) : List Nat → VEnv
  | [] => env
  | v :: vs => (wipeV env vs).set v none
def restV (env0 : VEnv) : List Nat → VEnv → VEnv
  | [], env => env
  | v :: vs, env => match env0[v]? with
    | some z => restV env0 vs (env.set v z)
    | none => restV env0 vs env
section
variable {σ : Type}
/-- what stands at a name is not taken -/
def borrow (e : E) (r : VEnv → σ → VR σ (Bool × U)) (env : VEnv) (s : σ) : VR σ BV := match e with
  | .var i => match env[i]? with
    | some (some _) => .ok (.var i) env s
    | _ => .bad
  | _ => (r env s).bind fun x e1 s1 => .ok (.val x.1 x.2) e1 s1
/-- the name whose object is changed -/
def asVar : E → Option Nat
  | .var i => some i
  | _ => none
def okE (r : FR σ) (e : VEnv) : VR σ (Bool × U) := match r with
  | .ok o u s => .ok (o, u) e s
  | .exc c us s => .exc c us s
  | .bad => .bad
def ofF (r : FR σ) (e : VEnv) (bs : List BV) : VR σ (Bool × U) := match r with
  | .ok o u s => .ok (o, u) (endC e bs o u) s
  | .exc c us s => .exc c us s
  | .bad => .bad
def vlcL (step : U → VEnv → σ → VR σ (Option U)) : List U → List U → VEnv → σ → VR σ (List U)
  | [], acc, env, s => .ok acc env s
  | x :: xs, acc, env, s => (step x env s).bind fun o e1 s1 => match o with
    | none => vlcL step xs acc e1 s1
    | some y => if acc.length < sizeLine then vlcL step xs (acc ++ [y]) e1 s1 else .bad
def vforL (step : U → VEnv → σ → VR σ VOut) : List U → VEnv → σ → VR σ VOut
  | [], env, s => .ok .next env s
  | x :: xs, env, s => (step x env s).bind fun o e1 s1 => match o with
    | .next => vforL step xs e1 s1
    | .cnt => vforL step xs e1 s1
    | .brk => .ok .next e1 s1
    | .ret o u => .ok (.ret o u) e1 s1
def vwhl (test : VEnv → σ → VR σ Bool) (step : VEnv → σ → VR σ VOut) : Nat → VEnv → σ → VR σ VOut
  | 0, _, _ => .bad
  | n + 1, env, s => (test env s).bind fun b e1 s1 => if b then (step e1 s1).bind fun o e2 s2 => match o with
      | .next => vwhl test step n e2 s2
      | .cnt => vwhl test step n e2 s2
      | .brk => .ok .next e2 s2
      | .ret o u => .ok (.ret o u) e2 s2
    else .ok .next e1 s1
variable (F : Nat → List U → σ → FR σ) (G : Nat → Option U)
mutual
def vE : E → VEnv → σ → VR σ (Bool × U)
  | .var i, env, s => match env[i]? with
    | some (some (_, u)) => .ok (false, u) (env.set i (some (false, u))) s
    | _ => .bad
  | .cI i, env, s => .ok (false, .int i) env s
  | .cB b, env, s => .ok (false, .bl b) env s
  | .cS x, env, s => .ok (false, .str x) env s
  | .cN, env, s => .ok (false, .non) env s
  | .gcon i, env, s => match G i with
    | some u => .ok (false, u) env s
    | none => .bad
  | .gkd i e, env, s => (borrow e (vE e) env s).bind fun x e1 s1 => match x.get e1 with
    | some u => vlift ((gkU (G i) u).map fun w => (false, w)) e1 s1
    | none => .bad
  | .ixl ys e, env, s => (borrow e (vE e) env s).bind fun x e1 s1 => match x.get e1 with
    | some u => vlift ((ixU ys u).map fun w => (false, w)) e1 s1
    | none => .bad
  | .ent ts, env, s => .ok (false, .ent ts) env s
  | .ixm o a, env, s => (borrow o (vE o) env s).bind fun x e1 s1 => match x.get e1 with
    | some u => if isRowU u = true then (borrow a (vE a) e1 s1).bind fun y e2 s2 => (match x.get e2, y.get e2 with
      | some u, some v => vlift ((ixmU u v).map fun w => (false, w)) e2 s2
      | _, _ => .bad) else .bad
    | none => .bad
  | .stup fs es, env, s => (vSts fs es env s).bind fun us e1 s1 => if us.length ≤ sizeLine then .ok (false, .tup us) e1 s1 else .bad
  | .bin op a b, env, s => (borrow a (vE a) env s).bind fun x e1 s1 => (borrow b (vE b) e1 s1).bind fun y e2 s2 => match x.get e2, y.get e2 with
    | some u, some v => vlift (vbin op u v) e2 s2
    | _, _ => .bad
  | .neg a, env, s => (vE a env s).bind fun x e1 s1 => match x.2 with
    | .int i => .ok (false, .int (-i)) e1 s1
    | _ => .bad
  | .notE a, env, s => (borrow a (vE a) env s).bind fun x e1 s1 => match x.get e1 with
    | some u => vlift ((vtruth u).map fun b => (false, U.bl (!b))) e1 s1
    | none => .bad
  | .and1 a, env, s => vE a env s
  | .and2 a r, env, s => (vE a env s).bind fun x e1 s1 => match vtruth x.2 with
    | some true => vE r e1 s1
    | some false => .ok x e1 s1
    | none => .bad
  | .or1 a, env, s => vE a env s
  | .or2 a r, env, s => (vE a env s).bind fun x e1 s1 => match vtruth x.2 with
    | some true => .ok x e1 s1
    | some false => vE r e1 s1
    | none => .bad
  | .cmp op a b, env, s => (borrow a (vE a) env s).bind fun x e1 s1 => (borrow b (vE b) e1 s1).bind fun y e2 s2 => match x.get e2, y.get e2 with
    | some u, some v => vlift ((vcmp op u v).map fun b => (false, U.bl b)) e2 s2
    | _, _ => .bad
  | .cmp2 op op' a b c, env, s => (borrow a (vE a) env s).bind fun x e1 s1 => (vE b e1 s1).bind fun y e2 s2 => match x.get e2 with
    | some u => (match vcmp op u y.2 with
      | some true => (borrow c (vE c) e2 s2).bind fun z e3 s3 => (match z.get e3 with
        | some w => vlift ((vcmp op' y.2 w).map fun b => (false, U.bl b)) e3 s3
        | none => .bad)
      | some false => .ok (false, .bl false) e2 s2
      | none => .bad)
    | none => .bad
  | .ife c a b, env, s => (vT c env s).bind fun k e1 s1 => if k then vE a e1 s1 else vE b e1 s1
  | .tup es, env, s => (vEs es env s).bind fun us e1 s1 => if us.length ≤ sizeLine then .ok (false, .tup (us.map (·.2))) e1 s1 else .bad
  | .lst es, env, s => (vEs es env s).bind fun us e1 s1 => if us.length ≤ sizeLine then .ok (true, .lst (us.map (·.2))) e1 s1 else .bad
  | .dic ks es, env, s => (vEs es env s).bind fun us e1 s1 => if ks.length = us.length ∧ (ks.length ≤ 15 ∧ ks.Nodup) then .ok (true, .dct ks (us.map (·.2))) e1 s1 else .bad
  | .call f es, env, s => (vBs es env s).bind fun bs e1 s1 => match getAll e1 bs with
    | some us => ofF (F f us s1) e1 bs
    | none => .bad
  | .callK f es ks g, env, s => (vBs es env s).bind fun bs e1 s1 => (vBs ks e1 s1).bind fun cs e2 s2 => match getAll e2 (bs ++ cs) with
    | some us => ofF (F f (g.map fun j => us.getD j .non) s2) e2 (bs ++ cs)
    | none => .bad
  | .blt b es, env, s => (vBs es env s).bind fun bs e1 s1 => match getAll e1 bs with
    | some us => vlift (vblt b us) e1 s1
    | none => .bad
  | .meth m o es, env, s => match asVar o with
    | some i => (match env[i]? with
      | some (some (true, .lst _)) => (vEs es env s).bind fun us e1 s1 => (match e1[i]? with
        | some (some (true, .lst xs)) => (match vmeth m xs (us.map (·.2)) with
          | some (r, ys) => .ok (false, r) (e1.set i (some (true, .lst ys))) s1
          | none => .bad)
        | _ => .bad)
      | _ => .bad)
    | none => .bad
  | .smeth m o es, env, s => (borrow o (vE o) env s).bind fun x e1 s1 => match x.get e1 with
    | some (.str a) => (vBs es e1 s1).bind fun bs e2 s2 => (match getAll e2 bs with
      | some us => vlift (vsm m a us) e2 s2
      | none => .bad)
    | _ => .bad
  | .idx a b, env, s => (borrow a (vE a) env s).bind fun x e1 s1 => (borrow b (vE b) e1 s1).bind fun y e2 s2 => match x.get e2, y.get e2 with
    | some u, some v => vlift ((vidx u v).map fun w => (false, w)) e2 s2
    | _, _ => .bad
  | .sl a lo hi, env, s => (borrow a (vE a) env s).bind fun x e1 s1 => (vE lo e1 s1).bind fun l e2 s2 => (vE hi e2 s2).bind fun h e3 s3 => match x.get e3 with
    | some u => vlift (vsl u l.2 h.2) e3 s3
    | none => .bad
  | .rev a, env, s => (borrow a (vE a) env s).bind fun x e1 s1 => match x.get e1 with
    | some u => vlift (vrev u) e1 s1
    | none => .bad
  | .lc own elt t k es c, env, s => (vEs es env s).bind fun us e1 s1 => if tgOwn t own = true then (match vsrc k (us.map (·.2)) with
    | none => .bad
    | some items => (vlcL (fun x e2 s2 => (vA t (false, x) (wipeV e2 own) s2).bind fun _ e3 s3 => (vT c e3 s3).bind fun b e4 s4 =>
        if b then (vE elt e4 s4).bind fun y e5 s5 => .ok (some y.2) e5 s5 else .ok none e4 s4) items [] e1 s1).bind fun acc e6 s6 => .ok (true, .lst acc) (restV e1 own e6) s6) else .bad
/-- items, some of them starred: tuples -/
def vSts : List Bool → Es → VEnv → σ → VR σ (List U)
  | [], .nil, env, s => .ok [] env s
  | true :: fs, .cons e es, env, s => (vE e env s).bind fun x e1 s1 => match x.2 with
    | .tup xs => (vSts fs es e1 s1).bind fun us e2 s2 => .ok (xs ++ us) e2 s2
    | _ => .bad
  | false :: fs, .cons e es, env, s => (vE e env s).bind fun x e1 s1 => if flat x.2 = true then (vSts fs es e1 s1).bind fun us e2 s2 => .ok (x.2 :: us) e2 s2 else .bad
  | _, _, _, _ => .bad
def vEs : Es → VEnv → σ → VR σ (List (Bool × U))
  | .nil, env, s => .ok [] env s
  | .cons e es, env, s => (vE e env s).bind fun d e1 s1 => (vEs es e1 s1).bind fun ds e2 s2 => .ok (d :: ds) e2 s2
def vBs : Es → VEnv → σ → VR σ (List BV)
  | .nil, env, s => .ok [] env s
  | .cons e es, env, s => (borrow e (vE e) env s).bind fun d e1 s1 => (vBs es e1 s1).bind fun ds e2 s2 => .ok (d :: ds) e2 s2
def vT : T → VEnv → σ → VR σ Bool
  | .val a, env, s => (borrow a (vE a) env s).bind fun x e1 s1 => match x.get e1 with
    | some u => vlift (vtruth u) e1 s1
    | none => .bad
  | .vc op a b, env, s => (borrow a (vE a) env s).bind fun x e1 s1 => (borrow b (vE b) e1 s1).bind fun y e2 s2 => match x.get e2, y.get e2 with
    | some u, some v => vlift (vcmp op u v) e2 s2
    | _, _ => .bad
  | .vc2 op op' a b c, env, s => (borrow a (vE a) env s).bind fun x e1 s1 => (vE b e1 s1).bind fun y e2 s2 => match x.get e2 with
    | some u => (match vcmp op u y.2 with
      | some true => (borrow c (vE c) e2 s2).bind fun z e3 s3 => (match z.get e3 with
        | some w => vlift (vcmp op' y.2 w) e3 s3
        | none => .bad)
      | some false => .ok false e2 s2
      | none => .bad)
    | none => .bad
  | .not t, env, s => (vT t env s).bind fun b e1 s1 => .ok (!b) e1 s1
  | .and1 a, env, s => vT a env s
  | .and2 a r, env, s => (vT a env s).bind fun b e1 s1 => if b then vT r e1 s1 else .ok false e1 s1
  | .or1 a, env, s => vT a env s
  | .or2 a r, env, s => (vT a env s).bind fun b e1 s1 => if b then .ok true e1 s1 else vT r e1 s1
  | .yes, env, s => .ok true env s
def vA : Tg → Bool × U → VEnv → σ → VR σ Unit
  | .name i, d, env, s => .ok () (env.set i (some d)) s
  | .tup ts, d, env, s => match vseq d.2 with
    | some ds => vAs ts ds env s
    | none => .bad
  | .sub o i, d, env, s => match asVar o with
    | some j => (match env[j]? with
      | some (some (true, _)) => (vE i env s).bind fun y e1 s1 => (match e1[j]? with
        | some (some (true, c)) => (match vset c y.2 d.2 with
          | some c' => .ok () (e1.set j (some (true, c'))) s1
          | none => .bad)
        | _ => .bad)
      | _ => .bad)
    | none => .bad
def vAs : Tgs → List U → VEnv → σ → VR σ Unit
  | .nil, [], env, s => .ok () env s
  | .cons t ts, d :: ds, env, s => (vA t (false, d) env s).bind fun _ e1 s1 => vAs ts ds e1 s1
  | _, _, _, _ => .bad
end
mutual
def vS : S → VEnv → σ → VR σ VOut
  | .asg t e, env, s => (vE F G e env s).bind fun d e1 s1 => (vA F G t d e1 s1).bind fun _ e2 s2 => .ok .next e2 s2
  | .asgC i own elt t k es c, env, s => (vE F G (.lc own elt t k es c) env s).bind fun d e1 s1 => .ok .next (e1.set i (some d)) s1
  | .par is es, env, s => (vEs F G es env s).bind fun ds e1 s1 => if ds.length = is.length ∧ is.Nodup then .ok .next (setAllV e1 is ds) s1 else .bad
  | .exp e, env, s => (vE F G e env s).bind fun _ e1 s1 => .ok .next e1 s1
  | .ret e, env, s => match asVar e with
    | some i => (match env[i]? with
      | some (some (o, u)) => .ok (.ret o u) (env.set i none) s
      | _ => .bad)
    | none => (vE F G e env s).bind fun d e1 s1 => .ok (.ret d.1 d.2) e1 s1
  | .retN, env, s => .ok (.ret false .non) env s
  | .ite c a b, env, s => (vT F G c env s).bind fun k e1 s1 => if k then vSs a e1 s1 else vSs b e1 s1
  | .for_ t k es body, env, s => (vEs F G es env s).bind fun us e1 s1 => match vsrc k (us.map (·.2)) with
    | none => .bad
    | some items => vforL (fun x e2 s2 => (vA F G t (false, x) e2 s2).bind fun _ e3 s3 => vSs body e3 s3) items e1 s1
  | .whl c body, env, s => vwhl (vT F G c) (vSs body) whileMost env s
  | .brk, env, s => .ok .brk env s
  | .cnt, env, s => .ok .cnt env s
  | .pass, env, s => .ok .next env s
  | .never, _, _ => .bad
def vSs : Ss → VEnv → σ → VR σ VOut
  | .nil, env, s => .ok .next env s
  | .cons x ss, env, s => (vS x env s).bind fun o e1 s1 => match o with
    | .next => vSs ss e1 s1
    | .brk => .ok .brk e1 s1
    | .cnt => .ok .cnt e1 s1
    | .ret o u => .ok (.ret o u) e1 s1
end
end
/-- a def on values; some defs by contract, told at which depth -/
def vstep {σ : Type} (P : Nat → Option Fn) (G : Nat → Option U) (C : Nat → Option (Nat × (List U → σ → FR σ))) (n : Nat) (F : Nat → List U → σ → FR σ) (f : Nat) (us : List U) (s : σ) : FR σ := match C f with
    | some (m, c) => if m ≤ n + 1 then c us s else .bad
    | none => match P f with
      | none => .bad
      | some fn => if us.length = fn.np then
          match vSs F G fn.body ((us.map fun u => some (false, u)) ++ List.replicate (fn.ns - fn.np) none) s with
          | .ok (.ret o u) _ s1 => .ok o u s1
          | .ok .next _ s1 => .ok false .non s1
          | .exc c us s1 => .exc c us s1
          | _ => .bad
        else .bad
def vrun0 {σ : Type} (P : Nat → Option Fn) (G : Nat → Option U) (C : Nat → Option (Nat × (List U → σ → FR σ))) : Nat → Nat → List U → σ → FR σ
  | 0 => fun _ _ _ => .bad
  | n + 1 => vstep P G C n (vrun0 P G C n)
@[irreducible] def vrun {σ : Type} (P : Nat → Option Fn) (G : Nat → Option U) (C : Nat → Option (Nat × (List U → σ → FR σ))) (n : Nat) : Nat → List U → σ → FR σ := vrun0 P G C n
theorem vrun_zero {σ : Type} {P : Nat → Option Fn} {G : Nat → Option U} {C : Nat → Option (Nat × (List U → σ → FR σ))} {f : Nat} {us : List U} {s : σ} : vrun P G C 0 f us s = .bad := by unfold vrun; rfl
theorem vrun_succ {σ : Type} {P : Nat → Option Fn} {G : Nat → Option U} {C : Nat → Option (Nat × (List U → σ → FR σ))} {n f : Nat} {us : List U} {s : σ} : vrun P G C (n + 1) f us s = vstep P G C n (vrun P G C n) f us s := by unfold vrun; rfl
end PL

set_option Elab.async false
set_option linter.all false
set_option maxRecDepth 100000
set_option maxHeartbeats 4000000
/-! VSB: what values stand for in a store. -/
namespace PL
open PySem L2

/-- the bag of draws: its dict, its objects, what it stands for -/
structure Bg (σ : Type) where
  r : Nat
  ft : List Nat
  R : Sto → σ → Prop
  mem : r ∈ ft
  keep : ∀ st st' s, (∀ j ∈ ft, st'[j]? = st[j]?) → R st s → R st' s
  lt : ∀ st s, R st s → ∀ j ∈ ft, j < st.length
section
variable {σ : Type} (W : Bg σ) (Z : Nat → Prop) (st : Sto)
mutual
def Rep : U → D → Prop
  | .non, d => d = .non
  | .bl b, d => d = .bl b
  | .int i, d => d = .int i
  | .str x, d => d = .str x
  | .tup us, d => ∃ ds, d = .tup ds ∧ Reps us ds
  | .lst us, d => ∃ q ds, d = .ref q ∧ Z q ∧ st[q]? = some (.lst ds) ∧ Reps us ds
  | .dct ks us, d => ∃ q ds, d = .ref q ∧ Z q ∧ st[q]? = some (.dct (ks.zip ds)) ∧ ks.length = us.length ∧ Reps us ds
  | .rep p, d => d = .rep p
  | .bag, d => d = .ref W.r
  | .ent ts, d => d = .ent ts
def Reps : List U → List D → Prop
  | [], ds => ds = []
  | u :: us, ds => ∃ d ds', ds = d :: ds' ∧ Rep u d ∧ Reps us ds'
end
/-- an object's insides -/
def Bod : U → Ob → Prop
  | .lst us, ob => ∃ ds, ob = .lst ds ∧ Reps W Z st us ds
  | .dct ks us, ob => ∃ ds, ob = .dct (ks.zip ds) ∧ ks.length = us.length ∧ Reps W Z st us ds
  | _, _ => False
/-- what can be read -/
def RB : U → D → Prop
  | .lst us, d => ∃ q ds, d = .ref q ∧ st[q]? = some (.lst ds) ∧ Reps W Z st us ds
  | .dct ks us, d => ∃ q ds, d = .ref q ∧ st[q]? = some (.dct (ks.zip ds)) ∧ ks.length = us.length ∧ Reps W Z st us ds
  | u, d => Rep W Z st u d
end
section
variable {σ : Type} {W : Bg σ} {Z Z' : Nat → Prop} {st st' : Sto}
mutual
theorem Rep.mono (h : ∀ j, Z j → Z' j ∧ st'[j]? = st[j]?) : ∀ (u : U) (d : D), Rep W Z st u d → Rep W Z' st' u d
  | .non, _, e => e
  | .bl _, _, e => e
  | .int _, _, e => e
  | .str _, _, e => e
  | .rep _, _, e => e
  | .bag, _, e => e
  | .ent _, _, e => e
  | .tup us, _, e => by rw [Rep] at e ⊢; obtain ⟨ds, rfl, e⟩ := e; exact ⟨ds, rfl, Reps.mono h us ds e⟩
  | .lst us, _, e => by rw [Rep] at e ⊢; obtain ⟨q, ds, rfl, z, g, e⟩ := e; exact ⟨q, ds, rfl, (h q z).1, by rw [(h q z).2]; exact g, Reps.mono h us ds e⟩
  | .dct ks us, _, e => by rw [Rep] at e ⊢; obtain ⟨q, ds, rfl, z, g, l, e⟩ := e; exact ⟨q, ds, rfl, (h q z).1, by rw [(h q z).2]; exact g, l, Reps.mono h us ds e⟩
theorem Reps.mono (h : ∀ j, Z j → Z' j ∧ st'[j]? = st[j]?) : ∀ (us : List U) (ds : List D), Reps W Z st us ds → Reps W Z' st' us ds
  | [], _, e => e
  | u :: us, _, e => by rw [Reps] at e ⊢; obtain ⟨d, ds, rfl, a, b⟩ := e; exact ⟨d, ds, rfl, Rep.mono h u d a, Reps.mono h us ds b⟩
end
theorem Bod.mono (h : ∀ j, Z j → Z' j ∧ st'[j]? = st[j]?) {u : U} {ob : Ob} (e : Bod W Z st u ob) : Bod W Z' st' u ob := by
  cases u <;> first | exact e.elim | skip
  · obtain ⟨ds, rfl, e⟩ := e; exact ⟨ds, rfl, Reps.mono h _ _ e⟩
  · obtain ⟨ds, rfl, l, e⟩ := e; exact ⟨ds, rfl, l, Reps.mono h _ _ e⟩
theorem Rep.rb {u : U} {d : D} (h : Rep W Z st u d) : RB W Z st u d := by
  cases u <;> first | exact h | skip
  · rw [Rep] at h; obtain ⟨q, ds, a, _, b, c⟩ := h; exact ⟨q, ds, a, b, c⟩
  · rw [Rep] at h; obtain ⟨q, ds, a, _, b, c⟩ := h; exact ⟨q, ds, a, b, c⟩
theorem Bod.rb {u : U} {ob : Ob} {q : Nat} (hq : st[q]? = some ob) (h : Bod W Z st u ob) : RB W Z st u (.ref q) := by
  cases u <;> first | exact h.elim | skip
  · obtain ⟨ds, rfl, e⟩ := h; exact ⟨q, ds, rfl, hq, e⟩
  · obtain ⟨ds, rfl, l, e⟩ := h; exact ⟨q, ds, rfl, hq, l, e⟩
theorem Bod.rep {u : U} {ob : Ob} {q : Nat} (hq : st[q]? = some ob) (hz : Z q) (h : Bod W Z st u ob) : Rep W Z st u (.ref q) := by
  cases u <;> first | exact h.elim | skip
  · obtain ⟨ds, rfl, e⟩ := h; rw [Rep]; exact ⟨q, ds, rfl, hz, hq, e⟩
  · obtain ⟨ds, rfl, l, e⟩ := h; rw [Rep]; exact ⟨q, ds, rfl, hz, hq, l, e⟩
theorem Reps.length : ∀ {us : List U} {ds : List D}, Reps W Z st us ds → ds.length = us.length
  | [], _, h => by rw [Reps] at h; subst h; rfl
  | u :: us, _, h => by rw [Reps] at h; obtain ⟨d, ds, rfl, _, h⟩ := h; rw [List.length_cons, List.length_cons, Reps.length h]
theorem Reps.nil : Reps W Z st [] [] := rfl
theorem Reps.cons {u : U} {us : List U} {d : D} {ds : List D} (a : Rep W Z st u d) (b : Reps W Z st us ds) : Reps W Z st (u :: us) (d :: ds) := by rw [Reps]; exact ⟨d, ds, rfl, a, b⟩
theorem Reps.get : ∀ {us : List U} {ds : List D} {i : Nat}, Reps W Z st us ds → (us[i]? = none ∧ ds[i]? = none) ∨ ∃ u d, us[i]? = some u ∧ ds[i]? = some d ∧ Rep W Z st u d
  | [], _, i, h => by rw [Reps] at h; subst h; exact .inl ⟨by simp, by simp⟩
  | u :: us, _, 0, h => by rw [Reps] at h; obtain ⟨d, ds, rfl, a, _⟩ := h; exact .inr ⟨u, d, rfl, rfl, a⟩
  | u :: us, _, i + 1, h => by rw [Reps] at h; obtain ⟨d, ds, rfl, _, h⟩ := h; simpa using Reps.get (i := i) h
theorem Reps.get' {us : List U} {ds : List D} {i : Nat} {u : U} (h : Reps W Z st us ds) (hu : us[i]? = some u) : ∃ d, ds[i]? = some d ∧ Rep W Z st u d := by
  rcases h.get (i := i) with ⟨a, _⟩ | ⟨u', d, a, b, c⟩
  · rw [hu] at a; cases a
  · rw [hu] at a; cases a; exact ⟨d, b, c⟩
theorem Reps.append : ∀ {us vs : List U} {ds es : List D}, Reps W Z st us ds → Reps W Z st vs es → Reps W Z st (us ++ vs) (ds ++ es)
  | [], _, _, _, h, g => by rw [Reps] at h; subst h; exact g
  | u :: us, _, _, _, h, g => by rw [Reps] at h; obtain ⟨d, ds, rfl, a, b⟩ := h; exact Reps.cons a (Reps.append b g)
theorem Reps.take : ∀ {us : List U} {ds : List D} (n : Nat), Reps W Z st us ds → Reps W Z st (us.take n) (ds.take n)
  | _, _, 0, _ => by simp [Reps]
  | [], _, n + 1, h => by rw [Reps] at h; subst h; simp [Reps]
  | u :: us, _, n + 1, h => by rw [Reps] at h; obtain ⟨d, ds, rfl, a, b⟩ := h; exact Reps.cons a (Reps.take n b)
theorem Reps.drop : ∀ {us : List U} {ds : List D} (n : Nat), Reps W Z st us ds → Reps W Z st (us.drop n) (ds.drop n)
  | _, _, 0, h => h
  | [], _, n + 1, h => by rw [Reps] at h; subst h; simp [Reps]
  | u :: us, _, n + 1, h => by rw [Reps] at h; obtain ⟨d, ds, rfl, a, b⟩ := h; exact Reps.drop n b
theorem Reps.rev : ∀ {us : List U} {ds : List D}, Reps W Z st us ds → Reps W Z st us.reverse ds.reverse
  | [], _, h => by rw [Reps] at h; subst h; simp [Reps]
  | u :: us, _, h => by rw [Reps] at h; obtain ⟨d, ds, rfl, a, b⟩ := h; rw [List.reverse_cons, List.reverse_cons]; exact (Reps.rev b).append (.cons a .nil)
theorem Reps.set : ∀ {us : List U} {ds : List D} {u : U} {d : D} (i : Nat), Reps W Z st us ds → Rep W Z st u d → Reps W Z st (us.set i u) (ds.set i d)
  | [], _, _, _, _, h, _ => by rw [Reps] at h; subst h; simp [Reps]
  | v :: us, _, _, _, 0, h, g => by rw [Reps] at h; obtain ⟨d, ds, rfl, a, b⟩ := h; exact Reps.cons g b
  | v :: us, _, _, _, i + 1, h, g => by rw [Reps] at h; obtain ⟨d, ds, rfl, a, b⟩ := h; exact Reps.cons a (Reps.set i b g)
theorem Reps.rept {us : List U} {ds : List D} (h : Reps W Z st us ds) : ∀ n, Reps W Z st (List.replicate n us).flatten (List.replicate n ds).flatten
  | 0 => by simp [Reps]
  | n + 1 => by rw [List.replicate_succ, List.replicate_succ, List.flatten_cons, List.flatten_cons]; exact h.append (Reps.rept h n)
theorem Reps.erase : ∀ {us : List U} {ds : List D} (i : Nat), Reps W Z st us ds → Reps W Z st (us.eraseIdx i) (ds.eraseIdx i)
  | [], _, _, h => by rw [Reps] at h; subst h; simp [Reps]
  | v :: us, _, 0, h => by rw [Reps] at h; obtain ⟨d, ds, rfl, a, b⟩ := h; exact b
  | v :: us, _, i + 1, h => by rw [Reps] at h; obtain ⟨d, ds, rfl, a, b⟩ := h; exact Reps.cons a (Reps.erase i b)
theorem Reps.cut {us : List U} {ds : List D} (l h : Option Int) (r : Reps W Z st us ds) : Reps W Z st (cutD us l h) (cutD ds l h) := by
  unfold cutD
  rw [r.length]
  exact (r.drop _).take _
mutual
theorem Rep.py : ∀ (n : Nat) (u : U) (d : D) (p : PyData), RB W Z st u d → vpy n u = some p → toPy st n d = some p
  | n, .non, d, p, h, e => by have h : d = .non := h; subst h; cases n <;> exact e
  | n, .bl b, d, p, h, e => by have h : d = .bl b := h; subst h; cases n <;> exact e
  | n, .int b, d, p, h, e => by have h : d = .int b := h; subst h; cases n <;> exact e
  | n, .str b, d, p, h, e => by have h : d = .str b := h; subst h; cases n <;> exact e
  | n, .rep b, d, p, h, e => by cases n <;> cases e
  | n, .bag, d, p, h, e => by cases n <;> cases e
  | n, .ent ts, d, p, h, e => by have h : d = .ent ts := h; subst h; cases n <;> exact e
  | n, .dct _ _, d, p, h, e => by cases n <;> cases e
  | 0, .tup us, d, p, h, e => by cases e
  | 0, .lst us, d, p, h, e => by cases e
  | n + 1, .tup us, d, p, h, e => by
    have h' : Rep W Z st (.tup us) d := h
    rw [Rep] at h'
    obtain ⟨ds, rfl, h'⟩ := h'
    rw [vpy] at e
    obtain ⟨ps, e1, rfl⟩ := Option.map_eq_some_iff.mp e
    rw [toPy, Reps.py n us ds ps h' e1]; rfl
  | n + 1, .lst us, d, p, h, e => by
    obtain ⟨q, ds, rfl, g, h⟩ := h
    rw [vpy] at e
    obtain ⟨ps, e1, rfl⟩ := Option.map_eq_some_iff.mp e
    rw [toPy, g]
    simp only []
    rw [Reps.py n us ds ps h e1]; rfl
theorem Reps.py : ∀ (n : Nat) (us : List U) (ds : List D) (ps : List PyData), Reps W Z st us ds → optMap (vpy n) us = some ps → optMap (toPy st n) ds = some ps
  | n, [], ds, ps, h, e => by rw [Reps] at h; subst h; exact e
  | n, u :: us, ds, ps, h, e => by
    rw [Reps] at h
    obtain ⟨d, ds, rfl, a, b⟩ := h
    rw [optMap] at e ⊢
    cases e1 : vpy n u with
    | none => rw [e1] at e; cases e
    | some p =>
      rw [e1] at e
      rw [Rep.py n u d p a.rb e1]
      simp only [] at e ⊢
      cases e2 : optMap (vpy n) us with
      | none => rw [e2] at e; cases e
      | some qs =>
        rw [e2] at e
        rw [Reps.py n us ds qs b e2]
        exact e
end
mutual
theorem Rep.pyR : ∀ (n : Nat) (u : U) (d : D) (p : PyData), RB W Z st u d → vpyR n u = some p → toPyR st n d = some p
  | n, .non, d, p, h, e => by have h : d = .non := h; subst h; cases n <;> exact e
  | n, .bl b, d, p, h, e => by have h : d = .bl b := h; subst h; cases n <;> exact e
  | n, .int b, d, p, h, e => by have h : d = .int b := h; subst h; cases n <;> exact e
  | n, .str b, d, p, h, e => by have h : d = .str b := h; subst h; cases n <;> exact e
  | n, .rep b, d, p, h, e => by cases n <;> cases e
  | n, .bag, d, p, h, e => by cases n <;> cases e
  | n, .ent ts, d, p, h, e => by have h : d = .ent ts := h; subst h; cases n <;> exact e
  | 0, .dct _ _, d, p, h, e => by cases e
  | n + 1, .dct ks us, d, p, h, e => by
    obtain ⟨q, ds, rfl, g, hl, h⟩ := h
    rw [vpyR] at e
    obtain ⟨ps, e1, rfl⟩ := Option.map_eq_some_iff.mp e
    have hd : ds.length = us.length := h.length
    have m1 : (ks.zip ds).map (·.2) = ds := List.map_snd_zip (by omega)
    have m2 : (ks.zip ds).map (fun kv => keyPy kv.1) = ks.map keyPy := by
      have : (ks.zip ds).map (fun kv => keyPy kv.1) = ((ks.zip ds).map (·.1)).map keyPy := by rw [List.map_map]; rfl
      rw [this, List.map_fst_zip (by omega)]
    rw [toPyR, g]
    simp only [m1, m2]
    rw [Reps.pyR n us ds ps h e1]; rfl
  | 0, .tup us, d, p, h, e => by cases e
  | 0, .lst us, d, p, h, e => by cases e
  | n + 1, .tup us, d, p, h, e => by
    have h' : Rep W Z st (.tup us) d := h
    rw [Rep] at h'
    obtain ⟨ds, rfl, h'⟩ := h'
    rw [vpyR] at e
    obtain ⟨ps, e1, rfl⟩ := Option.map_eq_some_iff.mp e
    rw [toPyR, Reps.pyR n us ds ps h' e1]; rfl
  | n + 1, .lst us, d, p, h, e => by
    obtain ⟨q, ds, rfl, g, h⟩ := h
    rw [vpyR] at e
    obtain ⟨ps, e1, rfl⟩ := Option.map_eq_some_iff.mp e
    rw [toPyR, g]
    simp only []
    rw [Reps.pyR n us ds ps h e1]; rfl
theorem Reps.pyR : ∀ (n : Nat) (us : List U) (ds : List D) (ps : List PyData), Reps W Z st us ds → optMap (vpyR n) us = some ps → optMap (toPyR st n) ds = some ps
  | n, [], ds, ps, h, e => by rw [Reps] at h; subst h; exact e
  | n, u :: us, ds, ps, h, e => by
    rw [Reps] at h
    obtain ⟨d, ds, rfl, a, b⟩ := h
    rw [optMap] at e ⊢
    cases e1 : vpyR n u with
    | none => rw [e1] at e; cases e
    | some p =>
      rw [e1] at e
      rw [Rep.pyR n u d p a.rb e1]
      simp only [] at e ⊢
      cases e2 : optMap (vpyR n) us with
      | none => rw [e2] at e; cases e
      | some qs =>
        rw [e2] at e
        rw [Reps.pyR n us ds qs b e2]
        exact e
end
end

/-! ### configurations -/
structure Cf (σ : Type) where
  base : Nat
  Z : Nat → Prop
  st : Sto
  env : Env
  ve : VEnv
  s : σ
def OwnR (env : Env) (ve : VEnv) (j : Nat) : Prop := ∃ (i : Nat) (u : U), ve[i]? = some (some (true, u)) ∧ env[i]? = some (some (.ref j))
section
variable {σ : Type} (W : Bg σ)
structure Ok (A : Cf σ) : Prop where
  len : A.ve.length = A.env.length
  fr : ∀ (i : Nat) (u : U), A.ve[i]? = some (some (false, u)) → ∃ d, A.env[i]? = some (some d) ∧ Rep W A.Z A.st u d
  ow : ∀ (i : Nat) (u : U), A.ve[i]? = some (some (true, u)) → ∃ q ob, A.env[i]? = some (some (.ref q)) ∧ A.st[q]? = some ob ∧ Bod W A.Z A.st u ob
  oz : ∀ j, OwnR A.env A.ve j → ¬ A.Z j ∧ j ∉ W.ft ∧ A.base ≤ j
  od : ∀ (i i' : Nat) (u u' : U) (j : Nat), A.ve[i]? = some (some (true, u)) → A.ve[i']? = some (some (true, u')) → A.env[i]? = some (some (.ref j)) → A.env[i']? = some (some (.ref j)) → i = i'
  zl : ∀ j, A.Z j → j < A.st.length ∧ j ∉ W.ft
  bag : W.R A.st A.s
  bl : A.base ≤ A.st.length
structure Stp (A A' : Cf σ) : Prop where
  bs : A'.base = A.base
  len : A.st.length ≤ A'.st.length
  frm : ∀ j, j < A.st.length → j ∉ W.ft → ¬ OwnR A.env A.ve j → A'.st[j]? = A.st[j]?
  zin : ∀ j, A.Z j → A'.Z j
  zout : ∀ j, A'.Z j → A.Z j ∨ OwnR A.env A.ve j ∨ A.st.length ≤ j
  own : ∀ j, OwnR A'.env A'.ve j → OwnR A.env A.ve j ∨ A.st.length ≤ j
/-- behind an exception -/
structure Xo (A : Cf σ) (Z' : Nat → Prop) (st : Sto) (s : σ) : Prop where
  len : A.st.length ≤ st.length
  frm : ∀ j, j < A.st.length → j ∉ W.ft → ¬ OwnR A.env A.ve j → st[j]? = A.st[j]?
  zin : ∀ j, A.Z j → Z' j
  zout : ∀ j, Z' j → A.Z j ∨ OwnR A.env A.ve j ∨ A.st.length ≤ j
  zl : ∀ j, Z' j → j < st.length ∧ j ∉ W.ft
  bag : W.R st s
/-- what is told: an object of one's own, not older than n, or something that nobody changes -/
def TR (A : Cf σ) (n : Nat) (o : Bool) (u : U) (d : D) : Prop := match o with
  | true => ∃ q ob, d = .ref q ∧ A.st[q]? = some ob ∧ Bod W A.Z A.st u ob ∧ ¬ A.Z q ∧ q ∉ W.ft ∧ ¬ OwnR A.env A.ve q ∧ n ≤ q
  | false => Rep W A.Z A.st u d
end
section
variable {σ : Type} {W : Bg σ} {A A' A'' : Cf σ}
theorem lt_of_get {st : Sto} {q : Nat} {ob : Ob} (h : st[q]? = some ob) : q < st.length := (List.getElem?_eq_some_iff.mp h).1
theorem Ok.own_lt (h : Ok W A) {j : Nat} (o : OwnR A.env A.ve j) : j < A.st.length := by
  obtain ⟨i, u, a, b⟩ := o
  obtain ⟨q, ob, c, d, _⟩ := h.ow i u a
  rw [b] at c; cases c
  exact lt_of_get d
theorem Stp.refl : Stp W A A := ⟨rfl, Nat.le_refl _, fun _ _ _ _ => rfl, fun _ h => h, fun _ h => .inl h, fun _ h => .inl h⟩
theorem Stp.trans (a : Stp W A A') (b : Stp W A' A'') : Stp W A A'' := by
  refine ⟨b.bs.trans a.bs, Nat.le_trans a.len b.len, fun j h1 h2 h3 => ?_, fun j h => b.zin j (a.zin j h), fun j h => ?_, fun j h => ?_⟩
  · rw [b.frm j (Nat.lt_of_lt_of_le h1 a.len) h2 fun o => ?_, a.frm j h1 h2 h3]
    rcases a.own j o with z | z
    · exact h3 z
    · omega
  · rcases b.zout j h with z | z | z
    · exact a.zout j z
    · rcases a.own j z with z | z
      · exact .inr (.inl z)
      · exact .inr (.inr z)
    · exact .inr (.inr (Nat.le_trans a.len z))
  · rcases b.own j h with z | z
    · exact a.own j z
    · exact .inr (Nat.le_trans a.len z)
theorem Stp.xo {Z' : Nat → Prop} {st : Sto} {s : σ} (a : Stp W A A') (b : Xo W A' Z' st s) : Xo W A Z' st s := by
  refine ⟨Nat.le_trans a.len b.len, fun j h1 h2 h3 => ?_, fun j h => b.zin j (a.zin j h), fun j h => ?_, b.zl, b.bag⟩
  · rw [b.frm j (Nat.lt_of_lt_of_le h1 a.len) h2 fun o => ?_, a.frm j h1 h2 h3]
    rcases a.own j o with z | z
    · exact h3 z
    · omega
  · rcases b.zout j h with z | z | z
    · exact a.zout j z
    · rcases a.own j z with z | z
      · exact .inr (.inl z)
      · exact .inr (.inr z)
    · exact .inr (.inr (Nat.le_trans a.len z))
theorem Stp.zkeep (o : Ok W A) (a : Stp W A A') : ∀ j, A.Z j → A'.Z j ∧ A'.st[j]? = A.st[j]? := fun j z => ⟨a.zin j z, a.frm j (o.zl j z).1 (o.zl j z).2 fun w => (o.oz j w).1 z⟩
theorem Stp.rep (o : Ok W A) (a : Stp W A A') {u : U} {d : D} (h : Rep W A.Z A.st u d) : Rep W A'.Z A'.st u d := Rep.mono (a.zkeep o) u d h
theorem Stp.reps (o : Ok W A) (a : Stp W A A') {u : List U} {d : List D} (h : Reps W A.Z A.st u d) : Reps W A'.Z A'.st u d := Reps.mono (a.zkeep o) u d h
theorem TR.mono (ok : Ok W A) (a : Stp W A A') {n : Nat} {o : Bool} {u : U} {d : D} (h : TR W A n o u d) : TR W A' n o u d := by
  cases o with
  | false => exact a.rep ok h
  | true =>
    obtain ⟨q, ob, rfl, h1, h2, h3, h4, h5, h6⟩ := h
    have hq := lt_of_get h1
    refine ⟨q, ob, rfl, by rw [a.frm q hq h4 h5]; exact h1, Bod.mono (a.zkeep ok) h2, fun z => ?_, h4, fun z => ?_, h6⟩
    · rcases a.zout q z with z | z | z
      · exact h3 z
      · exact h5 z
      · omega
    · rcases a.own q z with z | z
      · exact h5 z
      · omega
theorem TR.le {n m : Nat} (hnm : m ≤ n) {o : Bool} {u : U} {d : D} (h : TR W A n o u d) : TR W A m o u d := by
  cases o with
  | false => exact h
  | true =>
    obtain ⟨q, ob, h0, h1, h2, h3, h4, h5, h6⟩ := h
    exact ⟨q, ob, h0, h1, h2, h3, h4, h5, Nat.le_trans hnm h6⟩
theorem TR.rb {n : Nat} {o : Bool} {u : U} {d : D} (h : TR W A n o u d) : RB W A.Z A.st u d := by
  cases o with
  | false => exact Rep.rb h
  | true =>
    obtain ⟨q, ob, rfl, h1, h2, _⟩ := h
    exact Bod.rb h1 h2
/-- another store, all else as it was; what is new is nobody's -/
theorem Ok.app (ok : Ok W A) (l : Sto) : Ok W { A with st := A.st ++ l } ∧ Stp W A { A with st := A.st ++ l } := by
  have g : ∀ j, j < A.st.length → (A.st ++ l)[j]? = A.st[j]? := fun j h => List.getElem?_append_left h
  have zk : ∀ j, A.Z j → A.Z j ∧ (A.st ++ l)[j]? = A.st[j]? := fun j z => ⟨z, g j (ok.zl j z).1⟩
  refine ⟨⟨ok.len, fun i u h => ?_, fun i u h => ?_, ok.oz, ok.od, fun j z => ⟨by simp only [List.length_append]; have := (ok.zl j z).1; omega, (ok.zl j z).2⟩, W.keep _ _ _ (fun j hj => g j (W.lt _ _ ok.bag j hj)) ok.bag, by simp only [List.length_append]; have := ok.bl; omega⟩,
    ⟨rfl, by simp, fun j h _ _ => g j h, fun _ h => h, fun _ h => .inl h, fun _ h => .inl h⟩⟩
  · obtain ⟨d, a, b⟩ := ok.fr i u h
    exact ⟨d, a, Rep.mono zk u d b⟩
  · obtain ⟨q, ob, a, b, c⟩ := ok.ow i u h
    exact ⟨q, ob, a, by show (A.st ++ l)[q]? = _; rw [g q (lt_of_get b)]; exact b, Bod.mono zk c⟩
/-- more is fixed -/
theorem Ok.frz (ok : Ok W A) {q : Nat} (hq : q < A.st.length) (hf : q ∉ W.ft) (ho : ¬ OwnR A.env A.ve q) : Ok W { A with Z := fun j => A.Z j ∨ j = q } := by
  have zk : ∀ j, A.Z j → (A.Z j ∨ j = q) ∧ A.st[j]? = A.st[j]? := fun j z => ⟨.inl z, rfl⟩
  refine ⟨ok.len, fun i u h => ?_, fun i u h => ?_, fun j o => ?_, ok.od, fun j z => ?_, ok.bag, ok.bl⟩
  · obtain ⟨d, a, b⟩ := ok.fr i u h
    exact ⟨d, a, Rep.mono zk u d b⟩
  · obtain ⟨q, ob, a, b, c⟩ := ok.ow i u h
    exact ⟨q, ob, a, b, Bod.mono zk c⟩
  · obtain ⟨a, b, c⟩ := ok.oz j o
    exact ⟨fun z => z.elim a fun e => ho (e ▸ o), b, c⟩
  · rcases z with z | rfl
    · exact ok.zl j z
    · exact ⟨hq, hf⟩
theorem Stp.frz {q : Nat} (a : Stp W A A') (hq : A.st.length ≤ q) : Stp W A { A' with Z := fun j => A'.Z j ∨ j = q } := by
  refine ⟨a.bs, a.len, a.frm, fun j z => .inl (a.zin j z), fun j z => ?_, a.own⟩
  rcases z with z | rfl
  · exact a.zout j z
  · exact .inr (.inr hq)
end
end PL

set_option Elab.async false
set_option linter.all false
set_option maxRecDepth 100000
set_option maxHeartbeats 4000000
/-! VSC: operations. -/
namespace PL
open PySem L2
section
variable {σ : Type} {W : Bg σ} {Z : Nat → Prop} {st : Sto}
def UasD : U → D
  | .str x => .str x
  | _ => .non
/-- what an operation makes: a new object, or nothing new -/
def OpR (W : Bg σ) (Z : Nat → Prop) (st : Sto) (o : Bool) (u : U) (d : D) (st' : Sto) : Prop := match o with
  | true => ∃ ob, d = .ref st.length ∧ st' = st ++ [ob] ∧ Bod W Z st u ob
  | false => st' = st ∧ Rep W Z st u d
theorem rb_int {i : Int} {d : D} (h : RB W Z st (.int i) d) : d = .int i := h
theorem rb_str {x : Str} {d : D} (h : RB W Z st (.str x) d) : d = .str x := h
theorem rb_bl {x : Bool} {d : D} (h : RB W Z st (.bl x) d) : d = .bl x := h
theorem rb_non {d : D} (h : RB W Z st .non d) : d = .non := h
theorem rb_rep {x : PyData} {d : D} (h : RB W Z st (.rep x) d) : d = .rep x := h
theorem rb_ent {ts : List Str} {d : D} (h : RB W Z st (.ent ts) d) : d = .ent ts := h
theorem rb_bag {d : D} (h : RB W Z st .bag d) : d = .ref W.r := h
theorem rb_tup {us : List U} {d : D} (h : RB W Z st (.tup us) d) : ∃ ds, d = .tup ds ∧ Reps W Z st us ds := by
  have h : Rep W Z st (.tup us) d := h
  rw [Rep] at h; exact h
theorem rb_lst {us : List U} {d : D} (h : RB W Z st (.lst us) d) : ∃ q ds, d = .ref q ∧ st[q]? = some (.lst ds) ∧ Reps W Z st us ds := h
theorem rb_dct {ks : List Key} {us : List U} {d : D} (h : RB W Z st (.dct ks us) d) : ∃ q ds, d = .ref q ∧ st[q]? = some (.dct (ks.zip ds)) ∧ ks.length = us.length ∧ Reps W Z st us ds := h
theorem rep_tup {us : List U} {ds : List D} (h : Reps W Z st us ds) : Rep W Z st (.tup us) (.tup ds) := by rw [Rep]; exact ⟨ds, rfl, h⟩
theorem opR_int {i : Int} : OpR W Z st false (.int i) (.int i) st := ⟨rfl, rfl⟩
theorem opR_str {i : Str} : OpR W Z st false (.str i) (.str i) st := ⟨rfl, rfl⟩
theorem opR_bl {i : Bool} : OpR W Z st false (.bl i) (.bl i) st := ⟨rfl, rfl⟩
theorem opR_lst {us : List U} {ds : List D} (h : Reps W Z st us ds) : OpR W Z st true (.lst us) (.ref st.length) (st ++ [.lst ds]) := ⟨_, rfl, rfl, ds, rfl, h⟩
set_option hygiene false in
theorem Reps.emp {us : List U} {ds : List D} (r : Reps W Z st us ds) : ds.isEmpty = us.isEmpty := by
  have := r.length
  cases us <;> cases ds <;> simp_all
theorem bin_ok {op : Bop} {u v : U} {d e : D} {w : Bool × U} (hu : RB W Z st u d) (hv : RB W Z st v e) (h : vbin op u v = some w) : ∃ x st', binD op d e st = .ok x st' ∧ OpR W Z st w.1 w.2 x st' := by
  unfold vbin at h
  split at h
  · cases h; cases rb_int hu; cases rb_int hv; exact ⟨_, _, rfl, opR_int⟩
  · cases h; cases rb_int hu; cases rb_int hv; exact ⟨_, _, rfl, opR_int⟩
  · split at h
    · rename_i c; cases h; cases rb_int hu; cases rb_int hv; exact ⟨_, _, if_pos c, opR_int⟩
    · cases h
  · split at h
    · rename_i c; cases h; cases rb_int hu; cases rb_int hv; exact ⟨_, _, if_pos c, opR_int⟩
    · cases h
  · split at h
    · rename_i c; cases h; cases rb_int hu; cases rb_int hv; exact ⟨_, _, if_pos c, opR_int⟩
    · cases h
  · split at h
    · rename_i c; cases h; cases rb_int hu; cases rb_int hv; exact ⟨_, _, if_pos c, opR_int⟩
    · cases h
  · split at h
    · rename_i c; cases h; cases rb_str hu; cases rb_str hv; exact ⟨_, _, if_pos c, opR_str⟩
    · cases h
  · split at h
    · rename_i c; cases h
      obtain ⟨ds, rfl, r1⟩ := rb_tup hu
      obtain ⟨es, rfl, r2⟩ := rb_tup hv
      exact ⟨_, _, if_pos (by rw [r1.length, r2.length]; exact c), rfl, rep_tup (r1.append r2)⟩
    · cases h
  · split at h
    · rename_i c; cases h
      obtain ⟨q, ds, rfl, g1, r1⟩ := rb_lst hu
      obtain ⟨p, es, rfl, g2, r2⟩ := rb_lst hv
      refine ⟨.ref st.length, st ++ [.lst (ds ++ es)], ?_, opR_lst (r1.append r2)⟩
      simp only [binD, g1, g2]
      exact if_pos (by rw [r1.length, r2.length]; exact c)
    · cases h
  · split at h
    · rename_i c; cases h
      obtain ⟨ds, rfl, r1⟩ := rb_tup hu
      cases rb_int hv
      refine ⟨.tup _, st, ?_, rfl, rep_tup (r1.rept _)⟩
      simp only [binD]
      exact if_pos (by rw [r1.length, r1.emp]; exact c)
    · cases h
  · split at h
    · rename_i c; cases h
      obtain ⟨q, ds, rfl, g1, r1⟩ := rb_lst hu
      cases rb_int hv
      refine ⟨.ref st.length, st ++ [.lst _], ?_, opR_lst (r1.rept _)⟩
      simp only [binD, g1]
      exact if_pos (by rw [r1.length]; exact c)
    · cases h
  · cases h
theorem eqP_ok {u v : U} {d e : D} {b : Bool} (hu : RB W Z st u d) (hv : RB W Z st v e) (h : (match vpy 60 u, vpy 60 v with
    | some x, some y => if x.canLay0 && y.canLay0 then some (PyData.eqv x y) else none
    | _, _ => none) = some b) : (match toPy st 60 d, toPy st 60 e with
    | some x, some y => if x.canLay0 && y.canLay0 then some (PyData.eqv x y) else none
    | _, _ => none) = some b := by
  split at h
  · rename_i x y e1 e2
    rw [Rep.py 60 u d x hu e1, Rep.py 60 v e y hv e2]; exact h
  · cases h
theorem strs_ok : ∀ {xs : List U} {ds : List D} {ns : List Str}, Reps W Z st xs ds → strsU xs = some ns → strsD ds = some ns
  | [], _, _, r, h => by rw [Reps] at r; subst r; exact h
  | u :: xs, ds, ns, r, h => by
    rw [Reps] at r
    obtain ⟨d, ds', rfl, h1, h2⟩ := r
    cases u <;> first | (cases h; done) | skip
    obtain ⟨ms, e, rfl⟩ := Option.map_eq_some_iff.mp h
    rw [Rep] at h1; subst h1
    show (strsD ds').map _ = _
    rw [strs_ok h2 e]; rfl
theorem str_back {u : U} {x : Str} (hu : RB W Z st u (.str x)) : u = .str x := by
  cases u with
  | non => cases rb_non hu
  | bl b => cases rb_bl hu
  | int b => cases rb_int hu
  | str b => cases rb_str hu; rfl
  | tup b => obtain ⟨_, h, _⟩ := rb_tup hu; cases h
  | lst b => obtain ⟨_, _, h, _⟩ := rb_lst hu; cases h
  | dct a b => obtain ⟨_, _, h, _⟩ := rb_dct hu; cases h
  | rep b => cases rb_rep hu
  | bag => have h := rb_bag hu; cases h
  | ent _ => cases rb_ent hu
theorem dct_back {u : U} {r : Nat} {kvs : List (Key × D)} (hu : RB W Z st u (.ref r)) (g : st[r]? = some (.dct kvs)) : (∃ ks us, u = .dct ks us) ∨ u = .bag := by
  cases u with
  | non => cases rb_non hu
  | bl b => cases rb_bl hu
  | int b => cases rb_int hu
  | str b => cases rb_str hu
  | tup b => obtain ⟨_, h, _⟩ := rb_tup hu; cases h
  | lst b => obtain ⟨_, _, h, g', _⟩ := rb_lst hu; cases h; rw [g] at g'; cases g'
  | dct a b => exact .inl ⟨_, _, rfl⟩
  | rep b => cases rb_rep hu
  | ent _ => cases rb_ent hu
  | bag => exact .inr rfl
theorem lst_back {u : U} {r : Nat} {xs : List D} (hu : RB W Z st u (.ref r)) (g : st[r]? = some (.lst xs)) : (∃ us, u = .lst us) ∨ u = .bag := by
  cases u with
  | non => cases rb_non hu
  | bl b => cases rb_bl hu
  | int b => cases rb_int hu
  | str b => cases rb_str hu
  | tup b => obtain ⟨_, h, _⟩ := rb_tup hu; cases h
  | lst b => exact .inl ⟨_, rfl⟩
  | dct a b => obtain ⟨_, _, h, g', _⟩ := rb_dct hu; cases h; rw [g] at g'; cases g'
  | rep b => cases rb_rep hu
  | ent _ => cases rb_ent hu
  | bag => exact .inr rfl
theorem strs_back : ∀ {us : List U} {ds : List D} {ys : List Str}, Reps W Z st us ds → strsD ds = some ys → (strsU us).isSome = true
  | [], _, _, r, h => rfl
  | u :: us, ds, ns, r, h => by
    rw [Reps] at r
    obtain ⟨d, ds', rfl, h1, h2⟩ := r
    cases d <;> first | (cases h; done) | skip
    obtain ⟨ms, e, rfl⟩ := Option.map_eq_some_iff.mp h
    have := str_back h1.rb
    subst this
    have q := strs_back h2 e
    show ((strsU us).map _).isSome = true
    rw [Option.isSome_map]; exact q
theorem eq_ok {u v : U} {d e : D} {b : Bool} (hu : RB W Z st u d) (hv : RB W Z st v e) (h : veq u v = some b) : eqD st d e = some b := by
  unfold veq at h
  split at h
  · cases rb_rep hu; cases rb_rep hv; exact h
  · cases rb_rep hu; cases rb_str hv; exact h
  · cases rb_int hu; cases rb_int hv; exact h
  · cases rb_str hu; cases rb_str hv; exact h
  · cases rb_non hu; cases rb_non hv; exact h
  · cases rb_non hu; cases rb_int hv; exact h
  · cases rb_int hu; cases rb_non hv; exact h
  · cases rb_non hu; cases rb_str hv; exact h
  · cases rb_str hu; cases rb_non hv; exact h
  · cases rb_bl hu; cases rb_bl hv; exact h
  · by_cases hd : vdctEq u v = true
    · unfold veqP at h
      rw [if_pos hd] at h
      cases h
      unfold vdctEq at hd
      split at hd
      · cases rb_str hu
        obtain ⟨q, ds, rfl, g, _⟩ := rb_dct hv
        unfold eqD
        have e0 : ∀ x, dctEq st (.str x) (.ref q) = true := fun x => by unfold dctEq; simp only [g]
        simp only []
        exact if_pos (e0 _)
      · cases hd
    unfold veqP at h
    rw [if_neg hd] at h
    cases hnl : vnil u v with
    | some r =>
      rw [hnl] at h
      cases h
      unfold vnil at hnl
      split at hnl
      · cases hnl
        obtain ⟨q, ds, rfl, g, r1⟩ := rb_lst hu
        obtain ⟨q2, ds2, rfl, g2, r2⟩ := rb_lst hv
        have z2 : ds2 = [] := by rw [Reps] at r2; exact r2
        subst z2
        unfold eqD
        have e0 : dctEq st (.ref q) (.ref q2) = false := rfl
        have e1 : nilEq st (.ref q) (.ref q2) = some ds.isEmpty := by unfold nilEq; simp only [g, g2]
        simp only []
        rw [if_neg (by rw [e0]; simp), e1]
        simp only [r1.emp]
      · cases hnl
    | none =>
    rw [hnl] at h
    simp only [] at h
    have hp0 := eqP_ok hu hv h
    have key : ¬ dctEq st d e = true := by
      intro z
      unfold dctEq at z
      split at z
      · split at z
        · rename_i ho
          have := str_back hu
          subst this
          rcases dct_back hv ho with ⟨ks, us, rfl⟩ | rfl
          · exact hd rfl
          · simp [vpy] at h
        · cases z
      · cases z
    have key2 : nilEq st d e = none := by
      cases z : nilEq st d e with
      | none => rfl
      | some r =>
        unfold nilEq at z
        split at z
        · split at z
          · rename_i ho ho2
            rcases lst_back hu ho with ⟨us, rfl⟩ | rfl
            · rcases lst_back hv ho2 with ⟨vs, rfl⟩ | rfl
              · obtain ⟨q2, ds2, e2, g2, r2⟩ := rb_lst hv
                cases e2
                rw [ho2] at g2
                cases g2
                cases vs with
                | nil => cases hnl
                | cons v vs => rw [Reps] at r2; obtain ⟨_, _, z3, _⟩ := r2; cases z3
              · cases vpy 60 (U.lst us) <;> simp [vpy] at h
            · simp [vpy] at h
          · cases z
        · cases z
    have hp : (if dctEq st d e then some false else match nilEq st d e with
      | some r => some r
      | none => match toPy st 60 d, toPy st 60 e with
        | some x, some y => if x.canLay0 && y.canLay0 then some (PyData.eqv x y) else none
        | _, _ => none) = some b := by rw [if_neg key, key2]; exact hp0
    have nr : ∀ p, u ≠ .rep p := by rintro p rfl; simp [vpy] at h
    have nr' : ∀ p, v ≠ .rep p := by
      rintro p rfl
      cases vpy 60 u <;> simp [vpy] at h
    have nb : u ≠ .bag := by rintro rfl; simp [vpy] at h
    have nd : ∀ p q, u ≠ .dct p q := by rintro p q rfl; simp [vpy] at h
    have nb' : v ≠ .bag := by
      rintro rfl
      cases vpy 60 u <;> simp [vpy] at h
    have nd' : ∀ p q, v ≠ .dct p q := by
      rintro p q rfl
      cases vpy 60 u <;> simp [vpy] at h
    unfold eqD
    cases u with
    | rep p => exact absurd rfl (nr p)
    | bag => exact absurd rfl nb
    | dct p q => exact absurd rfl (nd p q)
    | non =>
      cases rb_non hu
      cases v with
      | rep p => exact absurd rfl (nr' p)
      | bag => exact absurd rfl nb'
      | dct p q => exact absurd rfl (nd' p q)
      | ent _ => cases rb_ent hv; exact hp
      | non => cases rb_non hv; exact hp
      | bl b => cases rb_bl hv; exact hp
      | int b => cases rb_int hv; simp_all
      | str b => cases rb_str hv; simp_all
      | tup b => obtain ⟨ds, rfl, _⟩ := rb_tup hv; exact hp
      | lst b => obtain ⟨q, ds, rfl, _⟩ := rb_lst hv; exact hp
    | bl b =>
      cases rb_bl hu
      cases v with
      | rep p => exact absurd rfl (nr' p)
      | bag => exact absurd rfl nb'
      | dct p q => exact absurd rfl (nd' p q)
      | ent _ => cases rb_ent hv; exact hp
      | non => cases rb_non hv; exact hp
      | bl b => cases rb_bl hv; simp_all
      | int b => cases rb_int hv; exact hp
      | str b => cases rb_str hv; exact hp
      | tup b => obtain ⟨ds, rfl, _⟩ := rb_tup hv; exact hp
      | lst b => obtain ⟨q, ds, rfl, _⟩ := rb_lst hv; exact hp
    | int b =>
      cases rb_int hu
      cases v with
      | rep p => exact absurd rfl (nr' p)
      | bag => exact absurd rfl nb'
      | dct p q => exact absurd rfl (nd' p q)
      | ent _ => cases rb_ent hv; exact hp
      | non => cases rb_non hv; simp_all
      | bl b => cases rb_bl hv; exact hp
      | int b => cases rb_int hv; simp_all
      | str b => cases rb_str hv; exact hp
      | tup b => obtain ⟨ds, rfl, _⟩ := rb_tup hv; exact hp
      | lst b => obtain ⟨q, ds, rfl, _⟩ := rb_lst hv; exact hp
    | str b =>
      cases rb_str hu
      cases v with
      | rep p => exact absurd rfl (nr' p)
      | bag => exact absurd rfl nb'
      | dct p q => exact absurd rfl (nd' p q)
      | ent _ => cases rb_ent hv; exact hp
      | non => cases rb_non hv; simp_all
      | bl b => cases rb_bl hv; exact hp
      | int b => cases rb_int hv; exact hp
      | str b => cases rb_str hv; simp_all
      | tup b => obtain ⟨ds, rfl, _⟩ := rb_tup hv; exact hp
      | lst b => obtain ⟨q, ds, rfl, _⟩ := rb_lst hv; exact hp
    | tup b =>
      obtain ⟨ds, rfl, _⟩ := rb_tup hu
      cases v with
      | rep p => exact absurd rfl (nr' p)
      | bag => exact absurd rfl nb'
      | dct p q => exact absurd rfl (nd' p q)
      | ent _ => cases rb_ent hv; exact hp
      | non => cases rb_non hv; exact hp
      | bl b => cases rb_bl hv; exact hp
      | int b => cases rb_int hv; exact hp
      | str b => cases rb_str hv; exact hp
      | tup b => obtain ⟨ds, rfl, _⟩ := rb_tup hv; exact hp
      | lst b => obtain ⟨q, ds, rfl, _⟩ := rb_lst hv; exact hp
    | lst b =>
      obtain ⟨q, ds, rfl, _⟩ := rb_lst hu
      cases v with
      | rep p => exact absurd rfl (nr' p)
      | bag => exact absurd rfl nb'
      | dct p q => exact absurd rfl (nd' p q)
      | ent _ => cases rb_ent hv; exact hp
      | non => cases rb_non hv; exact hp
      | bl b => cases rb_bl hv; exact hp
      | int b => cases rb_int hv; exact hp
      | str b => cases rb_str hv; exact hp
      | tup b => obtain ⟨ds, rfl, _⟩ := rb_tup hv; exact hp
      | lst b => obtain ⟨q, ds, rfl, _⟩ := rb_lst hv; exact hp
    | ent _ =>
      cases rb_ent hu
      cases v with
      | rep p => exact absurd rfl (nr' p)
      | bag => exact absurd rfl nb'
      | dct p q => exact absurd rfl (nd' p q)
      | ent _ => cases rb_ent hv; exact hp
      | non => cases rb_non hv; exact hp
      | bl b => cases rb_bl hv; exact hp
      | int b => cases rb_int hv; exact hp
      | str b => cases rb_str hv; exact hp
      | tup b => obtain ⟨ds, rfl, _⟩ := rb_tup hv; exact hp
      | lst b => obtain ⟨q, ds, rfl, _⟩ := rb_lst hv; exact hp
theorem vpy_ent {n : Nat} : ∀ ts : List Str, optMap (vpy n) (ts.map .str) = some (ts.map PyData.str)
  | [] => rfl
  | t :: ts => by
    have e : vpy n (.str t) = some (.str t) := by cases n <;> rfl
    rw [List.map_cons, List.map_cons, optMap, e, vpy_ent ts]
theorem in_key {u : U} {us : List U} {d e : D} {ds : List D} {b : Bool} (hu : RB W Z st u d) (hi : itemsD e st = some ds) (r : Reps W Z st us ds) (h : vinP u us = some b) : (vdctIn u us = true ∧ dctIn st d e = true ∧ b = false) ∨
    (dctIn st d e = false ∧ (match vpy 60 u, optMap (vpy 59) us with
      | some x, some ys => if x.canLay0 && PyData.canLayAll0 ys then some (ys.any fun y => PyData.eqv y x) else none
      | _, _ => none) = some b) := by
  by_cases hd : vdctIn u us = true
  · unfold vinP at h
    rw [if_pos hd] at h
    cases h
    refine .inl ⟨hd, ?_, rfl⟩
    unfold vdctIn at hd
    split at hd
    · obtain ⟨q, ds', rfl, g, _⟩ := rb_dct hu
      obtain ⟨ys, hy⟩ := Option.isSome_iff_exists.mp hd
      unfold dctIn
      simp only [g, hi, strs_ok r hy]; rfl
    · cases hd
  · unfold vinP at h
    rw [if_neg hd] at h
    refine .inr ⟨?_, h⟩
    cases z : dctIn st d e with
    | false => rfl
    | true =>
      unfold dctIn at z
      split at z
      · split at z
        · rename_i ho
          rcases dct_back hu ho with ⟨ks, vs, rfl⟩ | rfl
          · rw [hi] at z
            simp only [] at z
            obtain ⟨ys, hy⟩ := Option.isSome_iff_exists.mp z
            exact absurd (strs_back r hy) hd
          · simp [vpy] at h
        · cases z
      · cases z
theorem in_ok {u v : U} {d e : D} {b : Bool} (hu : RB W Z st u d) (hv : RB W Z st v e) (h : vin u v = some b) : inD st d e = some b := by
  unfold vin at h
  split at h
  · obtain ⟨q, ds, rfl, g, r⟩ := rb_lst hv
    have hi : itemsD (.ref q) st = some ds := by unfold itemsD; simp only [g]
    unfold inD
    rcases in_key hu hi r h with ⟨_, k1, rfl⟩ | ⟨k1, h⟩
    · rw [if_pos k1]
    rw [if_neg (by rw [k1]; simp)]
    split at h
    · rename_i x ys e1 e2
      rw [Rep.py 60 u d x hu e1]
      have : toPy st 60 (.ref q) = some (.list ys) := by rw [toPy, g]; simp only []; rw [Reps.py 59 _ _ _ r e2]; rfl
      rw [this]; exact h
    · cases h
  · obtain ⟨ds, rfl, r⟩ := rb_tup hv
    have hi : itemsD (.tup ds) st = some ds := rfl
    unfold inD
    rcases in_key hu hi r h with ⟨_, k1, rfl⟩ | ⟨k1, h⟩
    · rw [if_pos k1]
    rw [if_neg (by rw [k1]; simp)]
    split at h
    · rename_i x ys e1 e2
      rw [Rep.py 60 u d x hu e1]
      have : toPy st 60 (.tup ds) = some (.tuple ys) := by rw [toPy, Reps.py 59 _ _ _ r e2]; rfl
      rw [this]; exact h
    · cases h
  · rename_i ts
    cases rb_ent hv
    unfold inD
    have hd : dctIn st d (.ent ts) = false := by
      unfold dctIn
      split
      · split
        · simp [itemsD]
        · rfl
      · rfl
    rw [if_neg (by rw [hd]; simp)]
    split at h
    · cases h
    unfold vinP at h
    split at h
    · rename_i hk hk'
      exact absurd hk' hk
    split at h
    · rename_i x ys e1 e2
      rw [Rep.py 60 u d x hu e1]
      have e3 : optMap (vpy 59) (ts.map U.str) = some (ts.map PyData.str) := vpy_ent ts
      rw [e3] at e2
      cases e2
      exact h
    · cases h
  · cases h
theorem Reps.empty {us : List U} {ds : List D} (r : Reps W Z st us ds) : ds.isEmpty = us.isEmpty := by
  have := r.length
  cases us <;> cases ds <;> simp_all
theorem truth_ok {u : U} {d : D} {b : Bool} (hu : RB W Z st u d) (h : vtruth u = some b) : truth st d = some b := by
  unfold vtruth at h
  split at h
  · cases rb_non hu; exact h
  · cases rb_bl hu; exact h
  · cases rb_int hu; exact h
  · cases rb_str hu; exact h
  · obtain ⟨ds, rfl, r⟩ := rb_tup hu
    show some (!ds.isEmpty) = _; rw [r.empty]; exact h
  · obtain ⟨q, ds, rfl, g, r⟩ := rb_lst hu
    unfold truth; simp only [g]; rw [r.empty]; exact h
  · rename_i ks us
    obtain ⟨q, ds, rfl, g, l, r⟩ := rb_dct hu
    unfold truth; simp only [g]
    have := r.length
    rw [← h]
    cases ks <;> cases ds <;> simp_all <;> omega
  · cases h
theorem cmp_ok {op : Cop} {u v : U} {d e : D} {b : Bool} (hu : RB W Z st u d) (hv : RB W Z st v e) (h : vcmp op u v = some b) : cmpD op d e st = some b := by
  unfold vcmp at h
  split at h
  · exact eq_ok hu hv h
  · obtain ⟨c, h1, rfl⟩ := Option.map_eq_some_iff.mp h
    show (eqD st d e).map _ = _
    rw [eq_ok hu hv h1]; rfl
  · cases rb_int hu; cases rb_int hv; exact h
  · cases rb_int hu; cases rb_int hv; exact h
  · cases rb_int hu; cases rb_int hv; exact h
  · cases rb_int hu; cases rb_int hv; exact h
  · cases rb_non hu; cases rb_non hv; exact h
  · rename_i hne
    cases rb_non hv
    have : d ≠ .non := by
      rintro rfl
      cases u <;> first | exact (hne rfl) | skip
      all_goals first | (have := rb_bl hu; cases this) | (have := rb_int hu; cases this) | (have := rb_str hu; cases this) | (have := rb_rep hu; cases this) | (have := rb_bag hu; cases this) | (have := rb_ent hu; cases this) | (obtain ⟨_, z, _⟩ := rb_tup hu; cases z) | (obtain ⟨_, _, z, _⟩ := rb_lst hu; cases z) | (obtain ⟨_, _, z, _⟩ := rb_dct hu; cases z)
    cases d <;> first | exact absurd rfl this | exact h
  · cases rb_non hu; cases rb_non hv; exact h
  · rename_i hne
    cases rb_non hv
    have : d ≠ .non := by
      rintro rfl
      cases u <;> first | exact (hne rfl) | skip
      all_goals first | (have := rb_bl hu; cases this) | (have := rb_int hu; cases this) | (have := rb_str hu; cases this) | (have := rb_rep hu; cases this) | (have := rb_bag hu; cases this) | (have := rb_ent hu; cases this) | (obtain ⟨_, z, _⟩ := rb_tup hu; cases z) | (obtain ⟨_, _, z, _⟩ := rb_lst hu; cases z) | (obtain ⟨_, _, z, _⟩ := rb_dct hu; cases z)
    cases d <;> first | exact absurd rfl this | exact h
  · exact in_ok hu hv h
  · obtain ⟨c, h1, rfl⟩ := Option.map_eq_some_iff.mp h
    show (inD st d e).map _ = _
    rw [in_ok hu hv h1]; rfl
  · cases h
theorem ty_ok {u : U} {d : D} {t : Ty} (hu : RB W Z st u d) (h : vty u = some t) : tyD st d = some t ∧ d ≠ .non := by
  unfold vty at h
  split at h <;> first | cases h | skip
  · cases rb_bl hu; exact ⟨rfl, fun z => by cases z⟩
  · cases rb_int hu; exact ⟨rfl, fun z => by cases z⟩
  · cases rb_str hu; exact ⟨rfl, fun z => by cases z⟩
  · obtain ⟨ds, rfl, _⟩ := rb_tup hu; exact ⟨rfl, fun z => by cases z⟩
  · obtain ⟨q, ds, rfl, g, _⟩ := rb_lst hu; exact ⟨by unfold tyD; simp only [g], fun z => by cases z⟩
  · obtain ⟨q, ds, rfl, g, _⟩ := rb_dct hu; exact ⟨by unfold tyD; simp only [g], fun z => by cases z⟩
  · cases rb_rep hu; exact ⟨rfl, fun z => by cases z⟩
theorem isi_ok {t : Ty} {u : U} {d : D} {b : Bool} (hu : RB W Z st u d) (h : visi t u = some b) : isiD st t d = some b := by
  unfold visi at h
  split at h
  · cases rb_non hu; exact h
  · split at h
    · rename_i hn _ v e1
      obtain ⟨h1, h2⟩ := ty_ok hu e1
      unfold isiD
      cases d <;> first | exact absurd rfl h2 | (simp only [h1]; exact h)
    · cases h
theorem key_ok {u : U} {d : D} {k : Key} (hu : RB W Z st u d) (h : vkey u = some k) : keyD d = some k := by
  unfold vkey at h
  split at h
  · cases rb_int hu; exact h
  · cases rb_str hu; exact h
  · cases h
theorem getKV_cons {k k' : Key} {d : D} {r : List (Key × D)} : getKV ((k', d) :: r) k = if k' = k then some d else getKV r k := by
  unfold getKV
  rw [List.find?_cons]
  by_cases h : k' = k
  · rw [if_pos h]; simp [h]
  · rw [if_neg h]; simp [h]
theorem getU_ok {k : Key} {u : U} : ∀ {ks : List Key} {us : List U} {ds : List D}, Reps W Z st us ds → getU ks us k = some u → ∃ d, getKV (ks.zip ds) k = some d ∧ Rep W Z st u d
  | [], us, ds, r, h => by cases us <;> cases h
  | k' :: ks, [], ds, r, h => by cases h
  | k' :: ks, v :: us, ds, r, h => by
    rw [Reps] at r
    obtain ⟨d, ds, rfl, a, b⟩ := r
    rw [List.zip_cons_cons, getKV_cons]
    rw [getU] at h
    by_cases e : k' = k
    · rw [if_pos e] at h ⊢; cases h; exact ⟨d, rfl, a⟩
    · rw [if_neg e] at h ⊢; exact getU_ok b h
theorem putU_len {k : Key} {v : U} : ∀ {ks : List Key} {us : List U}, (putU k v ks us).length = us.length
  | [], us => by rw [putU]; intros; simp_all
  | k' :: ks, [] => rfl
  | k' :: ks, u :: us => by rw [putU, List.length_cons, List.length_cons, putU_len]
theorem putU_ok {k : Key} {v : U} {d : D} (hv : Rep W Z st v d) : ∀ {ks : List Key} {us : List U} {ds : List D}, Reps W Z st us ds → ∃ es, (ks.zip ds).map (fun kv => if kv.1 = k then (kv.1, d) else kv) = ks.zip es ∧ Reps W Z st (putU k v ks us) es
  | [], us, ds, r => ⟨ds, rfl, by rw [putU]; exact r; intros; simp_all⟩
  | k' :: ks, [], ds, r => ⟨ds, by rw [Reps] at r; subst r; simp, r⟩
  | k' :: ks, u :: us, ds, r => by
    rw [Reps] at r
    obtain ⟨e, ds, rfl, a, b⟩ := r
    obtain ⟨es, h1, h2⟩ := putU_ok (ks := ks) hv b
    refine ⟨(if k' = k then d else e) :: es, ?_, ?_⟩
    · rw [List.zip_cons_cons, List.map_cons, h1, List.zip_cons_cons]
      by_cases z : k' = k <;> simp [z]
    · rw [putU]
      by_cases z : k' = k
      · rw [if_pos z, if_pos z]; exact .cons hv h2
      · rw [if_neg z, if_neg z]; exact .cons a h2
theorem any_zip {k : Key} : ∀ {ks : List Key} {ds : List D}, ks.length = ds.length → ((ks.zip ds).any fun kv => decide (kv.1 = k)) = hasK k ks
  | [], [], _ => rfl
  | k' :: ks, d :: ds, h => by
    rw [List.zip_cons_cons, List.any_cons]
    unfold hasK
    rw [List.any_cons]
    have := any_zip (k := k) (ks := ks) (ds := ds) (by simpa using h)
    unfold hasK at this
    rw [this]
theorem atU_ok {us : List U} {ds : List D} {i : Int} {u : U} (r : Reps W Z st us ds) (h : vidx.atU us i = some u) : ∃ d, atI ds i = some d ∧ Rep W Z st u d := by
  unfold vidx.atU at h
  rw [Option.bind_eq_some_iff] at h
  obtain ⟨j, h1, h2⟩ := h
  obtain ⟨d, h3, h4⟩ := r.get' h2
  refine ⟨d, ?_, h4⟩
  unfold atI
  rw [r.length, h1]; exact h3
theorem idx_ok {u v w : U} {d e : D} (hu : RB W Z st u d) (hv : RB W Z st v e) (h : vidx u v = some w) : ∃ x, idxD d e st = .ok x st ∧ Rep W Z st w x := by
  unfold vidx at h
  split at h
  · obtain ⟨ds, rfl, r⟩ := rb_tup hu
    cases rb_int hv
    obtain ⟨x, h1, h2⟩ := atU_ok r h
    exact ⟨x, by unfold idxD; simp only [h1]; rfl, h2⟩
  · obtain ⟨q, ds, rfl, g, r⟩ := rb_lst hu
    cases rb_int hv
    obtain ⟨x, h1, h2⟩ := atU_ok r h
    exact ⟨x, by unfold idxD; simp only [g, h1]; rfl, h2⟩
  · cases rb_ent hu; cases rb_int hv
    obtain ⟨t, h1, rfl⟩ := Option.map_eq_some_iff.mp h
    exact ⟨.str t, by unfold idxD; simp only [h1]; rfl, rfl⟩
  · cases rb_str hu; cases rb_int hv
    split at h
    · rename_i c
      refine ⟨UasD w, ?_, ?_⟩
      · unfold idxD; simp only [if_pos c]
        obtain ⟨y, h1, rfl⟩ := Option.map_eq_some_iff.mp h
        rw [h1]; rfl
      · obtain ⟨y, h1, rfl⟩ := Option.map_eq_some_iff.mp h
        rfl
    · cases h
  · rename_i ks us k
    obtain ⟨q, ds, rfl, g, l, r⟩ := rb_dct hu
    split at h
    · rename_i kk e1
      obtain ⟨x, h1, h2⟩ := getU_ok r h
      refine ⟨x, ?_, h2⟩
      unfold idxD
      have ek := key_ok hv e1
      cases e <;> first | (cases ek; done) | skip
      · simp only [g, ek, h1]; rfl
      · simp only [g, ek, h1]; rfl
    · cases h
  · cases h
def RBs (W : Bg σ) (Z : Nat → Prop) (st : Sto) : List U → List D → Prop
  | [], ds => ds = []
  | u :: us, ds => ∃ d ds', ds = d :: ds' ∧ RB W Z st u d ∧ RBs W Z st us ds'
theorem rb1 {u : U} {ds : List D} (h : RBs W Z st [u] ds) : ∃ d, ds = [d] ∧ RB W Z st u d := by
  obtain ⟨d, es, rfl, a, rfl⟩ := h
  exact ⟨d, rfl, a⟩
theorem rb2 {u v : U} {ds : List D} (h : RBs W Z st [u, v] ds) : ∃ d e, ds = [d, e] ∧ RB W Z st u d ∧ RB W Z st v e := by
  obtain ⟨d, es, rfl, a, e, fs, rfl, b, rfl⟩ := h
  exact ⟨d, e, rfl, a, b⟩
theorem fold_zip : ∀ (ks : List Key) (ds : List D) (l : List (Key × D)), ks.length = ds.length → ks.Nodup → (∀ k ∈ ks, ∀ kv ∈ l, kv.1 ≠ k) → (ks.zip ds).foldl (fun acc kv => putKV acc kv.1 kv.2) l = l ++ ks.zip ds
  | [], [], l, _, _, _ => by simp
  | k :: ks, d :: ds, l, hl, hn, hd => by
    rw [List.zip_cons_cons, List.foldl_cons]
    have e : putKV l k d = l ++ [(k, d)] := by
      unfold putKV
      rw [if_neg]
      rw [List.any_eq_true]
      rintro ⟨kv, h1, h2⟩
      exact hd k List.mem_cons_self kv h1 (of_decide_eq_true h2)
    show List.foldl _ (putKV l k d) _ = _
    rw [e]
    obtain ⟨h1, h2⟩ := List.nodup_cons.mp hn
    rw [fold_zip ks ds _ (by simpa using hl) h2, List.append_assoc]; rfl
    intro k' hk kv hkv
    rcases List.mem_append.mp hkv with z | z
    · exact hd k' (List.mem_cons_of_mem _ hk) kv z
    · simp at z; subst z; intro e; have e : k = k' := e; subst e; exact h1 hk
theorem rep_key {u : U} {d : D} {k : Key} (hu : Rep W Z st u d) (h : vkey u = some k) : keyD d = some k := by
  cases u <;> first | (cases h; done) | skip
  · cases h; rw [Rep] at hu; subst hu; rfl
  · cases h; rw [Rep] at hu; subst hu; rfl
theorem items_ok {u : U} {d : D} {xs : List U} (hu : RB W Z st u d) (h : itemsU u = some xs) : ∃ ds, itemsD d st = some ds ∧ Reps W Z st xs ds := by
  unfold itemsU at h
  split at h
  · cases h
    obtain ⟨ds, rfl, r⟩ := rb_tup hu
    exact ⟨ds, rfl, r⟩
  · cases h
    obtain ⟨q, ds, rfl, g, r⟩ := rb_lst hu
    exact ⟨ds, by unfold itemsD; simp only [g], r⟩
  · cases h
theorem ints_ok : ∀ {xs : List U} {ds : List D} {ns : List Int}, Reps W Z st xs ds → intsU xs = some ns → intsD ds = some ns
  | [], _, _, r, h => by rw [Reps] at r; subst r; exact h
  | u :: xs, ds, ns, r, h => by
    rw [Reps] at r
    obtain ⟨d, ds', rfl, h1, h2⟩ := r
    cases u <;> first | (cases h; done) | skip
    obtain ⟨ms, e, rfl⟩ := Option.map_eq_some_iff.mp h
    rw [Rep] at h1; subst h1
    show (intsD ds').map _ = _
    rw [ints_ok h2 e]; rfl
theorem keys_ok : ∀ {xs : List U} {ds : List D} {ks : List Key}, Reps W Z st xs ds → keysU xs = some ks → keysD ds = some ks
  | [], _, _, r, h => by rw [Reps] at r; subst r; exact h
  | u :: xs, ds, ks, r, h => by
    rw [Reps] at r
    obtain ⟨d, ds', rfl, h1, h2⟩ := r
    unfold keysU at h
    split at h
    · rename_i k e
      obtain ⟨ms, e', rfl⟩ := Option.map_eq_some_iff.mp h
      unfold keysD
      simp only [rep_key h1 e, keys_ok h2 e']; rfl
    · cases h
theorem reps_ints : ∀ ns : List Int, Reps W Z st (ns.map U.int) (ns.map D.int)
  | [] => by rw [List.map_nil, List.map_nil, Reps]
  | i :: r => by rw [List.map_cons, List.map_cons]; exact Reps.cons (by rw [Rep]) (reps_ints r)
theorem ints_no : ∀ {xs : List U} {ds : List D}, Reps W Z st xs ds → intsU xs = none → intsD ds = none
  | [], _, _, h => by cases h
  | u :: xs, ds, r, h => by
    rw [Reps] at r
    obtain ⟨d, ds', rfl, h1, h2⟩ := r
    cases d <;> first | rfl | skip
    rename_i i
    cases u <;> first | (simp [Rep] at h1; done) | skip
    unfold intsU at h
    unfold intsD
    rw [ints_no h2 (by simpa using h)]; rfl
theorem pairs_ok : ∀ {xs : List U} {ds : List D} {ps : List (Int × U)}, Reps W Z st xs ds → pairsU xs = some ps →
    ∃ zs : List (Int × (D × U)), pairsI ds = some (zs.map fun z => (z.1, z.2.1)) ∧ ps = zs.map (fun z => (z.1, z.2.2)) ∧ ∀ z ∈ zs, Rep W Z st z.2.2 z.2.1
  | [], _, _, r, h => by
    rw [Reps] at r; subst r; cases h
    exact ⟨[], rfl, rfl, fun z hz => by cases hz⟩
  | u :: xs, ds, ps, r, h => by
    rw [Reps] at r
    obtain ⟨d, ds', rfl, h1, h2⟩ := r
    unfold pairsU at h
    split at h
    · cases ‹_ :: _ = []›
    · rename_i i v r' hq
      cases hq
      obtain ⟨ps', e1, rfl⟩ := Option.map_eq_some_iff.mp h
      obtain ⟨zs, a1, a2, a3⟩ := pairs_ok h2 e1
      rw [Rep] at h1
      obtain ⟨es, rfl, h3⟩ := h1
      rw [Reps] at h3
      obtain ⟨x, es', rfl, h4, h5⟩ := h3
      rw [Reps] at h5
      obtain ⟨y, es2, rfl, h6, h7⟩ := h5
      rw [Rep] at h4
      subst h4
      rw [Reps] at h7
      subst h7
      refine ⟨(i, y, v) :: zs, ?_, by rw [List.map_cons, a2], fun z hz => ?_⟩
      · show (pairsI ds').map _ = _
        rw [a1]; rfl
      · rcases List.mem_cons.mp hz with rfl | hz
        · exact h6
        · exact a3 z hz
    · cases h
theorem pairs_reps : ∀ {zs : List (Int × (D × U))}, (∀ z ∈ zs, Rep W Z st z.2.2 z.2.1) → Reps W Z st ((zs.map fun z => (z.1, z.2.2)).map fun p => U.tup [.int p.1, p.2]) ((zs.map fun z => (z.1, z.2.1)).map fun p => D.tup [.int p.1, p.2])
  | [], _ => .nil
  | z :: zs, h => .cons (rep_tup (.cons (by rw [Rep]) (.cons (h z List.mem_cons_self) .nil))) (pairs_reps fun y hy => h y (List.mem_cons_of_mem _ hy))
theorem blt_ok {b : Blt} {us : List U} {ds : List D} {w : Bool × U} (hu : RBs W Z st us ds) (h : vblt b us = some w) : ∃ x st', bltD b ds st = .ok x st' ∧ OpR W Z st w.1 w.2 x st' := by
  unfold vblt at h
  split at h
  · cases h; obtain ⟨d, rfl, a⟩ := rb1 hu; obtain ⟨ds, rfl, r⟩ := rb_tup a
    exact ⟨_, _, rfl, by rw [r.length]; exact opR_int⟩
  · cases h; obtain ⟨d, rfl, a⟩ := rb1 hu; obtain ⟨q, ds, rfl, g, r⟩ := rb_lst a
    refine ⟨.int ds.length, st, by unfold bltD; simp only [g], by rw [r.length]; exact opR_int⟩
  · cases h; obtain ⟨d, rfl, a⟩ := rb1 hu; cases rb_ent a
    exact ⟨_, _, rfl, opR_int⟩
  · split at h
    · rename_i c; cases h; obtain ⟨d, rfl, a⟩ := rb1 hu; cases rb_str a
      exact ⟨_, _, if_pos c, opR_int⟩
    · cases h
  · cases h; obtain ⟨d, rfl, a⟩ := rb1 hu; cases rb_int a; exact ⟨_, _, rfl, opR_int⟩
  · cases h; obtain ⟨d, rfl, a⟩ := rb1 hu; cases rb_int a; exact ⟨_, _, rfl, opR_int⟩
  · cases h; obtain ⟨d, rfl, a⟩ := rb1 hu; cases rb_bl a; exact ⟨_, _, rfl, opR_int⟩
  · cases h; obtain ⟨d, rfl, a⟩ := rb1 hu; obtain ⟨ds, rfl, r⟩ := rb_tup a
    exact ⟨_, _, rfl, rfl, rep_tup r⟩
  · cases h; obtain ⟨d, rfl, a⟩ := rb1 hu; obtain ⟨q, ds, rfl, g, r⟩ := rb_lst a
    exact ⟨.tup ds, st, by unfold bltD; simp only [g], rfl, rep_tup r⟩
  · cases h; obtain ⟨d, rfl, a⟩ := rb1 hu; obtain ⟨ds, rfl, r⟩ := rb_tup a
    exact ⟨_, _, rfl, opR_lst r⟩
  · cases h; obtain ⟨d, rfl, a⟩ := rb1 hu; obtain ⟨q, ds, rfl, g, r⟩ := rb_lst a
    exact ⟨.ref st.length, _, by unfold bltD; simp only [g], opR_lst r⟩
  · cases h; obtain ⟨d, e, rfl, a, b⟩ := rb2 hu; cases rb_int a; cases rb_int b; exact ⟨_, _, rfl, opR_int⟩
  · cases h; obtain ⟨d, e, rfl, a, b⟩ := rb2 hu; cases rb_int a; cases rb_int b; exact ⟨_, _, rfl, opR_int⟩
  · split at h
    · rename_i p e1
      split at h
      · rename_i c; cases h
        obtain ⟨d, rfl, a⟩ := rb1 hu
        refine ⟨.rep p, st, ?_, rfl, rfl⟩
        unfold bltD
        simp only [Rep.pyR 60 _ d p a e1]
        exact if_pos c
      · cases h
    · cases h
  · split at h
    · rename_i c; cases h; obtain ⟨d, rfl, a⟩ := rb1 hu; cases rb_int a
      exact ⟨_, _, if_pos c, opR_str⟩
    · cases h
  · rename_i t u
    obtain ⟨b', h1, rfl⟩ := Option.map_eq_some_iff.mp h
    obtain ⟨d, rfl, a⟩ := rb1 hu
    exact ⟨.bl b', st, by unfold bltD; simp only [isi_ok a h1]; rfl, opR_bl⟩
  · unfold vsrt at h
    split at h
    · rename_i xs e1
      split at h
      · rename_i ns e2
        split at h
        · rename_i cc; cases h
          obtain ⟨d, rfl, a⟩ := rb1 hu
          obtain ⟨ds, i1, r⟩ := items_ok a e1
          exact ⟨.ref st.length, _, by unfold bltD; simp only [i1, ints_ok r e2]; exact if_pos cc, opR_lst (reps_ints _)⟩
        · cases h
      · rename_i e2
        split at h
        · unfold vsrtP at h
          split at h
          · rename_i ps e3
            split at h
            · rename_i cc; cases h
              obtain ⟨d, rfl, a⟩ := rb1 hu
              obtain ⟨q, ds, rfl, g, r⟩ := rb_lst a
              cases e1
              obtain ⟨zs, h1, rfl, hz⟩ := pairs_ok r e3
              rw [List.length_map, List.map_map] at cc
              have hi : itemsD (.ref q) st = some ds := by unfold itemsD; simp only [g]
              have hn : intsD ds = none := ints_no r e2
              refine ⟨.ref st.length, st ++ [.lst ((sortP (zs.map fun z => (z.1, z.2.1))).map fun p => .tup [.int p.1, p.2])], ?_, opR_lst ?_⟩
              · unfold bltD
                simp only [hi, hn, h1]
                exact if_pos ⟨by rw [List.length_map]; exact cc.1, by rw [List.map_map]; exact cc.2⟩
              · rw [sortP_map (fun z : D × U => z.1), sortP_map (fun z : D × U => z.2)]
                exact pairs_reps fun z hz' => hz z ((sortP_perm zs).mem_iff.mp hz')
            · cases h
          · cases h
        · cases h
    · cases h
  · unfold vdz at h
    split at h
    · rename_i xs ys e1 e2
      split at h
      · rename_i ks e3
        split at h
        · rename_i cc; cases h
          obtain ⟨d, e, rfl, a, b⟩ := rb2 hu
          obtain ⟨ds, i1, r⟩ := items_ok a e1
          obtain ⟨es, i2, r'⟩ := items_ok b e2
          have hl : ks.length = es.length := by rw [r'.length]; exact cc.1
          refine ⟨.ref st.length, st ++ [.dct (ks.zip es)], ?_, _, rfl, rfl, es, rfl, cc.1, r'⟩
          unfold bltD
          simp only [i1, i2, keys_ok r e3]
          rw [fold_zip ks es [] hl cc.2 (by simp)]; rfl
        · cases h
      · cases h
    · cases h
  · cases h
theorem vpart_ok {u : U} {d : D} {l : Option Int} (hu : RB W Z st u d) (h : vpart u = some l) : partD d = some l := by
  unfold vpart at h
  split at h
  · cases rb_non hu; exact h
  · cases rb_int hu; exact h
  · cases h
theorem sl_ok {u l h' : U} {d e f : D} {w : Bool × U} (hu : RB W Z st u d) (hl : RB W Z st l e) (hh : RB W Z st h' f) (h : vsl u l h' = some w) : ∃ x st', slD d e f st = .ok x st' ∧ OpR W Z st w.1 w.2 x st' := by
  unfold vsl at h
  split at h
  · rename_i l1 h1 xs e1 e2; cases h
    obtain ⟨ds, rfl, r⟩ := rb_tup hu
    exact ⟨.tup (cutD ds l1 h1), st, by unfold slD; rw [vpart_ok hl e1, vpart_ok hh e2], rfl, rep_tup (r.cut _ _)⟩
  · rename_i l1 h1 xs e1 e2; cases h
    obtain ⟨q, ds, rfl, g, r⟩ := rb_lst hu
    exact ⟨.ref st.length, _, by unfold slD; rw [vpart_ok hl e1, vpart_ok hh e2]; simp only [g], opR_lst (r.cut l1 h1)⟩
  · rename_i l1 h1 xs e1 e2
    split at h
    · rename_i c; cases h
      cases rb_str hu
      exact ⟨_, st, by unfold slD; rw [vpart_ok hl e1, vpart_ok hh e2]; exact if_pos c, opR_str⟩
    · cases h
  · cases h
theorem rev_ok {u : U} {d : D} {w : Bool × U} (hu : RB W Z st u d) (h : vrev u = some w) : ∃ x st', revD d st = .ok x st' ∧ OpR W Z st w.1 w.2 x st' := by
  unfold vrev at h
  split at h
  · cases h
    obtain ⟨q, ds, rfl, g, r⟩ := rb_lst hu
    exact ⟨.ref st.length, _, by unfold revD; simp only [g], opR_lst r.rev⟩
  · cases h
/-- an object changed at its place -/
theorem set_ok {c i v c' : U} {q : Nat} {ob : Ob} {e x : D} (hq : st[q]? = some ob) (hc : Bod W Z st c ob) (hi : RB W Z st i e) (hv : Rep W Z st v x) (h : vset c i v = some c') : ∃ ob', setD (.ref q) e x st = some (st.set q ob') ∧ Bod W Z st c' ob' := by
  unfold vset at h
  split at h
  · obtain ⟨ds, rfl, r⟩ := hc
    split at h
    · obtain ⟨j, h1, rfl⟩ := Option.map_eq_some_iff.mp h
      cases rb_int hi
      refine ⟨.lst (ds.set j x), ?_, _, rfl, r.set j hv⟩
      unfold setD; simp only [hq]
      rw [r.length, h1]; rfl
    · cases h
  · obtain ⟨ds, rfl, l, r⟩ := hc
    split at h
    · rename_i ks us _ k e1
      split at h
      · rename_i c1; cases h
        have ek := key_ok hi e1
        have hlen : (ks.zip ds).length = ks.length := by rw [List.length_zip, r.length, ← l]; omega
        have ha := any_zip (k := k) (ks := ks) (ds := ds) (by rw [r.length]; exact l)
        have hs : setD (.ref q) e x st = some (st.set q (.dct (putKV (ks.zip ds) k x))) := by
          unfold setD; simp only [hq]
          cases e <;> first | (cases ek; done) | skip
          · simp only [ek, hlen, if_pos c1]
          · simp only [ek, hlen, if_pos c1]
        refine ⟨_, hs, ?_⟩
        unfold putKV
        rw [ha]
        by_cases hk : hasK k ks = true
        · rw [if_pos hk, if_pos hk]
          obtain ⟨es, h2, h3⟩ := putU_ok (k := k) hv (ks := ks) r
          exact ⟨es, by rw [h2], by rw [putU_len]; exact l, h3⟩
        · rw [if_neg hk, if_neg hk]
          refine ⟨ds ++ [x], ?_, by simp [l], r.append (.cons hv .nil)⟩
          rw [List.zip_append (by rw [r.length]; exact l)]; rfl
      · cases h
    · cases h
  · cases h
theorem reps1 {u : U} {ds : List D} (h : Reps W Z st [u] ds) : ∃ d, ds = [d] ∧ Rep W Z st u d := by
  rw [Reps] at h; obtain ⟨d, es, rfl, a, b⟩ := h; rw [Reps] at b; subst b; exact ⟨d, rfl, a⟩
theorem reps2 {u v : U} {ds : List D} (h : Reps W Z st [u, v] ds) : ∃ d e, ds = [d, e] ∧ Rep W Z st u d ∧ Rep W Z st v e := by
  rw [Reps] at h; obtain ⟨d, es, rfl, a, b⟩ := h; obtain ⟨e, rfl, c⟩ := reps1 b; exact ⟨d, e, rfl, a, c⟩
theorem reps_strs : ∀ ns : List Str, Reps W Z st (ns.map U.str) (ns.map D.str)
  | [] => by rw [List.map_nil, List.map_nil, Reps]
  | i :: r => by rw [List.map_cons, List.map_cons]; exact Reps.cons (by rw [Rep]) (reps_strs r)
theorem pair_ok' : ∀ {us : List U} {ds : List D} {k : Str} {w : U}, Reps W Z st us ds → pairU' us k = some w → ∃ x, pairD ds k = some x ∧ Rep W Z st w x
  | [], _, k, w, r, h => by cases h
  | u :: us, ds, k, w, r, h => by
    rw [Reps] at r
    obtain ⟨d, ds', rfl, r1, r2⟩ := r
    unfold pairU' at h
    split at h
    · rename_i y v r' e e2
      cases e2
      rw [Rep] at r1
      obtain ⟨es, rfl, r3⟩ := r1
      rw [Reps] at r3
      obtain ⟨d1, es1, rfl, r4, r5⟩ := r3
      rw [Reps] at r5
      obtain ⟨d2, es2, rfl, r6, r7⟩ := r5
      rw [Reps] at r7
      subst r7
      cases r4
      unfold pairD
      split at h
      · rename_i c; cases h; rw [if_pos c]; exact ⟨d2, rfl, r6⟩
      · rename_i c; rw [if_neg c]; exact pair_ok' r2 h
    · cases h
theorem gk_ok {c : Option U} {c' : Option D} {u w : U} {d : D} (hc : ∀ u, c = some u → ∃ d, c' = some d ∧ Rep W Z st u d) (hu : RB W Z st u d) (h : gkU c u = some w) : ∃ x, gkD c' d = some x ∧ Rep W Z st w x := by
  unfold gkU at h
  split at h
  · obtain ⟨e, h1, h2⟩ := hc _ rfl
    cases rb_str hu
    rw [Rep] at h2
    obtain ⟨ds, rfl, r⟩ := h2
    rw [h1]
    exact pair_ok' r h
  · cases h
theorem ix_ok' {ys : List Str} {u w : U} {d : D} (hu : RB W Z st u d) (h : ixU ys u = some w) : ∃ x, ixD ys d = some x ∧ Rep W Z st w x := by
  unfold ixU at h
  split at h
  · cases rb_str hu
    split at h
    · rename_i c; cases h; exact ⟨_, by unfold ixD; simp only []; rw [if_pos c], rfl⟩
    · cases h
  · cases h
theorem row_ok {u : U} {d : D} (hu : RB W Z st u d) (h : isRowU u = true) : isRow d st = true := by
  unfold isRowU at h
  split at h
  · cases rb_ent hu; rfl
  · obtain ⟨q, ds, rfl, g, r⟩ := rb_lst hu
    unfold isRow; simp only [g]
  · cases h
theorem ixm_ok {u v w : U} {d e : D} (hu : RB W Z st u d) (hv : RB W Z st v e) (h : ixmU u v = some w) : ∃ x, ixmD d e st = some x ∧ Rep W Z st w x := by
  unfold ixmU at h
  split at h
  · cases rb_ent hu
    exact ix_ok' hv h
  · obtain ⟨q, ds, rfl, g, r⟩ := rb_lst hu
    split at h
    · rename_i ys e1
      obtain ⟨x, h1, h2⟩ := ix_ok' hv h
      exact ⟨x, by unfold ixmD; simp only [g, strs_ok r e1]; exact h1, h2⟩
    · cases h
  · cases h
theorem sm_ok {m : Tm} {a : Str} {us : List U} {ds : List D} {w : Bool × U} (hu : RBs W Z st us ds) (h : vsm m a us = some w) : ∃ x st', smD m a ds st = .ok x st' ∧ OpR W Z st w.1 w.2 x st' := by
  unfold vsm at h
  split at h
  · obtain ⟨d, rfl, q⟩ := rb1 hu
    unfold vjoin at h
    split at h
    · rename_i xs e1
      split at h
      · rename_i ys e2
        split at h
        · rename_i c; cases h
          obtain ⟨zs, g1, g2⟩ := items_ok q e1
          refine ⟨.str (Txt.join a ys), st, ?_, opR_str⟩
          unfold smD
          simp only [g1, strs_ok g2 e2]
          exact if_pos c
        · cases h
      · cases h
    · cases h
  · obtain ⟨d, rfl, q⟩ := rb1 hu; cases rb_str q
    split at h
    · rename_i c; cases h
      exact ⟨_, _, if_pos c, opR_lst (reps_strs _)⟩
    · cases h
  · have : ds = [] := by cases hu; rfl
    subst this
    split at h
    · rename_i c; cases h
      exact ⟨_, _, if_pos c, opR_str⟩
    · cases h
  · cases h
theorem meth_ok {m : Mt} {xs us ys : List U} {ds es : List D} {w : U} {q : Nat} (hq : st[q]? = some (.lst ds)) (hx : Reps W Z st xs ds) (hu : Reps W Z st us es) (h : vmeth m xs us = some (w, ys)) :
    ∃ x ds', methD m (.ref q) es st = .ok x (st.set q (.lst ds')) ∧ Reps W Z st ys ds' ∧ Rep W Z st w x := by
  unfold vmeth at h
  split at h
  · split at h
    · rename_i c; cases h
      obtain ⟨d, rfl, a⟩ := reps1 hu
      refine ⟨.non, ds ++ [d], ?_, hx.append (.cons a .nil), rfl⟩
      unfold methD; simp only [hq]
      exact if_pos (by rw [hx.length]; exact c)
    · cases h
  · rw [Reps] at hu; subst hu
    split at h
    · rename_i d e1; cases h
      obtain ⟨x, h1, h2⟩ := hx.get' e1
      refine ⟨x, ds.dropLast, ?_, ?_, h2⟩
      · unfold methD; simp only [hq]; rw [hx.length, h1]
      · rw [List.dropLast_eq_take, List.dropLast_eq_take, hx.length]; exact hx.take _
    · cases h
  · split at h
    · rename_i c
      obtain ⟨d, rfl, a⟩ := reps1 hu
      have ha : d = .int _ := a
      subst ha
      split at h
      · rename_i k e1
        split at h
        · rename_i d' e2; cases h
          obtain ⟨x, h1, h2⟩ := hx.get' e2
          refine ⟨x, ds.eraseIdx k, ?_, hx.erase k, h2⟩
          unfold methD; simp only [hq]; rw [if_pos c, hx.length, e1]; simp only [h1]
        · cases h
      · cases h
    · cases h
  · split at h
    · rename_i c; cases h
      obtain ⟨d, e, rfl, a, b⟩ := reps2 hu
      have ha : d = .int _ := a
      subst ha
      refine ⟨.non, _, ?_, ((hx.take _).append (.cons b .nil)).append (hx.drop _), rfl⟩
      unfold methD; simp only [hq]
      exact if_pos (by rw [hx.length]; exact c)
    · cases h
  · split at h
    · rename_i c; cases h
      obtain ⟨d, rfl, a⟩ := reps1 hu
      obtain ⟨p, fs, rfl, g, r⟩ := rb_lst a.rb
      refine ⟨.non, _, ?_, hx.append r, rfl⟩
      unfold methD; simp only [hq, g]
      exact if_pos (by rw [hx.length, r.length]; exact c)
    · cases h
  · cases h
end
end PL

set_option Elab.async false
set_option linter.all false
set_option maxRecDepth 100000
set_option maxHeartbeats 4000000
/-! VSD: steps of configurations. -/
namespace PL
open PySem L2
section
variable {σ : Type} {W : Bg σ} {α β γ δ : Type}
def Rl (W : Bg σ) (A : Cf σ) (Q : α → β → Cf σ → Prop) : VR σ α → Res β → Prop
  | .bad, _ => True
  | .ok a e s, .ok b st => ∃ Z' env', Ok W ⟨A.base, Z', st, env', e, s⟩ ∧ Stp W A ⟨A.base, Z', st, env', e, s⟩ ∧ Q a b ⟨A.base, Z', st, env', e, s⟩
  | .exc c us s, .exc c' ds st => c' = c ∧ ∃ Z', Xo W A Z' st s ∧ Reps W Z' st us ds
  | _, _ => False
variable {A A' A0 : Cf σ} {Q : α → β → Cf σ → Prop} {Q' : γ → δ → Cf σ → Prop}
theorem Rl.bind' {v : VR σ α} {r : Res β} {f : α → VEnv → σ → VR σ γ} {g : β → Sto → Res δ} (h : Rl W A Q v r) (k : ∀ a b A', Ok W A' → Stp W A A' → Q a b A' → Rl W A Q' (f a A'.ve A'.s) (g b A'.st)) : Rl W A Q' (v.bind f) (r.bind g) := by
  cases v with
  | bad => trivial
  | ok a e s =>
    cases r with
    | ok b st =>
      obtain ⟨Z', env', h1, h2, h3⟩ := h
      exact k a b _ h1 h2 h3
    | exc _ _ _ => exact h.elim
    | bad => exact h.elim
  | exc c us s =>
    cases r with
    | ok b st => exact h.elim
    | exc _ _ _ => exact h
    | bad => exact h.elim
theorem Rl.from {v : VR σ α} {r : Res β} (a : Stp W A A') (h : Rl W A' Q v r) : Rl W A Q v r := by
  have hb := a.bs
  cases v with
  | bad => trivial
  | ok x e s =>
    cases r with
    | ok b st =>
      obtain ⟨Z', env', h1, h2, h3⟩ := h
      refine ⟨Z', env', ?_⟩
      rw [hb] at h1 h2 h3
      exact ⟨h1, a.trans h2, h3⟩
    | exc _ _ _ => exact h.elim
    | bad => exact h.elim
  | exc c us s =>
    cases r with
    | ok b st => exact h.elim
    | exc _ _ _ => obtain ⟨h0, Z', h1, h2⟩ := h; exact ⟨h0, Z', a.xo h1, h2⟩
    | bad => exact h.elim
theorem Rl.bind {v : VR σ α} {r : Res β} {f : α → VEnv → σ → VR σ γ} {g : β → Sto → Res δ} (h : Rl W A Q v r) (k : ∀ a b A', Ok W A' → Stp W A A' → Q a b A' → Rl W A' Q' (f a A'.ve A'.s) (g b A'.st)) : Rl W A Q' (v.bind f) (r.bind g) :=
  h.bind' fun a b A' h1 h2 h3 => (k a b A' h1 h2 h3).from h2
theorem Rl.mono {Q2 : α → β → Cf σ → Prop} {v : VR σ α} {r : Res β} (h : Rl W A Q v r) (k : ∀ a b A', Ok W A' → Stp W A A' → Q a b A' → Q2 a b A') : Rl W A Q2 v r := by
  cases v with
  | bad => trivial
  | ok a e s =>
    cases r with
    | ok b st =>
      obtain ⟨Z', env', h1, h2, h3⟩ := h
      exact ⟨Z', env', h1, h2, k a b _ h1 h2 h3⟩
    | exc _ _ _ => exact h.elim
    | bad => exact h.elim
  | exc c us s =>
    cases r with
    | ok b st => exact h.elim
    | exc _ _ _ => exact h
    | bad => exact h.elim
theorem Rl.here {a : α} {b : β} (ok : Ok W A) (q : Q a b A) : Rl W A Q (.ok a A.ve A.s) (.ok b A.st) := ⟨A.Z, A.env, ok, Stp.refl, q⟩
theorem Rl.at_ {a : α} {b : β} (ok : Ok W A') (s : Stp W A A') (q : Q a b A') : Rl W A Q (.ok a A'.ve A'.s) (.ok b A'.st) := Rl.from s (Rl.here ok q)
/-- an expression's end -/
def QE (W : Bg σ) (env : Env) (n : Nat) (x : Bool × U) (d : D) (A : Cf σ) : Prop := A.env = env ∧ TR W A n x.1 x.2 d
theorem Rl.op {o : Option (Bool × U)} {r : Res D} (ok : Ok W A) (h : ∀ w, o = some w → ∃ x st', r = .ok x st' ∧ OpR W A.Z A.st w.1 w.2 x st') : Rl W A (QE W A.env A.st.length) (vlift o A.ve A.s) r := by
  cases o with
  | none => trivial
  | some w =>
    obtain ⟨x, st', rfl, hh⟩ := h w rfl
    clear h
    rename_i _
    have h := hh
    clear hh
    obtain ⟨o, u⟩ := w
    cases o with
    | false =>
      obtain ⟨rfl, h⟩ := h
      exact Rl.here ok ⟨rfl, h⟩
    | true =>
      obtain ⟨ob, rfl, rfl, h⟩ := h
      obtain ⟨o1, o2⟩ := ok.app [ob]
      refine Rl.at_ (A' := { A with st := A.st ++ [ob] }) o1 o2 ⟨rfl, _, ob, rfl, get_new, Bod.mono (o2.zkeep ok) h, fun z => ?_, fun z => ?_, fun z => ?_, Nat.le_refl _⟩
      · have := (ok.zl _ z).1; omega
      · have := W.lt _ _ ok.bag _ z; omega
      · have := ok.own_lt z; omega
theorem Rl.opB {o : Option Bool} {r : Option Bool} (ok : Ok W A) (h : ∀ w, o = some w → r = some w) : Rl W A (fun b b' A' => b' = b ∧ A'.env = A.env) (vlift o A.ve A.s) (liftO r A.st) := by
  cases o with
  | none => trivial
  | some w => rw [h w rfl]; exact Rl.here ok ⟨rfl, rfl⟩
theorem Rl.opD {o : Option Bool} {r : Option Bool} (ok : Ok W A) (h : ∀ w, o = some w → r = some w) (f : Bool → Bool) : Rl W A (QE W A.env A.st.length) (vlift (o.map fun b => (false, U.bl (f b))) A.ve A.s) (liftO (r.map fun b => D.bl (f b)) A.st) := by
  cases o with
  | none => trivial
  | some w => rw [h w rfl]; exact Rl.here ok ⟨rfl, rfl⟩

/-! ### what is not taken -/
def BRl (W : Bg σ) (A : Cf σ) (n : Nat) : BV → D → Prop
  | .val o u, d => TR W A n o u d
  | .var i, d => A.env[i]? = some (some d)
theorem BRl.mono {n : Nat} {b : BV} {d : D} (ok : Ok W A) (s : Stp W A A') (he : A'.env = A.env) (h : BRl W A n b d) : BRl W A' n b d := by
  cases b with
  | val o u => exact TR.mono ok s h
  | var i => show A'.env[i]? = _; rw [he]; exact h
theorem BRl.get {n : Nat} {b : BV} {d : D} {u : U} (ok : Ok W A) (h : BRl W A n b d) (g : b.get A.ve = some u) : RB W A.Z A.st u d := by
  cases b with
  | val o v => cases g; exact TR.rb h
  | var i =>
    unfold BV.get slotU at g
    simp only [] at g
    split at g
    · rename_i o v e
      cases g
      have h : A.env[i]? = some (some d) := h
      cases o with
      | false =>
        obtain ⟨d', a, b⟩ := ok.fr i u e
        rw [h] at a; cases a; exact b.rb
      | true =>
        obtain ⟨q, ob, a, b, c⟩ := ok.ow i u e
        rw [h] at a; cases a; exact c.rb b
    · cases g
theorem ev_var {F' : Nat → List D → Sto → Res D} {G' : Nat → Option D} {i : Nat} {env : Env} {st : Sto} {d : D} (h : env[i]? = some (some d)) : ev F' G' (.var i) env st = .ok d st := by rw [ev, h]
/-- a name's value is there -/
theorem Ok.slot (ok : Ok W A) {i : Nat} {x : Bool × U} (h : A.ve[i]? = some (some x)) : ∃ d, A.env[i]? = some (some d) := by
  obtain ⟨o, u⟩ := x
  cases o with
  | false => obtain ⟨d, a, _⟩ := ok.fr i u h; exact ⟨d, a⟩
  | true => obtain ⟨q, ob, a, _⟩ := ok.ow i u h; exact ⟨_, a⟩

/-! ### freezing -/
def TRs (W : Bg σ) (A : Cf σ) (n : Nat) : List (Bool × U) → List D → Prop
  | [], ds => ds = []
  | x :: xs, ds => ∃ d ds' m, ds = d :: ds' ∧ TR W A n x.1 x.2 d ∧ (n ≤ m ∧ (x.1 = true → ∀ q, d = .ref q → q < m)) ∧ TRs W A m xs ds'
theorem TRs.mono (ok : Ok W A) (a : Stp W A A') : ∀ {n : Nat} {xs : List (Bool × U)} {ds : List D}, TRs W A n xs ds → TRs W A' n xs ds
  | n, [], ds, h => h
  | n, x :: xs, ds, h => by
    obtain ⟨d, ds', m, rfl, h1, h2, h3⟩ := h
    exact ⟨d, ds', m, rfl, TR.mono ok a h1, h2, TRs.mono ok a h3⟩
theorem TRs.le {n m : Nat} (hnm : m ≤ n) : ∀ {xs : List (Bool × U)} {ds : List D}, TRs W A n xs ds → TRs W A m xs ds
  | [], ds, h => h
  | x :: xs, ds, h => by
    obtain ⟨d, ds', k, rfl, h1, h2, h3⟩ := h
    exact ⟨d, ds', k, rfl, TR.le hnm h1, ⟨Nat.le_trans hnm h2.1, h2.2⟩, h3⟩
theorem TR.frz {n q : Nat} {o : Bool} {u : U} {d : D} (hq : q < n) (h : TR W A n o u d) : TR W { A with Z := fun j => A.Z j ∨ j = q } n o u d := by
  have zk : ∀ j, A.Z j → (A.Z j ∨ j = q) ∧ A.st[j]? = A.st[j]? := fun j z => ⟨.inl z, rfl⟩
  cases o with
  | false => exact Rep.mono zk u d h
  | true =>
    obtain ⟨p, ob, rfl, h1, h2, h3, h4, h5, h6⟩ := h
    exact ⟨p, ob, rfl, h1, Bod.mono zk h2, fun z => z.elim h3 fun e => by omega, h4, h5, h6⟩
theorem TRs.frz {q : Nat} : ∀ {n : Nat} {xs : List (Bool × U)} {ds : List D}, q < n → TRs W A n xs ds → TRs W { A with Z := fun j => A.Z j ∨ j = q } n xs ds
  | n, [], ds, _, h => h
  | n, x :: xs, ds, hq, h => by
    obtain ⟨d, ds', m, rfl, h1, h2, h3⟩ := h
    exact ⟨d, ds', m, rfl, h1.frz hq, h2, TRs.frz (by omega) h3⟩
theorem frz1 (ok : Ok W A) (s : Stp W A0 A) {n : Nat} (hn : A0.st.length ≤ n) {o : Bool} {u : U} {d : D} (h : TR W A n o u d) :
    ∃ Z', Ok W { A with Z := Z' } ∧ Stp W A0 { A with Z := Z' } ∧ (∀ j, A.Z j → Z' j) ∧ Rep W Z' A.st u d ∧ (Z' = A.Z ∨ (o = true ∧ ∃ q, d = .ref q ∧ Z' = fun j => A.Z j ∨ j = q)) := by
  cases o with
  | false => exact ⟨A.Z, ok, s, fun _ h => h, h, .inl rfl⟩
  | true =>
    obtain ⟨p, ob, rfl, h1, h2, h3, h4, h5, h6⟩ := h
    have zk : ∀ j, A.Z j → (A.Z j ∨ j = p) ∧ A.st[j]? = A.st[j]? := fun j z => ⟨.inl z, rfl⟩
    exact ⟨fun j => A.Z j ∨ j = p, ok.frz (lt_of_get h1) h4 h5, s.frz (Nat.le_trans hn h6), fun _ h => .inl h, Bod.rep h1 (.inr rfl) (Bod.mono zk h2), .inr ⟨rfl, p, rfl, rfl⟩⟩
theorem frzs : ∀ {n : Nat} {A : Cf σ} {xs : List (Bool × U)} {ds : List D}, Ok W A → Stp W A0 A → A0.st.length ≤ n → TRs W A n xs ds →
    ∃ Z', Ok W { A with Z := Z' } ∧ Stp W A0 { A with Z := Z' } ∧ (∀ j, A.Z j → Z' j) ∧ Reps W Z' A.st (xs.map (·.2)) ds
  | n, A, [], ds, ok, s, hn, h => ⟨A.Z, ok, s, fun _ h => h, h⟩
  | n, A, x :: xs, ds, ok, s, hn, h => by
    obtain ⟨d, ds', m, rfl, h1, h2, h3⟩ := h
    obtain ⟨Z1, o1, s1, z1, r1, hz⟩ := frz1 ok s hn h1
    have h4 : TRs W { A with Z := Z1 } m xs ds' := by
      rcases hz with rfl | ⟨ho, q, rfl, rfl⟩
      · exact h3
      · exact h3.frz (h2.2 ho q rfl)
    obtain ⟨Z2, o2, s2, z2, r2⟩ := frzs (A := { A with Z := Z1 }) o1 s1 (Nat.le_trans hn h2.1) h4
    exact ⟨Z2, o2, s2, fun j h => z2 j (z1 j h), .cons (Rep.mono (fun j z => ⟨z2 j z, rfl⟩) _ _ r1) r2⟩
theorem Rl.frz {E : Env} {n : Nat} {v : VR σ (Bool × U)} {r : Res D} (hn : A.st.length ≤ n) (h : Rl W A (QE W E n) v r) : Rl W A (fun x d A' => A'.env = E ∧ Rep W A'.Z A'.st x.2 d) v r := by
  cases v with
  | bad => trivial
  | ok a e s =>
    cases r with
    | ok b st =>
      obtain ⟨Z', env', h1, h2, h3, h4⟩ := h
      obtain ⟨Z2, o2, s2, _, r2, _⟩ := frz1 h1 h2 hn h4
      exact ⟨Z2, env', o2, s2, h3, r2⟩
    | exc _ _ _ => exact h.elim
    | bad => exact h.elim
  | exc c us s =>
    cases r with
    | ok b st => exact h.elim
    | exc _ _ _ => exact h
    | bad => exact h.elim
def QEs (W : Bg σ) (env : Env) (n : Nat) (xs : List (Bool × U)) (ds : List D) (A : Cf σ) : Prop := A.env = env ∧ TRs W A n xs ds
theorem Rl.frzs {E : Env} {n : Nat} {v : VR σ (List (Bool × U))} {r : Res (List D)} (hn : A.st.length ≤ n) (h : Rl W A (QEs W E n) v r) : Rl W A (fun xs ds A' => A'.env = E ∧ Reps W A'.Z A'.st (xs.map (·.2)) ds) v r := by
  cases v with
  | bad => trivial
  | ok a e s =>
    cases r with
    | ok b st =>
      obtain ⟨Z', env', h1, h2, h3, h4⟩ := h
      obtain ⟨Z2, o2, s2, _, r2⟩ := PL.frzs h1 h2 hn h4
      exact ⟨Z2, env', o2, s2, h3, r2⟩
    | exc _ _ _ => exact h.elim
    | bad => exact h.elim
  | exc c us s =>
    cases r with
    | ok b st => exact h.elim
    | exc _ _ _ => exact h
    | bad => exact h.elim
/-- a name gives its object away -/
theorem frzV (ok : Ok W A) {i : Nat} {o : Bool} {u : U} (h : A.ve[i]? = some (some (o, u))) :
    ∃ Z' d, A.env[i]? = some (some d) ∧ Ok W { A with Z := Z', ve := A.ve.set i (some (false, u)) } ∧ Stp W A { A with Z := Z', ve := A.ve.set i (some (false, u)) } ∧ Rep W Z' A.st u d := by
  have hi : i < A.ve.length := (List.getElem?_eq_some_iff.mp h).1
  cases o with
  | false =>
    obtain ⟨d, a, b⟩ := ok.fr i u h
    have e : A.ve.set i (some (false, u)) = A.ve := by
      apply List.ext_getElem?
      intro j
      by_cases hj : i = j
      · subst hj; rw [List.getElem?_set_self hi, h]
      · rw [List.getElem?_set_ne hj]
    refine ⟨A.Z, d, a, ?_⟩
    rw [e]
    exact ⟨ok, Stp.refl, b⟩
  | true =>
    obtain ⟨q, ob, a, b, c⟩ := ok.ow i u h
    have oq : OwnR A.env A.ve q := ⟨i, u, h, a⟩
    obtain ⟨z1, z2, z3⟩ := ok.oz q oq
    have zk : ∀ j, A.Z j → (A.Z j ∨ j = q) ∧ A.st[j]? = A.st[j]? := fun j z => ⟨.inl z, rfl⟩
    have gs : ∀ {j : Nat} {x : Bool × U}, (A.ve.set i (some (false, u)))[j]? = some (some x) → (j = i ∧ x = (false, u)) ∨ (j ≠ i ∧ A.ve[j]? = some (some x)) := by
      intro j x hx
      by_cases hj : i = j
      · subst hj; rw [List.getElem?_set_self hi] at hx; cases hx; exact .inl ⟨rfl, rfl⟩
      · rw [List.getElem?_set_ne hj] at hx; exact .inr ⟨fun z => hj z.symm, hx⟩
    have ow2 : ∀ {j : Nat}, OwnR A.env (A.ve.set i (some (false, u))) j → OwnR A.env A.ve j ∧ j ≠ q := by
      rintro j ⟨k, w, h1, h2⟩
      rcases gs h1 with ⟨_, z⟩ | ⟨hk, z⟩
      · cases z
      · refine ⟨⟨k, w, z, h2⟩, fun e => ?_⟩
        subst e
        exact hk (ok.od k i w u _ z h h2 a)
    refine ⟨fun j => A.Z j ∨ j = q, _, a, ⟨by rw [List.length_set]; exact ok.len, fun j w hx => ?_, fun j w hx => ?_, fun j hx => ?_, fun j j' w w' p hx hx' => ?_, fun j z => ?_, ok.bag, ok.bl⟩, ⟨rfl, Nat.le_refl _, fun _ _ _ _ => rfl, fun _ h => .inl h, fun j z => ?_, fun j z => .inl (ow2 z).1⟩, Bod.rep b (.inr rfl) (Bod.mono zk c)⟩
    · rcases gs hx with ⟨rfl, z⟩ | ⟨hj, z⟩
      · cases z; exact ⟨_, a, Bod.rep b (.inr rfl) (Bod.mono zk c)⟩
      · obtain ⟨d, h1, h2⟩ := ok.fr j w z
        exact ⟨d, h1, Rep.mono zk _ _ h2⟩
    · rcases gs hx with ⟨rfl, z⟩ | ⟨hj, z⟩
      · cases z
      · obtain ⟨p, ob', h1, h2, h3⟩ := ok.ow j w z
        exact ⟨p, ob', h1, h2, Bod.mono zk h3⟩
    · obtain ⟨h1, h2⟩ := ow2 hx
      obtain ⟨a1, a2, a3⟩ := ok.oz j h1
      exact ⟨fun z => z.elim a1 h2, a2, a3⟩
    · rcases gs hx with ⟨rfl, z⟩ | ⟨hj, z⟩
      · cases z
      · rcases gs hx' with ⟨rfl, z'⟩ | ⟨hj', z'⟩
        · cases z'
        · exact ok.od j j' w w' p z z'
    · rcases z with z | rfl
      · exact ok.zl j z
      · exact ⟨lt_of_get b, z2⟩
    · rcases z with z | rfl
      · exact .inl z
      · exact .inr (.inl oq)
/-- a name's object is changed -/
theorem mutV (ok : Ok W A) {i q : Nat} {u u' : U} {ob' : Ob} (h : A.ve[i]? = some (some (true, u))) (hq : A.env[i]? = some (some (.ref q))) (hb : Bod W A.Z A.st u' ob') :
    Ok W { A with st := A.st.set q ob', ve := A.ve.set i (some (true, u')) } ∧ Stp W A { A with st := A.st.set q ob', ve := A.ve.set i (some (true, u')) } := by
  have hi : i < A.ve.length := (List.getElem?_eq_some_iff.mp h).1
  obtain ⟨q', ob, a, b, c⟩ := ok.ow i u h
  rw [hq] at a; cases a
  have oq : OwnR A.env A.ve q := ⟨i, u, h, hq⟩
  obtain ⟨z1, z2, z3⟩ := ok.oz q oq
  have ne : ∀ j, j ≠ q → (A.st.set q ob')[j]? = A.st[j]? := fun j hj => List.getElem?_set_ne (Ne.symm hj)
  have zk : ∀ j, A.Z j → A.Z j ∧ (A.st.set q ob')[j]? = A.st[j]? := fun j z => ⟨z, ne j fun e => z1 (e ▸ z)⟩
  have gs : ∀ {j : Nat} {x : Bool × U}, (A.ve.set i (some (true, u')))[j]? = some (some x) → (j = i ∧ x = (true, u')) ∨ (j ≠ i ∧ A.ve[j]? = some (some x)) := by
    intro j x hx
    by_cases hj : i = j
    · subst hj; rw [List.getElem?_set_self hi] at hx; cases hx; exact .inl ⟨rfl, rfl⟩
    · rw [List.getElem?_set_ne hj] at hx; exact .inr ⟨fun z => hj z.symm, hx⟩
  have ow2 : ∀ {j : Nat}, OwnR A.env (A.ve.set i (some (true, u'))) j → OwnR A.env A.ve j := by
    rintro j ⟨k, w, h1, h2⟩
    rcases gs h1 with ⟨rfl, z⟩ | ⟨hk, z⟩
    · exact ⟨k, u, h, h2⟩
    · exact ⟨k, w, z, h2⟩
  refine ⟨⟨by rw [List.length_set]; exact ok.len, fun j w hx => ?_, fun j w hx => ?_, fun j hx => ok.oz j (ow2 hx), fun j j' w w' p hx hx' g g' => ?_, fun j z => by simpa using ok.zl j z, W.keep _ _ _ (fun j hj => ne j fun e => z2 (e ▸ hj)) ok.bag, by simpa using ok.bl⟩,
    ⟨rfl, by simp, fun j h1 h2 h3 => ne j fun e => h3 (e ▸ oq), fun _ h => h, fun j z => .inl z, fun j z => .inl (ow2 z)⟩⟩
  · rcases gs hx with ⟨rfl, z⟩ | ⟨hj, z⟩
    · cases z
    · obtain ⟨d, h1, h2⟩ := ok.fr j w z
      exact ⟨d, h1, Rep.mono zk _ _ h2⟩
  · rcases gs hx with ⟨rfl, z⟩ | ⟨hj, z⟩
    · cases z
      exact ⟨q, ob', hq, get_set_self b, Bod.mono zk hb⟩
    · obtain ⟨p, ob2, h1, h2, h3⟩ := ok.ow j w z
      have hp : p ≠ q := fun e => by subst e; exact hj (ok.od j i w u p z h h1 hq)
      exact ⟨p, ob2, h1, by show (A.st.set q ob')[p]? = _; rw [ne p hp]; exact h2, Bod.mono zk h3⟩
  · have s1 : ∃ w, A.ve[j]? = some (some (true, w)) := by
      rcases gs hx with ⟨rfl, z⟩ | ⟨_, z⟩
      · exact ⟨u, h⟩
      · exact ⟨w, z⟩
    have s2 : ∃ w, A.ve[j']? = some (some (true, w)) := by
      rcases gs hx' with ⟨rfl, z⟩ | ⟨_, z⟩
      · exact ⟨u, h⟩
      · exact ⟨w', z⟩
    obtain ⟨_, s1⟩ := s1
    obtain ⟨_, s2⟩ := s2
    exact ok.od j j' _ _ p s1 s2 g g'
/-- a name is given a value -/
theorem setV (ok0 : Ok W A0) (ok : Ok W A) (s : Stp W A0 A) {n : Nat} (hn : A0.st.length ≤ n) {o : Bool} {u : U} {d : D} (h : TR W A n o u d) (i : Nat) :
    Ok W { A with env := A.env.set i (some d), ve := A.ve.set i (some (o, u)) } ∧ Stp W A0 { A with env := A.env.set i (some d), ve := A.ve.set i (some (o, u)) } := by
  have gs : ∀ {j : Nat} {x : Bool × U}, (A.ve.set i (some (o, u)))[j]? = some (some x) → (j = i ∧ x = (o, u) ∧ (A.env.set i (some d))[j]? = some (some d)) ∨ (j ≠ i ∧ A.ve[j]? = some (some x) ∧ (A.env.set i (some d))[j]? = A.env[j]?) := by
    intro j x hx
    by_cases hj : i = j
    · subst hj
      have hi : i < A.ve.length := by
        have := (List.getElem?_eq_some_iff.mp hx).1
        rwa [List.length_set] at this
      rw [List.getElem?_set_self hi] at hx; cases hx
      exact .inl ⟨rfl, rfl, List.getElem?_set_self (by rw [← ok.len]; exact hi)⟩
    · rw [List.getElem?_set_ne hj] at hx; exact .inr ⟨fun z => hj z.symm, hx, List.getElem?_set_ne hj⟩
  have ow2 : ∀ {j : Nat}, OwnR (A.env.set i (some d)) (A.ve.set i (some (o, u))) j → OwnR A.env A.ve j ∨ (o = true ∧ d = .ref j) := by
    rintro j ⟨k, w, h1, h2⟩
    rcases gs h1 with ⟨rfl, z, e⟩ | ⟨hk, z, e⟩
    · cases z; rw [e] at h2; cases h2; exact .inr ⟨rfl, rfl⟩
    · rw [e] at h2; exact .inl ⟨k, w, z, h2⟩
  have tr : ∀ j, o = true → d = .ref j → ¬ A.Z j ∧ j ∉ W.ft ∧ ¬ OwnR A.env A.ve j ∧ n ≤ j ∧ j < A.st.length := by
    rintro j rfl rfl
    obtain ⟨p, ob, e, h1, h2, h3, h4, h5, h6⟩ := h
    cases e
    exact ⟨h3, h4, h5, h6, lt_of_get h1⟩
  refine ⟨⟨by rw [List.length_set, List.length_set]; exact ok.len, fun j w hx => ?_, fun j w hx => ?_, fun j hx => ?_, fun j j' w w' p hx hx' g g' => ?_, ok.zl, ok.bag, ok.bl⟩, ⟨s.bs, s.len, s.frm, s.zin, s.zout, fun j z => ?_⟩⟩
  · rcases gs hx with ⟨rfl, z, e⟩ | ⟨hj, z, e⟩
    · cases z; exact ⟨d, e, h⟩
    · obtain ⟨d', h1, h2⟩ := ok.fr j w z
      exact ⟨d', by show (A.env.set i (some d))[j]? = _; rw [e]; exact h1, h2⟩
  · rcases gs hx with ⟨rfl, z, e⟩ | ⟨hj, z, e⟩
    · cases z
      obtain ⟨p, ob, rfl, h1, h2, _⟩ := h
      exact ⟨p, ob, e, h1, h2⟩
    · obtain ⟨p, ob, h1, h2, h3⟩ := ok.ow j w z
      exact ⟨p, ob, by show (A.env.set i (some d))[j]? = _; rw [e]; exact h1, h2, h3⟩
  · rcases ow2 hx with z | ⟨z, z'⟩
    · exact ok.oz j z
    · obtain ⟨a, b, c, e, f⟩ := tr j z z'
      have := ok0.bl
      have := s.bs
      exact ⟨a, b, by show A.base ≤ j; omega⟩
  · rcases gs hx with ⟨rfl, z, e⟩ | ⟨hj, z, e⟩
    · cases z
      rw [show (A.env.set j (some d))[j]? = some (some d) from e] at g
      cases g
      rcases gs hx' with ⟨rfl, z', e'⟩ | ⟨hj', z', e'⟩
      · rfl
      · rw [show (A.env.set j (some (D.ref p)))[j']? = A.env[j']? from e'] at g'
        exact absurd ⟨j', w', z', g'⟩ (tr p rfl rfl).2.2.1
    · rcases gs hx' with ⟨rfl, z', e'⟩ | ⟨hj', z', e'⟩
      · cases z'
        rw [show (A.env.set j' (some d))[j']? = some (some d) from e'] at g'
        cases g'
        rw [show (A.env.set j' (some (D.ref p)))[j]? = A.env[j]? from e] at g
        exact absurd ⟨j, w, z, g⟩ (tr p rfl rfl).2.2.1
      · rw [show (A.env.set i (some d))[j]? = A.env[j]? from e] at g
        rw [show (A.env.set i (some d))[j']? = A.env[j']? from e'] at g'
        exact ok.od j j' w w' p z z' g g'
  · rcases ow2 z with z | ⟨z, z'⟩
    · exact s.own j z
    · exact .inr (Nat.le_trans hn (tr j z z').2.2.2.1)
end
end PL

set_option Elab.async false
set_option linter.all false
set_option maxRecDepth 100000
set_option maxHeartbeats 4000000
/-! VSE: loops, calls, what a comprehension hides. -/
namespace PL
open PySem L2
section
variable {σ : Type} {W : Bg σ} {α β γ δ : Type} {A A' A0 : Cf σ}
/-! ### what is walked -/
def ItR (W : Bg σ) (Z : Nat → Prop) (st : Sto) (items : List U) (s : Src) : Prop := s.len st = items.length ∧ ∀ (Z' : Nat → Prop) (st' : Sto), (∀ j, Z j → Z' j ∧ st'[j]? = st[j]?) → ∀ i ≤ items.length, (items[i]? = none ∧ s.at st' i = some none) ∨ ∃ u d, items[i]? = some u ∧ s.at st' i = some (some d) ∧ Rep W Z' st' u d
theorem Reps.lget {Z : Nat → Prop} {st : Sto} {us : List U} {ds : List D} (r : Reps W Z st us ds) : ItR W Z st us (.fix ds) := by
  refine ⟨r.length, fun Z' st' hz i hi => ?_⟩
  have hl : i ≤ ds.length := by rw [r.length]; exact hi
  rcases r.get (i := i) with ⟨a, b⟩ | ⟨u, d, a, b, c⟩
  · exact .inl ⟨a, by show (if i ≤ ds.length then some ds[i]? else none) = _; rw [if_pos hl, b]⟩
  · exact .inr ⟨u, d, a, by show (if i ≤ ds.length then some ds[i]? else none) = _; rw [if_pos hl, b], Rep.mono hz u d c⟩
theorem seq_it {Z : Nat → Prop} {st : Sto} {u : U} {d : D} {items : List U} (h : Rep W Z st u d) (e : vseq u = some items) : ∃ s, seqD d st = some s ∧ ItR W Z st items s := by
  unfold vseq at e
  split at e
  · cases e
    rw [Rep] at h
    obtain ⟨ds, rfl, r⟩ := h
    exact ⟨_, rfl, r.lget⟩
  · cases e
    rw [Rep] at h
    obtain ⟨q, ds, rfl, z, g, r⟩ := h
    refine ⟨.live q, by unfold seqD; simp only [g], ?_, fun Z' st' hz i hi => ?_⟩
    · show (match st[q]? with | some (.lst xs) => xs.length | _ => 0) = _
      rw [g]; exact r.length
    · have g' : st'[q]? = some (.lst ds) := by rw [(hz q z).2]; exact g
      have hl : i ≤ ds.length := by rw [r.length]; exact hi
      have ea : Src.at (.live q) st' i = some ds[i]? := by
        show (match st'[q]? with | some (.lst xs) => if i ≤ xs.length then some xs[i]? else none | _ => none) = _
        rw [g']; exact if_pos hl
      rcases r.get (i := i) with ⟨a, b⟩ | ⟨u, d, a, b, c⟩
      · exact .inl ⟨a, by rw [ea, b]⟩
      · exact .inr ⟨u, d, a, by rw [ea, b], Rep.mono hz u d c⟩
  · cases e
theorem numU_len : ∀ {us : List U} {k : Nat}, (numU k us).length = us.length
  | [], _ => rfl
  | u :: us, k => by rw [numU, List.length_cons, List.length_cons, numU_len]
theorem numU_get : ∀ {us : List U} {k i : Nat}, (numU k us)[i]? = (us[i]?).map fun u => .tup [.int ((k + i : Nat) : Int), u]
  | [], _, _ => by simp [numU]
  | u :: us, k, 0 => by simp [numU]
  | u :: us, k, i + 1 => by
    rw [numU, List.getElem?_cons_succ, List.getElem?_cons_succ, numU_get]
    have : k + 1 + i = k + (i + 1) := by omega
    rw [this]
theorem pairU_len : ∀ {us vs : List U}, (pairU us vs).length = min us.length vs.length
  | [], vs => by rw [pairU]; simp; intros; simp_all
  | u :: us, [] => by rw [pairU] <;> simp
  | u :: us, v :: vs => by rw [pairU, List.length_cons, pairU_len, List.length_cons, List.length_cons]; omega
theorem pairU_get : ∀ {us vs : List U} {i : Nat}, (pairU us vs)[i]? = match us[i]?, vs[i]? with | some u, some v => some (.tup [u, v]) | _, _ => none
  | [], vs, i => by rw [pairU]; simp; intros; simp_all
  | u :: us, [], i => by
    rw [pairU]
    · simp only [List.getElem?_nil]; cases (u :: us)[i]? <;> rfl
    all_goals (intros; simp_all)
  | u :: us, v :: vs, 0 => by simp [pairU]
  | u :: us, v :: vs, i + 1 => by rw [pairU, List.getElem?_cons_succ, pairU_get, List.getElem?_cons_succ, List.getElem?_cons_succ]
theorem enum_it {Z : Nat → Prop} {st : Sto} {items : List U} {s : Src} (h : ItR W Z st items s) : ItR W Z st (numU 0 items) (.enum s) := by
  refine ⟨by rw [numU_len]; exact h.1, fun Z' st' hz i hi => ?_⟩
  rw [numU_len] at hi
  rw [numU_get]
  rcases h.2 Z' st' hz i hi with ⟨a, b⟩ | ⟨u, d, a, b, c⟩
  · exact .inl ⟨by rw [a]; rfl, by rw [Src.at, b]⟩
  · refine .inr ⟨.tup [.int ((0 + i : Nat) : Int), u], .tup [.int (i : Int), d], by rw [a]; rfl, by rw [Src.at, b], rep_tup (.cons ?_ (.cons c .nil))⟩
    rw [Nat.zero_add]; rfl
theorem zip_it {Z : Nat → Prop} {st : Sto} {items items' : List U} {s t : Src} (h : ItR W Z st items s) (h' : ItR W Z st items' t) : ItR W Z st (pairU items items') (.zip s t) := by
  refine ⟨by rw [pairU_len]; show min _ _ = _; rw [h.1, h'.1], fun Z' st' hz i hi => ?_⟩
  rw [pairU_len] at hi
  rw [pairU_get]
  rcases h.2 Z' st' hz i (by omega) with ⟨a, b⟩ | ⟨u, d, a, b, c⟩
  · rcases h'.2 Z' st' hz i (by omega) with ⟨a', b'⟩ | ⟨u', d', a', b', c'⟩
    · exact .inl ⟨by rw [a], by rw [Src.at, b, b'] ⟩
    · exact .inl ⟨by rw [a], by rw [Src.at, b, b']⟩
  · rcases h'.2 Z' st' hz i (by omega) with ⟨a', b'⟩ | ⟨u', d', a', b', c'⟩
    · exact .inl ⟨by rw [a, a'], by rw [Src.at, b, b']⟩
    · exact .inr ⟨_, .tup [d, d'], by rw [a, a'], by rw [Src.at, b, b'], rep_tup (.cons c (.cons c' .nil))⟩
theorem range_it {Z : Nat → Prop} {st : Sto} (lo c : Int) (n : Nat) : Reps W Z st (rangeU lo c n) (rangeD lo c n) := by
  unfold rangeU rangeD
  generalize List.range n = l
  induction l with
  | nil => rfl
  | cons k l ih => exact .cons rfl ih
theorem signs_it {Z : Nat → Prop} {st : Sto} (x : Str) : Reps W Z st (signsU x) (signsD x) := by
  unfold signsU signsD
  generalize x.cps.toList = l
  induction l with
  | nil => rfl
  | cons k l ih => exact .cons rfl ih
theorem src_it {Z : Nat → Prop} {st : Sto} {k : ItK} {us items : List U} {ds : List D} (h : Reps W Z st us ds) (e : vsrc k us = some items) : ∃ s, srcD k ds st = some s ∧ ItR W Z st items s := by
  unfold vsrc at e
  split at e
  · cases e
    obtain ⟨d, rfl, a⟩ := reps1 h
    cases (show d = .str _ from a)
    exact ⟨_, rfl, (signs_it _).lget⟩
  · cases e
    obtain ⟨d, rfl, a⟩ := reps1 h
    cases (show d = .ent _ from a)
    exact ⟨_, rfl, (reps_strs _).lget⟩
  · rename_i u hns hne
    obtain ⟨d, rfl, a⟩ := reps1 h
    obtain ⟨s, h1, h2⟩ := seq_it a e
    refine ⟨s, ?_, h2⟩
    unfold srcD
    cases d <;> first | exact h1 | skip
    cases h1
  · split at e
    · rename_i c; cases e
      obtain ⟨d, rfl, a⟩ := reps1 h
      cases (show d = .int _ from a)
      exact ⟨_, if_pos c, (range_it _ _ _).lget⟩
    · cases e
  · split at e
    · rename_i c; cases e
      obtain ⟨d, d', rfl, a, b⟩ := reps2 h
      cases (show d = .int _ from a); cases (show d' = .int _ from b)
      exact ⟨_, if_pos c, (range_it _ _ _).lget⟩
    · cases e
  · split at e
    · rename_i c; cases e
      rw [Reps] at h
      obtain ⟨d, ds, rfl, a, h⟩ := h
      obtain ⟨d', d2, rfl, b, b'⟩ := reps2 h
      cases (show d = .int _ from a); cases (show d' = .int _ from b); cases (show d2 = .int _ from b')
      exact ⟨_, if_pos c, (range_it _ _ _).lget⟩
    · cases e
  · obtain ⟨items, e1, rfl⟩ := Option.map_eq_some_iff.mp e
    obtain ⟨d, rfl, a⟩ := reps1 h
    obtain ⟨s, h1, h2⟩ := seq_it a e1
    exact ⟨.enum s, by unfold srcD; simp only [h1]; rfl, enum_it h2⟩
  · obtain ⟨d, d', rfl, a, b⟩ := reps2 h
    split at e
    · rename_i e1 e2; cases e
      obtain ⟨s, h1, h2⟩ := seq_it a e1
      obtain ⟨t, h3, h4⟩ := seq_it b e2
      exact ⟨.zip s t, by unfold srcD; simp only [h1, h3], zip_it h2 h4⟩
    · cases e
  · cases e

/-! ### calls -/
structure FO (W : Bg σ) (Z : Nat → Prop) (st : Sto) (Z' : Nat → Prop) (st' : Sto) (s : σ) : Prop where
  len : st.length ≤ st'.length
  frm : ∀ j, j < st.length → j ∉ W.ft → st'[j]? = st[j]?
  zin : ∀ j, Z j → Z' j
  zout : ∀ j, Z' j → Z j ∨ st.length ≤ j
  zl : ∀ j, Z' j → j < st'.length ∧ j ∉ W.ft
  bag : W.R st' s
def TF (W : Bg σ) (Z : Nat → Prop) (st' : Sto) (n : Nat) (o : Bool) (u : U) (d : D) : Prop := match o with
  | true => ∃ q ob, d = .ref q ∧ st'[q]? = some ob ∧ Bod W Z st' u ob ∧ ¬ Z q ∧ q ∉ W.ft ∧ n ≤ q
  | false => Rep W Z st' u d
def RF (W : Bg σ) (Z : Nat → Prop) (st : Sto) : FR σ → Res D → Prop
  | .bad, _ => True
  | .ok o u s, .ok d st' => ∃ Z', FO W Z st Z' st' s ∧ TF W Z' st' st.length o u d
  | .exc c us s, .exc c' ds st' => c' = c ∧ ∃ Z', FO W Z st Z' st' s ∧ Reps W Z' st' us ds
  | _, _ => False
/-- what is asked of calls -/
def CallOk (W : Bg σ) (f : List U → σ → FR σ) (f' : List D → Sto → Res D) : Prop := ∀ us ds st s Z, Reps W Z st us ds → (∀ j, Z j → j < st.length ∧ j ∉ W.ft) → W.R st s → RF W Z st (f us s) (f' ds st)
theorem call_rl (ok : Ok W A) {v : FR σ} {r : Res D} (h : RF W A.Z A.st v r) : Rl W A (QE W A.env A.st.length) (okE v A.ve) r := by
  cases v with
  | bad => trivial
  | exc c us s =>
    cases r with
    | ok _ _ => exact h.elim
    | bad => exact h.elim
    | exc c' ds st' =>
      obtain ⟨e, Z', f, r⟩ := h
      exact ⟨e, Z', ⟨f.len, fun j a b _ => f.frm j a b, f.zin, fun j z => (f.zout j z).elim .inl fun z => .inr (.inr z), f.zl, f.bag⟩, r⟩
  | ok o u s =>
    cases r with
    | exc _ _ _ => exact h.elim
    | bad => exact h.elim
    | ok d st' =>
      obtain ⟨Z', f, t⟩ := h
      have zk : ∀ j, A.Z j → Z' j ∧ st'[j]? = A.st[j]? := fun j z => ⟨f.zin j z, f.frm j (ok.zl j z).1 (ok.zl j z).2⟩
      refine ⟨Z', A.env, ⟨ok.len, fun i u h => ?_, fun i u h => ?_, fun j w => ?_, ok.od, f.zl, f.bag, Nat.le_trans ok.bl f.len⟩, ⟨rfl, f.len, fun j a b _ => f.frm j a b, f.zin, fun j z => (f.zout j z).elim .inl fun z => .inr (.inr z), fun j z => .inl z⟩, rfl, ?_⟩
      · obtain ⟨d, a, b⟩ := ok.fr i u h
        exact ⟨d, a, Rep.mono zk u d b⟩
      · obtain ⟨q, ob, a, b, c⟩ := ok.ow i u h
        have w : OwnR A.env A.ve q := ⟨i, u, h, a⟩
        exact ⟨q, ob, a, by show st'[q]? = _; rw [f.frm q (lt_of_get b) (ok.oz q w).2.1]; exact b, Bod.mono zk c⟩
      · obtain ⟨a, b, c⟩ := ok.oz j w
        refine ⟨fun z => ?_, b, c⟩
        rcases f.zout j z with z | z
        · exact a z
        · have := ok.own_lt w; omega
      · cases o with
        | false => exact t
        | true =>
          obtain ⟨q, ob, e, a, b, c, d, h⟩ := t
          refine ⟨q, ob, e, a, b, c, d, fun w => ?_, h⟩
          have := ok.own_lt w; omega

/-! ### what a comprehension hides -/
theorem wipeV_len (e : VEnv) : ∀ own, (wipeV e own).length = e.length
  | [] => rfl
  | v :: vs => by rw [wipeV, List.length_set, wipeV_len]
theorem wipeV_get {e : VEnv} {j : Nat} {x : Bool × U} : ∀ {own : List Nat}, (wipeV e own)[j]? = some (some x) → j ∉ own ∧ e[j]? = some (some x)
  | [], h => ⟨by simp, h⟩
  | v :: vs, h => by
    rw [wipeV] at h
    by_cases hj : v = j
    · subst hj
      by_cases hi : v < (wipeV e vs).length
      · rw [List.getElem?_set_self hi] at h; cases h
      · rw [List.getElem?_eq_none (by rw [List.length_set]; omega)] at h; cases h
    · rw [List.getElem?_set_ne hj] at h
      obtain ⟨a, b⟩ := wipeV_get h
      exact ⟨by simp only [List.mem_cons, not_or]; exact ⟨fun e => hj e.symm, a⟩, b⟩
theorem wipeV_out {e : VEnv} {j : Nat} : ∀ {own : List Nat}, j ∉ own → (wipeV e own)[j]? = e[j]?
  | [], _ => rfl
  | v :: vs, h => by
    simp only [List.mem_cons, not_or] at h
    rw [wipeV, List.getElem?_set_ne (Ne.symm h.1), wipeV_out h.2]
theorem wipeE_out {e : Env} {j : Nat} : ∀ {own : List Nat}, j ∉ own → (wipeE e own)[j]? = e[j]?
  | [], _ => rfl
  | v :: vs, h => by
    simp only [List.mem_cons, not_or] at h
    rw [wipeE, List.getElem?_set_ne (Ne.symm h.1), wipeE_out h.2]
theorem restV_len (e0 : VEnv) : ∀ (own : List Nat) (e : VEnv), (restV e0 own e).length = e.length
  | [], e => rfl
  | v :: vs, e => by
    rw [restV]
    split
    · rw [restV_len, List.length_set]
    · rw [restV_len]
theorem restV_out {e0 : VEnv} {j : Nat} : ∀ {own : List Nat} {e : VEnv}, j ∉ own → (restV e0 own e)[j]? = e[j]?
  | [], _, _ => rfl
  | v :: vs, e, h => by
    simp only [List.mem_cons, not_or] at h
    rw [restV]
    split
    · rw [restV_out h.2, List.getElem?_set_ne (Ne.symm h.1)]
    · rw [restV_out h.2]
theorem restV_in {e0 : VEnv} {j : Nat} : ∀ {own : List Nat} {e : VEnv}, e.length = e0.length → (j ∈ own ∨ e[j]? = e0[j]?) → (restV e0 own e)[j]? = e0[j]?
  | [], e, hl, h => by rcases h with h | h; exact absurd h (by simp); exact h
  | v :: vs, e, hl, h => by
    rw [restV]
    by_cases hv : v < e0.length
    · rw [List.getElem?_eq_getElem hv]
      simp only []
      refine restV_in (by rw [List.length_set]; exact hl) ?_
      by_cases hj : v = j
      · subst hj; exact .inr (by rw [List.getElem?_set_self (by omega), List.getElem?_eq_getElem hv])
      · rcases h with h | h
        · rcases List.mem_cons.mp h with e | h
          · exact absurd e.symm hj
          · exact .inl h
        · exact .inr (by rw [List.getElem?_set_ne hj]; exact h)
    · rw [show e0[v]? = none from List.getElem?_eq_none (by omega)]
      simp only []
      refine restV_in hl ?_
      rcases h with h | h
      · rcases List.mem_cons.mp h with e | h
        · subst e; exact .inr (by rw [List.getElem?_eq_none (by omega), List.getElem?_eq_none (by omega)])
        · exact .inl h
      · exact .inr h
/-- names hidden; outside them the places agree with other ones -/
theorem hide (ok : Ok W A) {own : List Nat} {E0 : Env} (hl : E0.length = A.env.length) (h : ∀ j, j ∉ own → A.env[j]? = E0[j]?) :
    Ok W { A with env := wipeE E0 own, ve := wipeV A.ve own } ∧ Stp W A { A with env := wipeE E0 own, ve := wipeV A.ve own } := by
  have gs : ∀ {j : Nat} {x : Bool × U}, (wipeV A.ve own)[j]? = some (some x) → A.ve[j]? = some (some x) ∧ (wipeE E0 own)[j]? = A.env[j]? := by
    intro j x hx
    obtain ⟨a, b⟩ := wipeV_get hx
    exact ⟨b, by rw [wipeE_out a, h j a]⟩
  have ow2 : ∀ {j : Nat}, OwnR (wipeE E0 own) (wipeV A.ve own) j → OwnR A.env A.ve j := by
    rintro j ⟨k, w, h1, h2⟩
    obtain ⟨a, b⟩ := gs h1
    exact ⟨k, w, a, by rw [← b]; exact h2⟩
  refine ⟨⟨by rw [wipeV_len, wipeE_length, hl]; exact ok.len, fun j w hx => ?_, fun j w hx => ?_, fun j hx => ok.oz j (ow2 hx), fun j j' w w' p hx hx' g g' => ?_, ok.zl, ok.bag, ok.bl⟩, ⟨rfl, Nat.le_refl _, fun _ _ _ _ => rfl, fun _ h => h, fun _ h => .inl h, fun j z => .inl (ow2 z)⟩⟩
  · obtain ⟨a, b⟩ := gs hx
    obtain ⟨d, h1, h2⟩ := ok.fr j w a
    exact ⟨d, by show (wipeE E0 own)[j]? = _; rw [b]; exact h1, h2⟩
  · obtain ⟨a, b⟩ := gs hx
    obtain ⟨q, ob, h1, h2, h3⟩ := ok.ow j w a
    exact ⟨q, ob, by show (wipeE E0 own)[j]? = _; rw [b]; exact h1, h2, h3⟩
  · obtain ⟨a, b⟩ := gs hx
    obtain ⟨a', b'⟩ := gs hx'
    rw [show (wipeE E0 own)[j]? = A.env[j]? from b] at g
    rw [show (wipeE E0 own)[j']? = A.env[j']? from b'] at g'
    exact ok.od j j' w w' p a a' g g'
/-- names shown again -/
theorem unhide {own : List Nat} {ve : VEnv} {Z : Nat → Prop} {st : Sto} {s : σ} (ok : Ok W A) (hl : ve.length = A.ve.length) (ok2 : Ok W ⟨A.base, Z, st, wipeE A.env own, wipeV ve own, s⟩) (sp : Stp W { A with env := wipeE A.env own, ve := wipeV A.ve own } ⟨A.base, Z, st, wipeE A.env own, wipeV ve own, s⟩) :
    Ok W ⟨A.base, Z, st, A.env, restV A.ve own ve, s⟩ ∧ Stp W A ⟨A.base, Z, st, A.env, restV A.ve own ve, s⟩ := by
  obtain ⟨okh, sph⟩ := hide ok (own := own) (E0 := A.env) rfl fun _ _ => rfl
  have full := sph.trans sp
  have gs : ∀ {j : Nat} {x : Bool × U}, (restV A.ve own ve)[j]? = some (some x) → (j ∈ own ∧ A.ve[j]? = some (some x)) ∨ (j ∉ own ∧ (wipeV ve own)[j]? = some (some x) ∧ (wipeE A.env own)[j]? = A.env[j]?) := by
    intro j x hx
    by_cases hj : j ∈ own
    · rw [restV_in hl (.inl hj)] at hx; exact .inl ⟨hj, hx⟩
    · rw [restV_out hj] at hx; exact .inr ⟨hj, by rw [wipeV_out hj]; exact hx, wipeE_out hj⟩
  have hid : ∀ {j q : Nat} {w : U}, j ∈ own → A.ve[j]? = some (some (true, w)) → A.env[j]? = some (some (.ref q)) → q < A.st.length ∧ q ∉ W.ft ∧ ¬ OwnR (wipeE A.env own) (wipeV A.ve own) q ∧ ¬ OwnR (wipeE A.env own) (wipeV ve own) q ∧ ¬ Z q ∧ st[q]? = A.st[q]? := by
    intro j q w hj h1 h2
    have o : OwnR A.env A.ve q := ⟨j, w, h1, h2⟩
    have hlt := ok.own_lt o
    obtain ⟨z1, z2, _⟩ := ok.oz q o
    have n1 : ¬ OwnR (wipeE A.env own) (wipeV A.ve own) q := by
      rintro ⟨k, w', h3, h4⟩
      obtain ⟨a, b⟩ := wipeV_get h3
      rw [wipeE_out a] at h4
      have := ok.od k j w' w q b h1 h4 h2
      subst this; exact a hj
    refine ⟨hlt, z2, n1, fun o2 => ?_, fun z => ?_, sp.frm q hlt z2 n1⟩
    · rcases sp.own q o2 with z | z
      · exact n1 z
      · exact absurd hlt (by show ¬ q < A.st.length; have : A.st.length ≤ q := z; omega)
    · rcases sp.zout q z with z | z | z
      · exact z1 z
      · exact n1 z
      · have : A.st.length ≤ q := z; omega
  have zk : ∀ j, A.Z j → Z j ∧ st[j]? = A.st[j]? := full.zkeep ok
  have ow2 : ∀ {q : Nat}, OwnR A.env (restV A.ve own ve) q → (∃ j w, j ∈ own ∧ A.ve[j]? = some (some (true, w)) ∧ A.env[j]? = some (some (.ref q))) ∨ OwnR (wipeE A.env own) (wipeV ve own) q := by
    rintro q ⟨j, w, h1, h2⟩
    rcases gs h1 with ⟨a, b⟩ | ⟨a, b, c⟩
    · exact .inl ⟨j, w, a, b, h2⟩
    · exact .inr ⟨j, w, b, by rw [c]; exact h2⟩
  refine ⟨⟨by rw [restV_len, hl]; exact ok.len, fun j w hx => ?_, fun j w hx => ?_, fun q hx => ?_, fun j j' w w' q hx hx' g g' => ?_, ok2.zl, ok2.bag, ok2.bl⟩, ⟨rfl, full.len, full.frm, full.zin, full.zout, fun q z => ?_⟩⟩
  · rcases gs hx with ⟨a, b⟩ | ⟨a, b, c⟩
    · obtain ⟨d, h1, h2⟩ := ok.fr j w b
      exact ⟨d, h1, Rep.mono zk _ _ h2⟩
    · obtain ⟨d, h1, h2⟩ := ok2.fr j w b
      exact ⟨d, by rw [← h1]; exact c.symm, h2⟩
  · rcases gs hx with ⟨a, b⟩ | ⟨a, b, c⟩
    · obtain ⟨q, ob, h1, h2, h3⟩ := ok.ow j w b
      exact ⟨q, ob, h1, by rw [← h2]; exact (hid a b h1).2.2.2.2.2, Bod.mono zk h3⟩
    · obtain ⟨q, ob, h1, h2, h3⟩ := ok2.ow j w b
      exact ⟨q, ob, by rw [← h1]; exact c.symm, h2, h3⟩
  · rcases ow2 hx with ⟨j, w, a, b, c⟩ | o
    · obtain ⟨_, h2, _, _, h5, _⟩ := hid a b c
      exact ⟨h5, h2, (ok.oz q ⟨j, w, b, c⟩).2.2⟩
    · exact ok2.oz q o
  · rcases gs hx with ⟨a, b⟩ | ⟨a, b, c⟩
    · rcases gs hx' with ⟨a', b'⟩ | ⟨a', b', c'⟩
      · exact ok.od j j' w w' q b b' g g'
      · exact absurd ⟨j', w', b', by rw [c']; exact g'⟩ (hid a b g).2.2.2.1
    · rcases gs hx' with ⟨a', b'⟩ | ⟨a', b', c'⟩
      · exact absurd ⟨j, w, b, by rw [c]; exact g⟩ (hid a' b' g').2.2.2.1
      · exact ok2.od j j' w w' q b b' (by rw [← g]; exact c) (by rw [← g']; exact c')
  · rcases ow2 z with ⟨j, w, a, b, c⟩ | o
    · exact .inl ⟨j, w, b, c⟩
    · exact full.own q o
end
end PL

set_option Elab.async false
set_option linter.all false
set_option maxRecDepth 100000
set_option maxHeartbeats 4000000
/-! VSF: expressions. -/
namespace PL
open PySem L2
section
variable {σ : Type} {W : Bg σ} {α β γ δ : Type} {A A' A0 H : Cf σ}
theorem VR.assoc {α β γ : Type} {r : VR σ α} {f : α → VEnv → σ → VR σ β} {g : β → VEnv → σ → VR σ γ} : (r.bind f).bind g = r.bind fun a e s => (f a e s).bind g := by cases r <;> rfl
theorem Rl.bindS {Q : α → β → Cf σ → Prop} {Q' : γ → δ → Cf σ → Prop} {v : VR σ α} {r : Res β} {f : α → VEnv → σ → VR σ γ} {g : β → Sto → Res δ} (hs : Stp W A H) (h : Rl W H Q v r) (k : ∀ a b A', Ok W A' → Stp W H A' → Q a b A' → Rl W A Q' (f a A'.ve A'.s) (g b A'.st)) : Rl W A Q' (v.bind f) (r.bind g) := by
  cases v with
  | bad => trivial
  | ok a e s =>
    cases r with
    | ok b st =>
      obtain ⟨Z', env', h1, h2, h3⟩ := h
      exact k a b _ h1 h2 h3
    | exc _ _ _ => exact h.elim
    | bad => exact h.elim
  | exc c us s =>
    cases r with
    | ok b st => exact h.elim
    | exc _ _ _ => exact ⟨h.1, h.2.elim fun Z' q => ⟨Z', hs.xo q.1, q.2⟩⟩
    | bad => exact h.elim
theorem QE.up {v : VR σ (Bool × U)} {r : Res D} (s : Stp W A A') (he : A'.env = A.env) (h : Rl W A' (QE W A'.env A'.st.length) v r) : Rl W A' (QE W A.env A.st.length) v r :=
  h.mono fun a b A2 _ _ ⟨e, t⟩ => ⟨e.trans he, TR.le s.len t⟩
theorem QE.go {v : VR σ (Bool × U)} {r : Res D} {E : Env} {n : Nat} (he : A'.env = E) (hn : n ≤ A'.st.length) (h : Rl W A' (QE W A'.env A'.st.length) v r) : Rl W A' (QE W E n) v r :=
  h.mono fun a b A2 _ _ ⟨e, t⟩ => ⟨e.trans he, TR.le hn t⟩
section
variable {F : Nat → List U → σ → FR σ} {G : Nat → Option U} {F' : Nat → List D → Sto → Res D} {G' : Nat → Option D}
abbrev SEp (W : Bg σ) (F : Nat → List U → σ → FR σ) (G : Nat → Option U) (F' : Nat → List D → Sto → Res D) (G' : Nat → Option D) (e : E) : Prop := ∀ A : Cf σ, Ok W A → Rl W A (QE W A.env A.st.length) (vE F G e A.ve A.s) (ev F' G' e A.env A.st)
abbrev STp (W : Bg σ) (F : Nat → List U → σ → FR σ) (G : Nat → Option U) (F' : Nat → List D → Sto → Res D) (G' : Nat → Option D) (e : T) : Prop := ∀ A : Cf σ, Ok W A → Rl W A (fun b b' A' => b' = b ∧ A'.env = A.env) (vT F G e A.ve A.s) (evT F' G' e A.env A.st)
abbrev SEsp (W : Bg σ) (F : Nat → List U → σ → FR σ) (G : Nat → Option U) (F' : Nat → List D → Sto → Res D) (G' : Nat → Option D) (es : Es) : Prop := ∀ A : Cf σ, Ok W A → Rl W A (QEs W A.env A.st.length) (vEs F G es A.ve A.s) (evs F' G' es A.env A.st)
def BRs (W : Bg σ) (A : Cf σ) (n : Nat) : List BV → List D → Prop
  | [], ds => ds = []
  | b :: bs, ds => ∃ d ds', ds = d :: ds' ∧ BRl W A n b d ∧ BRs W A n bs ds'
abbrev SBsp (W : Bg σ) (F : Nat → List U → σ → FR σ) (G : Nat → Option U) (F' : Nat → List D → Sto → Res D) (G' : Nat → Option D) (es : Es) : Prop := ∀ A : Cf σ, Ok W A → Rl W A (fun bs ds A' => A'.env = A.env ∧ BRs W A' A.st.length bs ds) (vBs F G es A.ve A.s) (evs F' G' es A.env A.st)
theorem BRl.le {n m : Nat} (hnm : m ≤ n) {b : BV} {d : D} (h : BRl W A n b d) : BRl W A m b d := by
  cases b with
  | val o u => exact TR.le hnm h
  | var i => exact h
theorem BRs.le {n m : Nat} (hnm : m ≤ n) : ∀ {bs : List BV} {ds : List D}, BRs W A n bs ds → BRs W A m bs ds
  | [], _, h => h
  | b :: bs, _, h => by obtain ⟨d, ds', rfl, h1, h2⟩ := h; exact ⟨d, ds', rfl, h1.le hnm, h2.le hnm⟩
theorem BRs.mono {n : Nat} (ok : Ok W A) (s : Stp W A A') (he : A'.env = A.env) : ∀ {bs : List BV} {ds : List D}, BRs W A n bs ds → BRs W A' n bs ds
  | [], _, h => h
  | b :: bs, _, h => by obtain ⟨d, ds', rfl, h1, h2⟩ := h; exact ⟨d, ds', rfl, h1.mono ok s he, BRs.mono ok s he h2⟩
theorem BRs.append {n : Nat} : ∀ {bs cs : List BV} {ds es : List D}, BRs W A n bs ds → BRs W A n cs es → BRs W A n (bs ++ cs) (ds ++ es)
  | [], _, _, _, h, g => by have h : _ = [] := h; subst h; exact g
  | b :: bs, _, _, _, h, g => by obtain ⟨d, ds', rfl, h1, h2⟩ := h; exact ⟨d, _, rfl, h1, h2.append g⟩
theorem BRs.get {n : Nat} (ok : Ok W A) : ∀ {bs : List BV} {ds : List D} {us : List U}, BRs W A n bs ds → getAll A.ve bs = some us → RBs W A.Z A.st us ds
  | [], _, us, h, g => by cases g; exact h
  | b :: bs, _, us, h, g => by
    obtain ⟨d, ds', rfl, h1, h2⟩ := h
    rw [getAll] at g
    split at g
    · rename_i u us' e1 e2
      cases g
      exact ⟨d, ds', rfl, h1.get ok e1, BRs.get ok h2 e2⟩
    · cases g
/-! ### what is handed in -/
mutual
theorem flat_rep {Z Z' : Nat → Prop} {st st' : Sto} : ∀ (u : U) (d : D), flat u = true → Rep W Z st u d → Rep W Z' st' u d
  | .non, _, _, h => h
  | .bl _, _, _, h => h
  | .int _, _, _, h => h
  | .str _, _, _, h => h
  | .rep _, _, _, h => h
  | .bag, _, f, _ => by cases f
  | .ent _, _, _, h => h
  | .lst _, _, f, _ => by cases f
  | .dct _ _, _, f, _ => by cases f
  | .tup us, d, f, h => by rw [Rep] at h ⊢; obtain ⟨ds, rfl, h⟩ := h; rw [flat] at f; exact ⟨ds, rfl, flats_rep us ds f h⟩
theorem flats_rep {Z Z' : Nat → Prop} {st st' : Sto} : ∀ (us : List U) (ds : List D), flats us = true → Reps W Z st us ds → Reps W Z' st' us ds
  | [], _, _, h => h
  | u :: us, _, f, h => by
    rw [Reps] at h ⊢
    obtain ⟨d, ds, rfl, a, b⟩ := h
    rw [flats, Bool.and_eq_true] at f
    exact ⟨d, ds, rfl, flat_rep u d f.1 a, flats_rep us ds f.2 b⟩
end
theorem slotU_set {e : VEnv} {i j : Nat} {u : U} {o o' : Bool} (h : e[i]? = some (some (o, u))) : slotU (e.set i (some (o', u))) j = slotU e j := by
  have hi : i < e.length := (List.getElem?_eq_some_iff.mp h).1
  unfold slotU
  by_cases hj : i = j
  · subst hj; rw [List.getElem?_set_self hi, h]
  · rw [List.getElem?_set_ne hj]
theorem getAll_set {e : VEnv} {i : Nat} {u : U} {o o' : Bool} (h : e[i]? = some (some (o, u))) : ∀ bs : List BV, getAll (e.set i (some (o', u))) bs = getAll e bs
  | [] => rfl
  | b :: bs => by
    rw [getAll, getAll, getAll_set h bs]
    cases b with
    | val _ _ => rfl
    | var j =>
      have e2 : (BV.var j).get (e.set i (some (o', u))) = (BV.var j).get e := slotU_set h
      rw [e2]
/-- what is handed in, as it can be fixed -/
def BX (W : Bg σ) (A : Cf σ) (n : Nat) : List BV → List D → Prop
  | [], ds => ds = []
  | .var i :: bs, ds => ∃ d ds', ds = d :: ds' ∧ A.env[i]? = some (some d) ∧ BX W A n bs ds'
  | .val o u :: bs, ds => ∃ d ds', ds = d :: ds' ∧ (match o with
    | true => ∃ q ob, d = .ref q ∧ A.st[q]? = some ob ∧ Bod W A.Z A.st u ob ∧ q ∉ W.ft ∧ ¬ OwnR A.env A.ve q ∧ n ≤ q
    | false => Rep W A.Z A.st u d) ∧ BX W A n bs ds'
theorem BRs.bx {n : Nat} : ∀ {bs : List BV} {ds : List D}, BRs W A n bs ds → BX W A n bs ds
  | [], _, h => h
  | .var i :: bs, _, h => by obtain ⟨d, ds', rfl, h1, h2⟩ := h; exact ⟨d, ds', rfl, h1, h2.bx⟩
  | .val o u :: bs, _, h => by
    obtain ⟨d, ds', rfl, h1, h2⟩ := h
    refine ⟨d, ds', rfl, ?_, h2.bx⟩
    cases o with
    | false => exact h1
    | true => obtain ⟨q, ob, a, b, c, _, e, f, g⟩ := h1; exact ⟨q, ob, a, b, c, e, f, g⟩
theorem BX.mono {n : Nat} {Z' : Nat → Prop} {ve' : VEnv} (hz : ∀ j, A.Z j → Z' j) (ho : ∀ j, OwnR A.env ve' j → OwnR A.env A.ve j) : ∀ {bs : List BV} {ds : List D}, BX W A n bs ds → BX W { A with Z := Z', ve := ve' } n bs ds
  | [], _, h => h
  | .var i :: bs, _, h => by obtain ⟨d, ds', rfl, h1, h2⟩ := h; exact ⟨d, ds', rfl, h1, h2.mono hz ho⟩
  | .val o u :: bs, _, h => by
    have zk : ∀ j, A.Z j → Z' j ∧ A.st[j]? = A.st[j]? := fun j z => ⟨hz j z, rfl⟩
    obtain ⟨d, ds', rfl, h1, h2⟩ := h
    refine ⟨d, ds', rfl, ?_, h2.mono hz ho⟩
    cases o with
    | false => exact Rep.mono zk _ _ h1
    | true => obtain ⟨q, ob, a, b, c, e, f, g⟩ := h1; exact ⟨q, ob, a, b, Bod.mono zk c, e, fun z => f (ho q z), g⟩
theorem frzBs {n : Nat} : ∀ {bs : List BV} {A : Cf σ} {ds : List D} {us : List U}, Ok W A → Stp W A0 A → A0.st.length ≤ n → BX W A n bs ds → getAll A.ve bs = some us →
    ∃ Z', Ok W { A with Z := Z', ve := frzB A.ve bs } ∧ Stp W A0 { A with Z := Z', ve := frzB A.ve bs } ∧ (∀ j, A.Z j → Z' j) ∧ Reps W Z' A.st us ds
  | [], A, ds, us, ok, s, hn, h, g => by cases g; exact ⟨A.Z, ok, s, fun _ h => h, h⟩
  | .val o u :: bs, A, ds, us, ok, s, hn, h, g => by
    obtain ⟨d, ds', rfl, h1, h2⟩ := h
    rw [getAll] at g
    have e0 : (BV.val o u).get A.ve = some u := rfl
    rw [e0] at g
    cases e2 : getAll A.ve bs with
    | none => rw [e2] at g; cases g
    | some us' =>
      rw [e2] at g
      cases g
      cases o with
      | false =>
        obtain ⟨Z', o', s', z', r'⟩ := frzBs ok s hn h2 e2
        exact ⟨Z', o', s', z', .cons (Rep.mono (fun j z => ⟨z' j z, rfl⟩) _ _ h1) r'⟩
      | true =>
        obtain ⟨q, ob, rfl, a, b, c, e, f⟩ := h1
        have zk : ∀ j, A.Z j → (A.Z j ∨ j = q) ∧ A.st[j]? = A.st[j]? := fun j z => ⟨.inl z, rfl⟩
        have hb : Rep W (fun j => A.Z j ∨ j = q) A.st u (.ref q) := Bod.rep a (.inr rfl) (Bod.mono zk b)
        obtain ⟨Z', o', s', z', r'⟩ := frzBs (A := { A with Z := fun j => A.Z j ∨ j = q }) (ok.frz (lt_of_get a) c e) (s.frz (Nat.le_trans hn f)) hn (h2.mono (fun _ h => .inl h) fun _ h => h) e2
        exact ⟨Z', o', s', fun j z => z' j (.inl z), .cons (Rep.mono (fun j z => ⟨z' j z, rfl⟩) _ _ hb) r'⟩
  | .var i :: bs, A, ds, us, ok, s, hn, h, g => by
    obtain ⟨d, ds', rfl, h1, h2⟩ := h
    rw [getAll] at g
    have e0 : (BV.var i).get A.ve = slotU A.ve i := rfl
    rw [e0] at g
    cases e1 : A.ve[i]? with
    | none => simp [slotU, e1] at g
    | some x =>
      cases x with
      | none => simp [slotU, e1] at g
      | some x =>
        obtain ⟨o, u⟩ := x
        have e3 : slotU A.ve i = some u := by simp [slotU, e1]
        rw [e3] at g
        cases e2 : getAll A.ve bs with
        | none => rw [e2] at g; cases g
        | some us' =>
          rw [e2] at g
          cases g
          obtain ⟨Z1, d', k1, k2, k3, k4⟩ := frzV ok e1
          rw [h1] at k1; cases k1
          have zi : ∀ j, A.Z j → Z1 j := k3.zin
          have ow : ∀ j, OwnR A.env (A.ve.set i (some (false, u))) j → OwnR A.env A.ve j := fun j z => (k3.own j z).elim id fun z2 => by
            have := k2.own_lt z
            have z2 : A.st.length ≤ j := z2
            have : j < A.st.length := this
            omega
          obtain ⟨Z', o', s', z', r'⟩ := frzBs (A := { A with Z := Z1, ve := A.ve.set i (some (false, u)) }) k2 (s.trans k3) hn (h2.mono zi ow) (by show getAll (A.ve.set i _) bs = _; rw [getAll_set e1]; exact e2)
          have ef : frzB A.ve (.var i :: bs) = frzB (A.ve.set i (some (false, u))) bs := by rw [frzB, e1]
          rw [ef]
          exact ⟨Z', o', s', fun j z => z' j (zi j z), .cons (Rep.mono (fun j z => ⟨z' j z, rfl⟩) _ _ k4) r'⟩
theorem call_end {n : Nat} {bs : List BV} {ds : List D} {us : List U} (ok : Ok W A) (s : Stp W A0 A) (hn : A0.st.length ≤ n) (hb : BRs W A n bs ds) (g : getAll A.ve bs = some us) {v : FR σ} {r : Res D}
    (hc : ∀ Z, Reps W Z A.st us ds → (∀ j, Z j → j < A.st.length ∧ j ∉ W.ft) → RF W Z A.st v r) : Rl W A0 (QE W A.env A0.st.length) (ofF v A.ve bs) r := by
  obtain ⟨Z', o', s', z', r'⟩ := frzBs ok s hn hb.bx g
  have hf := hc Z' r' o'.zl
  have frozen : Rl W A0 (QE W A.env A0.st.length) (okE v (frzB A.ve bs)) r := by
    have h := call_rl (A := { A with Z := Z', ve := frzB A.ve bs }) o' hf
    refine Rl.from s' ?_
    cases v with
    | bad => trivial
    | exc c us s => exact h.mono fun _ _ _ _ _ q => ⟨q.1, TR.le s'.len q.2⟩
    | ok o u s2 => exact h.mono fun _ _ _ _ _ q => ⟨q.1, TR.le s'.len q.2⟩
  have kept : (∀ o u s2, v = .ok o u s2 → flatR o u = true ∨ ownIn A.ve bs = false) → Rl W A0 (QE W A.env A0.st.length) (okE v A.ve) r := by
    intro hx
    cases v with
    | bad => trivial
    | exc c us s => exact frozen
    | ok o u s2 =>
      cases r with
      | exc _ _ _ => exact hf.elim
      | bad => exact hf.elim
      | ok d st' =>
        by_cases how : ownIn A.ve bs = false
        · have ef : ∀ (bs : List BV), ownIn A.ve bs = false → frzB A.ve bs = A.ve := by
            intro bs
            induction bs with
            | nil => intro _; rfl
            | cons b bs ih =>
              intro h
              cases b with
              | val _ _ => exact ih h
              | var i =>
                rw [ownIn] at h
                rw [frzB]
                split
                · rename_i o' u' e1
                  have ho : o' = false := by
                    cases o' with
                    | false => rfl
                    | true => rw [e1] at h; cases h
                  subst ho
                  have e : A.ve.set i (some (false, u')) = A.ve := by
                    apply List.ext_getElem?
                    intro j
                    have hi : i < A.ve.length := (List.getElem?_eq_some_iff.mp e1).1
                    by_cases hj : i = j
                    · subst hj; rw [List.getElem?_set_self hi, e1]
                    · rw [List.getElem?_set_ne hj]
                  rw [e]
                  rw [e1] at h
                  exact ih h
                · rename_i h1
                  apply ih
                  split at h
                  · cases h
                  · exact h
          have := frozen
          rw [ef bs how] at this
          exact this
        · have hfl : flatR o u = true := (hx o u s2 rfl).resolve_right how
          obtain ⟨Z2, f, t⟩ := hf
          have pk : ∀ j, j < A.st.length → j ∉ W.ft → st'[j]? = A.st[j]? := f.frm
          have zk : ∀ j, A.Z j → A.Z j ∧ st'[j]? = A.st[j]? := fun j z => ⟨z, pk j (ok.zl j z).1 (ok.zl j z).2⟩
          have o3 : Ok W ⟨A.base, A.Z, st', A.env, A.ve, s2⟩ := by
            refine ⟨ok.len, fun i u h => ?_, fun i u h => ?_, ok.oz, ok.od, fun j z => ⟨Nat.lt_of_lt_of_le (ok.zl j z).1 f.len, (ok.zl j z).2⟩, f.bag, Nat.le_trans ok.bl f.len⟩
            · obtain ⟨d, a, b⟩ := ok.fr i u h
              exact ⟨d, a, Rep.mono zk _ _ b⟩
            · obtain ⟨q, ob, a, b, c⟩ := ok.ow i u h
              have w : OwnR A.env A.ve q := ⟨i, u, h, a⟩
              exact ⟨q, ob, a, by show st'[q]? = _; rw [pk q (lt_of_get b) (ok.oz q w).2.1]; exact b, Bod.mono zk c⟩
          have s3 : Stp W A ⟨A.base, A.Z, st', A.env, A.ve, s2⟩ := ⟨rfl, f.len, fun j a b _ => pk j a b, fun _ h => h, fun _ h => .inl h, fun _ h => .inl h⟩
          refine Rl.at_ (A' := ⟨A.base, A.Z, st', A.env, A.ve, s2⟩) o3 (s.trans s3) ⟨rfl, ?_⟩
          cases o with
          | false => exact flat_rep u d (by cases u <;> first | exact hfl | cases hfl) t
          | true =>
            obtain ⟨q, ob, e, a, b, c, d', h⟩ := t
            refine ⟨q, ob, e, a, ?_, fun z => ?_, d', fun w => ?_, Nat.le_trans s.len h⟩
            · cases u <;> first | exact b.elim | skip
              · obtain ⟨es, e1, e2⟩ := b; exact ⟨es, e1, flats_rep _ _ hfl e2⟩
              · obtain ⟨es, e1, l, e2⟩ := b; exact ⟨es, e1, l, flats_rep _ _ hfl e2⟩
            · have := (ok.zl q z).1; omega
            · have := ok.own_lt w; omega
  unfold ofF
  cases v with
  | bad => trivial
  | exc c us s => exact frozen
  | ok o u s2 =>
    simp only []
    unfold endC
    by_cases h1 : ownIn A.ve bs = true
    · rw [if_pos h1]
      by_cases h2 : flatR o u = true
      · rw [if_pos h2]; exact kept fun o u s2 e => by cases e; exact .inl h2
      · rw [if_neg h2]; exact frozen
    · rw [if_neg h1]; exact kept fun o u s2 e => .inr (by simpa using h1)
theorem borrow_rl {e : E} (h : SEp W F G F' G' e) (ok : Ok W A) : Rl W A (fun b d A' => A'.env = A.env ∧ BRl W A' A.st.length b d) (borrow e (vE F G e) A.ve A.s) (ev F' G' e A.env A.st) := by
  unfold borrow
  split
  · rename_i i
    split
    · rename_i x e1
      obtain ⟨d, hd⟩ := ok.slot e1
      rw [ev_var hd]
      exact Rl.here ok ⟨rfl, hd⟩
    · trivial
  · have e2 : ev F' G' e A.env A.st = (ev F' G' e A.env A.st).bind fun d st => .ok d st := by cases ev F' G' e A.env A.st <;> rfl
    rw [e2]
    exact (h A ok).bind fun a b A' ok' s ⟨he, t⟩ => Rl.here ok' ⟨he, t⟩
theorem two_rl {a b : E} (ha : SEp W F G F' G' a) (hb : SEp W F G F' G' b) (ok : Ok W A) {Q : α → β → Cf σ → Prop} {f : U → U → VEnv → σ → VR σ α} {g : D → D → Sto → Res β}
    (k : ∀ A' u v d e, Ok W A' → Stp W A A' → A'.env = A.env → RB W A'.Z A'.st u d → RB W A'.Z A'.st v e → Rl W A' Q (f u v A'.ve A'.s) (g d e A'.st)) :
    Rl W A Q ((borrow a (vE F G a) A.ve A.s).bind fun x e1 s1 => (borrow b (vE F G b) e1 s1).bind fun y e2 s2 => match x.get e2, y.get e2 with
      | some u, some v => f u v e2 s2
      | _, _ => .bad) ((ev F' G' a A.env A.st).bind fun x st1 => (ev F' G' b A.env st1).bind fun y st2 => g x y st2) := by
  refine (borrow_rl ha ok).bind fun x d A1 o1 s1 ⟨e1, r1⟩ => ?_
  rw [← e1]
  refine (borrow_rl hb o1).bind fun y e A2 o2 s2 ⟨e2, r2⟩ => ?_
  split
  · rename_i u v g1 g2
    exact k A2 u v d e o2 (s1.trans s2) (e2.trans e1) ((r1.mono o1 s2 e2).get o2 g1) (r2.get o2 g2)
  · trivial
theorem one_rl {a : E} (ha : SEp W F G F' G' a) (ok : Ok W A) {Q : α → β → Cf σ → Prop} {f : U → VEnv → σ → VR σ α} {g : D → Sto → Res β}
    (k : ∀ A' u d, Ok W A' → Stp W A A' → A'.env = A.env → RB W A'.Z A'.st u d → Rl W A' Q (f u A'.ve A'.s) (g d A'.st)) :
    Rl W A Q ((borrow a (vE F G a) A.ve A.s).bind fun x e1 s1 => match x.get e1 with
      | some u => f u e1 s1
      | none => .bad) ((ev F' G' a A.env A.st).bind g) := by
  refine (borrow_rl ha ok).bind fun x d A1 o1 s1 ⟨e1, r1⟩ => ?_
  split
  · rename_i u g1
    exact k A1 u d o1 s1 e1 (r1.get o1 g1)
  · trivial
theorem opUp (s : Stp W A A') (he : A'.env = A.env) {o : Option (Bool × U)} {r : Res D} (ok : Ok W A') (h : ∀ w, o = some w → ∃ x st', r = .ok x st' ∧ OpR W A'.Z A'.st w.1 w.2 x st') : Rl W A' (QE W A.env A.st.length) (vlift o A'.ve A'.s) r := QE.up s he (Rl.op ok h)
theorem reps_getD {Z : Nat → Prop} {st : Sto} {us : List U} {ds : List D} (r : Reps W Z st us ds) (j : Nat) : Rep W Z st (us.getD j .non) (ds.getD j .non) := by
  rw [List.getD_eq_getElem?_getD, List.getD_eq_getElem?_getD]
  rcases r.get (i := j) with ⟨a, b⟩ | ⟨u, d, a, b, c⟩
  · rw [a, b]; rfl
  · rw [a, b]; exact c
theorem reps_perm {Z : Nat → Prop} {st : Sto} {us : List U} {ds : List D} (r : Reps W Z st us ds) : ∀ g : List Nat, Reps W Z st (g.map fun j => us.getD j .non) (g.map fun j => ds.getD j .non)
  | [] => .nil
  | j :: g => .cons (reps_getD r j) (reps_perm r g)
/-- a comprehension -/
theorem lc_rl {A : Cf σ} (ok : Ok W A) {own : List Nat} {items : List U} {src : Src} (hit : ItR W A.Z A.st items src) {fv : U → VEnv → σ → VR σ (Option U)} {fd : D → Sto → Res (Option D)}
    (hstep : ∀ (Z : Nat → Prop) (st : Sto) (e2 : VEnv) (s : σ) (u : U) (d : D), Ok W ⟨A.base, Z, st, wipeE A.env own, wipeV e2 own, s⟩ → Rep W Z st u d →
      Rl W ⟨A.base, Z, st, wipeE A.env own, wipeV e2 own, s⟩ (fun o o' A' => A'.env.length = A.env.length ∧ (∀ j, j ∉ own → A'.env[j]? = A.env[j]?) ∧ match o, o' with | none, none => True | some y, some y' => Rep W A'.Z A'.st y y' | _, _ => False) (fv u e2 s) (fd d st)) :
    ∀ (rest pre acc : List U) (accD : List D) (Z : Nat → Prop) (st : Sto) (e2 : VEnv) (s : σ), items = pre ++ rest → Ok W ⟨A.base, Z, st, wipeE A.env own, wipeV e2 own, s⟩ → Stp W { A with env := wipeE A.env own, ve := wipeV A.ve own } ⟨A.base, Z, st, wipeE A.env own, wipeV e2 own, s⟩ →
      e2.length = A.ve.length → Reps W Z st acc accD →
      Rl W A (QE W A.env A.st.length) ((vlcL fv rest acc e2 s).bind fun acc e6 s6 => .ok (true, .lst acc) (restV A.ve own e6) s6) (lcLoop src fd (rest.length + 1) pre.length accD st)
  | [], pre, acc, accD, Z, st, e2, s, hp, okh, sp, hl, r => by
    obtain ⟨_, sph⟩ := hide ok (own := own) (E0 := A.env) rfl fun _ _ => rfl
    have zk := (sph.trans sp).zkeep ok
    rw [List.append_nil] at hp; subst hp
    rw [vlcL, lcLoop]
    rcases hit.2 Z st zk _ (Nat.le_refl _) with ⟨_, hb⟩ | ⟨u, d, ha, _⟩
    · rw [hb]
      obtain ⟨o2, s2⟩ := unhide ok hl okh sp
      refine Rl.from s2 (QE.up s2 rfl ?_)
      exact Rl.op (A := ⟨A.base, Z, st, A.env, restV A.ve own e2, s⟩) (o := some (true, .lst acc)) o2 fun w hw => by cases hw; exact ⟨_, _, rfl, opR_lst r⟩
    · rw [List.getElem?_eq_none (Nat.le_refl _)] at ha; cases ha
  | x :: rest, pre, acc, accD, Z, st, e2, s, hp, okh, sp, hl, r => by
    obtain ⟨_, sph⟩ := hide ok (own := own) (E0 := A.env) rfl fun _ _ => rfl
    have zk := (sph.trans sp).zkeep ok
    rw [vlcL, lcLoop, VR.assoc]
    have hi : pre.length ≤ items.length := by rw [hp]; simp
    rcases hit.2 Z st zk _ hi with ⟨ha, _⟩ | ⟨u, d, ha, hb, hr⟩
    · rw [hp, List.getElem?_append_right (Nat.le_refl _)] at ha; simp at ha
    · rw [hb]
      rw [hp, List.getElem?_append_right (Nat.le_refl _)] at ha
      have hu : x = u := by simpa using ha
      subst hu
      refine Rl.bindS (sph.trans sp) (hstep Z st e2 s x d okh hr) fun o o' A' ok' sp' ⟨h1, h2, h3⟩ => ?_
      have hb' : A'.base = A.base := sp'.bs
      obtain ⟨ok3, sp3⟩ := hide ok' (own := own) (E0 := A.env) h1.symm h2
      have sp4 := (sp.trans sp').trans sp3
      have hl' : A'.ve.length = A.ve.length := by rw [ok'.len, h1, ok.len]
      have ok4 : Ok W ⟨A.base, A'.Z, A'.st, wipeE A.env own, wipeV A'.ve own, A'.s⟩ := by rw [← hb']; exact ok3
      have sp5 : Stp W { A with env := wipeE A.env own, ve := wipeV A.ve own } ⟨A.base, A'.Z, A'.st, wipeE A.env own, wipeV A'.ve own, A'.s⟩ := by rw [← hb']; rw [hb'] at sp4 ⊢; exact ⟨rfl, sp4.len, sp4.frm, sp4.zin, sp4.zout, sp4.own⟩
      have r' : Reps W A'.Z A'.st acc accD := sp'.reps okh r
      have hpl : (pre ++ [x]).length = pre.length + 1 := by simp
      cases o with
      | none =>
        cases o' with
        | some _ => exact h3.elim
        | none =>
          have := lc_rl ok hit hstep rest (pre ++ [x]) acc accD A'.Z A'.st A'.ve A'.s (by rw [hp]; simp) ok4 sp5 hl' r'
          rw [hpl] at this
          exact this
      | some y =>
        cases o' with
        | none => exact h3.elim
        | some y' =>
          simp only []
          by_cases hc : acc.length < sizeLine
          · rw [if_pos hc, if_pos (by rw [r.length]; exact hc)]
            have := lc_rl ok hit hstep rest (pre ++ [x]) (acc ++ [y]) (accD ++ [y']) A'.Z A'.st A'.ve A'.s (by rw [hp]; simp) ok4 sp5 hl' (r'.append (.cons h3 .nil))
            rw [hpl] at this
            exact this
          · rw [if_neg hc]; trivial
end
end
end PL

set_option Elab.async false
set_option linter.all false
set_option maxRecDepth 100000
set_option maxHeartbeats 4000000
/-! VSG: expressions, all. -/
namespace PL
open PySem L2
section
variable {σ : Type} {W : Bg σ} {F : Nat → List U → σ → FR σ} {G : Nat → Option U} {F' : Nat → List D → Sto → Res D} {G' : Nat → Option D}
structure VHyp (W : Bg σ) (F : Nat → List U → σ → FR σ) (G : Nat → Option U) (F' : Nat → List D → Sto → Res D) (G' : Nat → Option D) : Prop where
  call : ∀ f, CallOk W (F f) (F' f)
  con : ∀ i u, G i = some u → ∃ d, G' i = some d ∧ ∀ Z st, Rep W Z st u d
def TgQ (A : Cf σ) (t : Tg) : Unit → Env → Cf σ → Prop := fun _ b A' => A'.env = b ∧ b.length = A.env.length ∧ ∀ own, tgOwn t own = true → ∀ j, j ∉ own → b[j]? = A.env[j]?
def TgsQ (A : Cf σ) (t : Tgs) : Unit → Env → Cf σ → Prop := fun _ b A' => A'.env = b ∧ b.length = A.env.length ∧ ∀ own, tgOwn.tgsOwn t own = true → ∀ j, j ∉ own → b[j]? = A.env[j]?
theorem asVar_eq {e : E} {i : Nat} (h : asVar e = some i) : e = .var i := by
  unfold asVar at h
  split at h
  · cases h; rfl
  · cases h
theorem vseq_ok {Z : Nat → Prop} {st : Sto} {u : U} {d : D} {us : List U} (h : RB W Z st u d) (e : vseq u = some us) : ∃ ds, partsOf d st = some ds ∧ Reps W Z st us ds := by
  unfold vseq at e
  split at e
  · cases e
    obtain ⟨ds, rfl, r⟩ := rb_tup h
    exact ⟨ds, rfl, r⟩
  · cases e
    obtain ⟨q, ds, rfl, g, r⟩ := rb_lst h
    exact ⟨ds, by unfold partsOf; simp only [g], r⟩
  · cases e
theorem lcL_step {Z : Nat → Prop} {st : Sto} {u : U} {d : D} (h : Rep W Z st u d) (A : Cf σ) (hA : A.Z = Z) (hs : A.st = st) : TR W A A.st.length false u d := by subst hA hs; exact h
theorem rb_flat {Z : Nat → Prop} {st : Sto} {u : U} {d : D} (hf : flat u = true) (h : RB W Z st u d) : Rep W Z st u d := by
  cases u <;> first | exact h | cases hf
set_option hygiene false in
mutual
theorem sE (hv : VHyp W F G F' G') : ∀ (e : E), SEp W F G F' G' e
  | .var i => fun A ok => by
    rw [vE]
    split
    · rename_i o u e
      obtain ⟨Z', d, h1, h2, h3, h4⟩ := frzV ok e
      rw [ev_var h1]
      exact Rl.at_ (A' := { A with Z := Z', ve := A.ve.set i (some (false, u)) }) h2 h3 ⟨rfl, h4⟩
    · trivial
  | .cI i => fun A ok => by rw [vE, ev]; exact Rl.here ok ⟨rfl, rfl⟩
  | .cB i => fun A ok => by rw [vE, ev]; exact Rl.here ok ⟨rfl, rfl⟩
  | .cS i => fun A ok => by rw [vE, ev]; exact Rl.here ok ⟨rfl, rfl⟩
  | .cN => fun A ok => by rw [vE, ev]; exact Rl.here ok ⟨rfl, rfl⟩
  | .gcon i => fun A ok => by
    rw [vE, ev]
    split
    · rename_i u e
      obtain ⟨d, h1, h2⟩ := hv.con i u e
      rw [h1]
      exact Rl.here ok ⟨rfl, h2 _ _⟩
    · trivial
  | .gkd i e => fun A ok => by
    rw [vE, ev]
    exact one_rl (sE hv e) ok fun A' u d ok' s he r => opUp s he ok' fun w hw => by
      obtain ⟨w', h1, rfl⟩ := Option.map_eq_some_iff.mp hw
      obtain ⟨x, h2, h3⟩ := gk_ok (fun u e => let ⟨d, a, b⟩ := hv.con i u e; ⟨d, a, b _ _⟩) r h1
      exact ⟨x, _, by rw [h2]; rfl, rfl, h3⟩
  | .ixl ys e => fun A ok => by
    rw [vE, ev]
    exact one_rl (sE hv e) ok fun A' u d ok' s he r => opUp s he ok' fun w hw => by
      obtain ⟨w', h1, rfl⟩ := Option.map_eq_some_iff.mp hw
      obtain ⟨x, h2, h3⟩ := ix_ok' r h1
      exact ⟨x, _, by rw [h2]; rfl, rfl, h3⟩
  | .ent ts => fun A ok => by rw [vE, ev]; exact Rl.here ok ⟨rfl, rfl⟩
  | .ixm o a => fun A ok => by
    rw [vE, ev]
    refine (borrow_rl (sE hv o) ok).bind fun x d A1 o1 s1 ⟨e1, r1⟩ => ?_
    rw [← e1]
    split
    · rename_i u g1
      have ru := r1.get o1 g1
      split
      · rename_i hrow
        rw [if_pos (row_ok ru hrow)]
        refine (borrow_rl (sE hv a) o1).bind fun y e A2 o2 s2 ⟨e2, r2⟩ => ?_
        split
        · rename_i u2 v2 g2 g3
          refine QE.go e2 (s1.trans s2).len (Rl.op o2 fun w hw => ?_)
          obtain ⟨w', h1, rfl⟩ := Option.map_eq_some_iff.mp hw
          obtain ⟨x', h2, h3⟩ := ixm_ok ((r1.mono o1 s2 e2).get o2 g2) (r2.get o2 g3) h1
          exact ⟨x', _, by rw [h2]; rfl, rfl, h3⟩
        · trivial
      · trivial
    · trivial
  | .stup fs es => fun A ok => by
    rw [vE, ev]
    refine (sSts hv fs es A ok).bind fun x d A' ok' s ⟨he, r⟩ => ?_
    rw [r.length]
    split
    · exact Rl.here ok' ⟨he, rep_tup r⟩
    · trivial
  | .bin op a b => fun A ok => by
    rw [vE, ev]
    exact two_rl (sE hv a) (sE hv b) ok fun A' u v d e ok' s he r1 r2 => opUp s he ok' fun w hw => bin_ok r1 r2 hw
  | .neg a => fun A ok => by
    rw [vE, ev]
    refine (sE hv a A ok).bind fun x d A' ok' s ⟨he, t⟩ => ?_
    split
    · rename_i i e
      have t := t.rb
      rw [e] at t
      cases rb_int t
      exact Rl.here ok' ⟨he, rfl⟩
    · trivial
  | .notE a => fun A ok => by
    rw [vE, ev]
    exact one_rl (sE hv a) ok fun A' u d ok' s he r => QE.up s he (Rl.opD ok' (fun w hw => truth_ok r hw) fun b => !b)
  | .and1 a => fun A ok => by rw [vE, ev]; exact sE hv a A ok
  | .and2 a r => fun A ok => by
    rw [vE, ev]
    refine (sE hv a A ok).bind fun x d A' ok' s ⟨he, t⟩ => ?_
    split
    · rename_i e
      rw [truth_ok t.rb e, ← he]
      exact (sE hv r A' ok').mono fun y d' A2 _ s2 ⟨e2, t2⟩ => ⟨e2, TR.le s.len t2⟩
    · rename_i e
      rw [truth_ok t.rb e]
      exact Rl.here ok' ⟨he, t⟩
    · trivial
  | .or1 a => fun A ok => by rw [vE, ev]; exact sE hv a A ok
  | .or2 a r => fun A ok => by
    rw [vE, ev]
    refine (sE hv a A ok).bind fun x d A' ok' s ⟨he, t⟩ => ?_
    split
    · rename_i e
      rw [truth_ok t.rb e]
      exact Rl.here ok' ⟨he, t⟩
    · rename_i e
      rw [truth_ok t.rb e, ← he]
      exact (sE hv r A' ok').mono fun y d' A2 _ s2 ⟨e2, t2⟩ => ⟨e2, TR.le s.len t2⟩
    · trivial
  | .cmp op a b => fun A ok => by
    rw [vE, ev]
    exact two_rl (sE hv a) (sE hv b) ok fun A' u v d e ok' s he r1 r2 => QE.up s he (Rl.opD ok' (fun w hw => cmp_ok r1 r2 hw) fun b => b)
  | .cmp2 op op' a b c => fun A ok => by
    rw [vE, ev]
    refine (borrow_rl (sE hv a) ok).bind fun x d A1 o1 s1 ⟨e1, r1⟩ => ?_
    rw [← e1]
    refine (sE hv b A1 o1).bind fun y e A2 o2 s2 ⟨e2, r2⟩ => ?_
    split
    · rename_i u g1
      have ru := (r1.mono o1 s2 e2).get o2 g1
      split
      · rename_i g2
        rw [cmp_ok ru r2.rb g2, ← e2]
        refine (borrow_rl (sE hv c) o2).bind fun z f A3 o3 s3 ⟨e3, r3⟩ => ?_
        split
        · rename_i w g3
          exact QE.go e3 ((s1.trans s2).trans s3).len (Rl.opD o3 (fun w' hw => cmp_ok (TR.mono o2 s3 r2).rb (r3.get o3 g3) hw) fun b => b)
        · trivial
      · rename_i g2
        rw [cmp_ok ru r2.rb g2]
        exact Rl.here o2 ⟨e2.trans rfl, rfl⟩
      · trivial
    · trivial
  | .ife c a b => fun A ok => by
    rw [vE, ev]
    refine (sT hv c A ok).bind fun x d A' ok' s ⟨hx, he⟩ => ?_
    subst hx
    rw [← he]
    cases d with
    | true => exact (sE hv a A' ok').mono fun y d' A2 _ s2 ⟨e2, t2⟩ => ⟨e2, TR.le s.len t2⟩
    | false => exact (sE hv b A' ok').mono fun y d' A2 _ s2 ⟨e2, t2⟩ => ⟨e2, TR.le s.len t2⟩
  | .tup es => fun A ok => by
    rw [vE, ev]
    refine ((sEs hv es A ok).frzs (Nat.le_refl _)).bind fun x d A' ok' s ⟨he, r⟩ => ?_
    have hl : d.length = x.length := by rw [r.length, List.length_map]
    rw [hl]
    split
    · exact Rl.here ok' ⟨he, rep_tup r⟩
    · trivial
  | .lst es => fun A ok => by
    rw [vE, ev]
    refine ((sEs hv es A ok).frzs (Nat.le_refl _)).bind fun x d A' ok' s ⟨he, r⟩ => ?_
    have hl : d.length = x.length := by rw [r.length, List.length_map]
    rw [hl]
    split
    · exact opUp (o := some (true, .lst (x.map (·.2)))) s he ok' fun w hw => by cases hw; exact ⟨_, _, rfl, opR_lst r⟩
    · trivial
  | .dic ks es => fun A ok => by
    rw [vE, ev]
    refine ((sEs hv es A ok).frzs (Nat.le_refl _)).bind fun x d A' ok' s ⟨he, r⟩ => ?_
    have hl : d.length = x.length := by rw [r.length, List.length_map]
    split
    · rename_i c
      rw [if_pos ⟨by rw [hl]; exact c.1, c.2.1⟩]
      refine opUp (o := some (true, .dct ks (x.map (·.2)))) s he ok' fun w hw => ?_
      cases hw
      refine ⟨_, _, rfl, _, rfl, rfl, d, ?_, by rw [List.length_map]; exact c.1, r⟩
      rw [fold_zip ks d [] (by rw [hl]; exact c.1) c.2.2 (by simp)]; rfl
    · trivial
  | .call f es => fun A ok => by
    rw [vE, ev]
    refine (sBs hv es A ok).bind' fun bs d A' ok' s ⟨he, r⟩ => ?_
    split
    · rename_i us g
      rw [← he]
      exact call_end ok' s (Nat.le_refl _) r g fun Z hr hz => hv.call f _ _ _ _ _ hr hz ok'.bag
    · trivial
  | .callK f es ks g => fun A ok => by
    rw [vE, ev]
    refine (sBs hv es A ok).bind' fun bs d A' ok' s ⟨he, r⟩ => ?_
    rw [← he]
    refine Rl.bindS s (sBs hv ks A' ok') fun cs e A2 ok2 s2 ⟨he2, r2⟩ => ?_
    split
    · rename_i us gg
      rw [← he2]
      exact call_end ok2 (s.trans s2) (Nat.le_refl _) ((r.mono ok' s2 he2).append (r2.le s.len)) gg fun Z hr hz => hv.call f _ _ _ _ _ (reps_perm hr g) hz ok2.bag
    · trivial
  | .blt b es => fun A ok => by
    rw [vE, ev]
    refine (sBs hv es A ok).bind fun x d A' ok' s ⟨he, r⟩ => ?_
    split
    · rename_i us g
      exact opUp s he ok' fun w hw => blt_ok (r.get ok' g) hw
    · trivial
  | .meth m o es => fun A ok => by
    rw [vE, ev]
    split
    · rename_i i hi
      have := asVar_eq hi
      subst this
      split
      · rename_i xs0 e0
        obtain ⟨q, ob, h1, h2, h3⟩ := ok.ow i _ e0
        obtain ⟨ds0, rfl, _⟩ := h3
        rw [ev_var h1]
        have hl : isLst (.ref q) A.st = true := X_isLst h2
        simp only [Res.bind_ok]
        rw [if_pos hl]
        refine ((sEs hv es A ok).frzs (Nat.le_refl _)).bind fun x d A' ok' s ⟨he, r⟩ => ?_
        split
        · rename_i xs e1
          obtain ⟨q', ob, h4, h5, h6⟩ := ok'.ow i _ e1
          obtain ⟨ds1, rfl, r1⟩ := h6
          rw [he, h1] at h4
          cases h4
          split
          · rename_i w ys e2
            obtain ⟨y, ds', h7, h8, h9⟩ := meth_ok h5 r1 r e2
            rw [h7]
            obtain ⟨o2, s2⟩ := mutV ok' (u' := .lst ys) (ob' := .lst ds') e1 (by rw [he]; exact h1) ⟨ds', rfl, h8⟩
            exact Rl.at_ (A' := { A' with st := A'.st.set q (.lst ds'), ve := A'.ve.set i (some (true, .lst ys)) }) o2 s2 ⟨he, s2.rep ok' h9⟩
          · trivial
        · trivial
      · trivial
    · trivial
  | .smeth m o es => fun A ok => by
    rw [vE, ev]
    refine (borrow_rl (sE hv o) ok).bind fun x d A1 o1 s1 ⟨e1, r1⟩ => ?_
    split
    · rename_i a g1
      cases rb_str (r1.get o1 g1)
      rw [← e1]
      refine (sBs hv es A1 o1).bind fun y ds A2 o2 s2 ⟨e2, r2⟩ => ?_
      split
      · rename_i us g
        rw [e1]
        exact opUp (s1.trans s2) (e2.trans e1) o2 fun w hw => sm_ok (r2.get o2 g) hw
      · trivial
    · trivial
  | .idx a b => fun A ok => by
    rw [vE, ev]
    refine two_rl (sE hv a) (sE hv b) ok fun A' u v d e ok' s he r1 r2 => opUp s he ok' fun w hw => ?_
    obtain ⟨w', h1, rfl⟩ := Option.map_eq_some_iff.mp hw
    obtain ⟨x, h2, h3⟩ := idx_ok r1 r2 h1
    exact ⟨x, _, h2, rfl, h3⟩
  | .sl a lo hi => fun A ok => by
    rw [vE, ev]
    refine (borrow_rl (sE hv a) ok).bind fun x d A1 o1 s1 ⟨e1, r1⟩ => ?_
    rw [← e1]
    refine (sE hv lo A1 o1).bind fun y e A2 o2 s2 ⟨e2, r2⟩ => ?_
    rw [← e2]
    refine (sE hv hi A2 o2).bind fun z f A3 o3 s3 ⟨e3, r3⟩ => ?_
    split
    · rename_i u g
      have hh := opUp ((s1.trans s2).trans s3) ((e3.trans e2).trans e1) o3 fun w hw => sl_ok (((r1.mono o1 s2 e2).mono o2 s3 e3).get o3 g) (TR.mono o2 s3 r2).rb r3.rb hw
      exact hh.mono fun _ _ _ _ _ h => ⟨h.1.trans (e2.trans e1).symm, h.2⟩
    · trivial
  | .rev a => fun A ok => by
    rw [vE, ev]
    exact one_rl (sE hv a) ok fun A' u d ok' s he r => opUp s he ok' fun w hw => rev_ok r hw
  | .lc own elt t k es c => fun A ok => by
    rw [vE, ev]
    refine ((sEs hv es A ok).frzs (Nat.le_refl _)).bind fun x d A' ok' s ⟨he, r⟩ => ?_
    split
    · rename_i ho
      split
      · trivial
      · rename_i items e1
        obtain ⟨src, h1, h2⟩ := src_it r e1
        rw [h1, ← he]
        refine QE.go rfl s.len ?_
        obtain ⟨okh, sph⟩ := hide ok' (own := own) (E0 := A'.env) rfl fun _ _ => rfl
        have main := lc_rl ok' (own := own) h2 (fv := fun x e2 s2 => (vA F G t (false, x) (wipeV e2 own) s2).bind fun _ e3 s3 => (vT F G c e3 s3).bind fun b e4 s4 => if b = true then (vE F G elt e4 s4).bind fun y e5 s5 => .ok (some y.2) e5 s5 else .ok none e4 s4)
          (fd := fun d st2 => (asg F' G' t d (wipeE A'.env own) st2).bind fun env1 st3 => (evT F' G' c env1 st3).bind fun b st4 => if b = true then (ev F' G' elt env1 st4).bind fun y st5 => .ok (some y) st5 else .ok none st4)
          (fun Z st e2 s u d okH ru => by
            refine (sTg hv t _ _ _ false u d okH okH Stp.refl (Nat.le_refl _) ru).bind fun _ b A1 o1 s1 ⟨h3, h4, h5⟩ => ?_
            rw [← h3]
            refine (sT hv c A1 o1).bind fun b1 b2 A2 o2 s2 ⟨h6, h7⟩ => ?_
            subst h6
            have hlen : A2.env.length = A'.env.length := by rw [h7, h3, h4]; exact wipeE_length _ _
            have hag : ∀ j, j ∉ own → A2.env[j]? = A'.env[j]? := fun j hj => by rw [h7, h3, h5 own ho j hj]; exact wipeE_out hj
            cases b2 with
            | false => exact Rl.here o2 ⟨hlen, hag, trivial⟩
            | true =>
              rw [← h7]
              refine ((sE hv elt A2 o2).frz (Nat.le_refl _)).bind fun y d' A3 o3 s3 ⟨h8, h9⟩ => ?_
              exact Rl.here o3 ⟨by rw [h8]; exact hlen, fun j hj => by rw [h8]; exact hag j hj, h9⟩)
          items [] [] [] A'.Z A'.st A'.ve A'.s rfl okh Stp.refl rfl .nil
        simp only []
        rw [h2.1]
        exact main
    · trivial
theorem sEs (hv : VHyp W F G F' G') : ∀ (es : Es), SEsp W F G F' G' es
  | .nil => fun A ok => by rw [vEs, evs]; exact Rl.here ok ⟨rfl, rfl⟩
  | .cons e es => fun A ok => by
    rw [vEs, evs]
    refine (sE hv e A ok).bind fun x d A1 o1 s1 ⟨e1, r1⟩ => ?_
    rw [← e1]
    refine (sEs hv es A1 o1).bind fun xs ds A2 o2 s2 ⟨e2, r2⟩ => ?_
    refine Rl.here o2 ⟨e2, d, ds, A1.st.length, rfl, TR.mono o1 s2 r1, ⟨s1.len, fun ho q hq => ?_⟩, r2⟩
    obtain ⟨o, u⟩ := x
    cases (show o = true from ho)
    subst hq
    obtain ⟨q', ob, e, h, _⟩ := r1
    cases e
    exact lt_of_get h
theorem sSts (hv : VHyp W F G F' G') : ∀ (fs : List Bool) (es : Es) (A : Cf σ), Ok W A → Rl W A (fun us ds A' => A'.env = A.env ∧ Reps W A'.Z A'.st us ds) (vSts F G fs es A.ve A.s) (evss F' G' fs es A.env A.st)
  | [], .nil => fun A ok => by rw [vSts, evss]; exact Rl.here ok ⟨rfl, rfl⟩
  | true :: fs, .cons e es => fun A ok => by
    rw [vSts, evss]
    refine (sE hv e A ok).bind fun x d A1 o1 s1 ⟨e1, r1⟩ => ?_
    rw [← e1]
    obtain ⟨xo, xu⟩ := x
    cases xu <;> first | trivial | skip
    rename_i xs
    obtain ⟨ds, rfl, _⟩ := rb_tup r1.rb
    refine (sSts hv fs es A1 o1).bind fun us es' A2 o2 s2 ⟨e2, r2⟩ => ?_
    obtain ⟨ds', hd, r3⟩ := rb_tup (TR.mono o1 s2 r1).rb
    cases hd
    exact Rl.here o2 ⟨e2, r3.append r2⟩
  | false :: fs, .cons e es => fun A ok => by
    rw [vSts, evss]
    refine (sE hv e A ok).bind fun x d A1 o1 s1 ⟨e1, r1⟩ => ?_
    rw [← e1]
    split
    · rename_i hf
      refine (sSts hv fs es A1 o1).bind fun us ds A2 o2 s2 ⟨e2, r2⟩ => ?_
      exact Rl.here o2 ⟨e2, .cons (flat_rep _ _ hf (rb_flat hf r1.rb)) r2⟩
    · trivial
  | [], .cons _ _ => fun A ok => by rw [vSts] <;> first | trivial | simp
  | true :: _, .nil => fun A ok => by rw [vSts] <;> first | trivial | simp
  | false :: _, .nil => fun A ok => by rw [vSts] <;> first | trivial | simp
theorem sBs (hv : VHyp W F G F' G') : ∀ (es : Es), SBsp W F G F' G' es
  | .nil => fun A ok => by rw [vBs, evs]; exact Rl.here ok ⟨rfl, rfl⟩
  | .cons e es => fun A ok => by
    rw [vBs, evs]
    refine (borrow_rl (sE hv e) ok).bind fun x d A1 o1 s1 ⟨e1, r1⟩ => ?_
    rw [← e1]
    refine (sBs hv es A1 o1).bind fun xs ds A2 o2 s2 ⟨e2, r2⟩ => ?_
    exact Rl.here o2 ⟨e2, d, ds, rfl, r1.mono o1 s2 e2, r2.le s1.len⟩
theorem sT (hv : VHyp W F G F' G') : ∀ (t : T), STp W F G F' G' t
  | .val a => fun A ok => by
    rw [vT, evT]
    exact one_rl (sE hv a) ok fun A' u d ok' s he r => (Rl.opB ok' fun w hw => truth_ok r hw).mono fun _ _ _ _ _ h => ⟨h.1, h.2.trans he⟩
  | .vc op a b => fun A ok => by
    rw [vT, evT]
    exact two_rl (sE hv a) (sE hv b) ok fun A' u v d e ok' s he r1 r2 => (Rl.opB ok' fun w hw => cmp_ok r1 r2 hw).mono fun _ _ _ _ _ h => ⟨h.1, h.2.trans he⟩
  | .vc2 op op' a b c => fun A ok => by
    rw [vT, evT]
    refine (borrow_rl (sE hv a) ok).bind fun x d A1 o1 s1 ⟨e1, r1⟩ => ?_
    rw [← e1]
    refine (sE hv b A1 o1).bind fun y e A2 o2 s2 ⟨e2, r2⟩ => ?_
    split
    · rename_i u g1
      have ru := (r1.mono o1 s2 e2).get o2 g1
      split
      · rename_i g2
        rw [cmp_ok ru r2.rb g2, ← e2]
        refine (borrow_rl (sE hv c) o2).bind fun z f A3 o3 s3 ⟨e3, r3⟩ => ?_
        split
        · rename_i w g3
          exact (Rl.opB o3 fun w' hw => cmp_ok (TR.mono o2 s3 r2).rb (r3.get o3 g3) hw).mono fun _ _ _ _ _ h => ⟨h.1, h.2.trans e3⟩
        · trivial
      · rename_i g2
        rw [cmp_ok ru r2.rb g2]
        exact Rl.here o2 ⟨rfl, e2⟩
      · trivial
    · trivial
  | .not t => fun A ok => by
    rw [vT, evT]
    exact (sT hv t A ok).bind fun b b' A' ok' s ⟨h, he⟩ => by subst h; exact Rl.here ok' ⟨rfl, he⟩
  | .and1 t => fun A ok => by rw [vT, evT]; exact sT hv t A ok
  | .or1 t => fun A ok => by rw [vT, evT]; exact sT hv t A ok
  | .and2 a r => fun A ok => by
    rw [vT, evT]
    refine (sT hv a A ok).bind fun b b' A' ok' s ⟨h, he⟩ => ?_
    subst h
    rw [← he]
    cases b' with
    | true => exact (sT hv r A' ok')
    | false => exact Rl.here ok' ⟨rfl, rfl⟩
  | .or2 a r => fun A ok => by
    rw [vT, evT]
    refine (sT hv a A ok).bind fun b b' A' ok' s ⟨h, he⟩ => ?_
    subst h
    rw [← he]
    cases b' with
    | true => exact Rl.here ok' ⟨rfl, rfl⟩
    | false => exact (sT hv r A' ok')
  | .yes => fun A ok => by rw [vT, evT]; exact Rl.here ok ⟨rfl, rfl⟩
theorem sTg (hv : VHyp W F G F' G') : ∀ (t : Tg) (A0 A : Cf σ) (n : Nat) (o : Bool) (u : U) (d : D), Ok W A0 → Ok W A → Stp W A0 A → A0.st.length ≤ n → TR W A n o u d →
    Rl W A0 (TgQ A t) (vA F G t (o, u) A.ve A.s) (asg F' G' t d A.env A.st)
  | .name i, A0, A, n, o, u, d, ok0, ok, s, hn, t => by
    rw [vA, asg]
    obtain ⟨o2, s2⟩ := setV ok0 ok s hn t i
    refine Rl.at_ (A' := { A with env := A.env.set i (some d), ve := A.ve.set i (some (o, u)) }) o2 s2 ⟨rfl, List.length_set .., fun own ho j hj => ?_⟩
    have : i ≠ j := fun e => hj (by have : own.contains i = true := ho; rw [e] at this; simpa using this)
    exact List.getElem?_set_ne this
  | .tup ts, A0, A, n, o, u, d, ok0, ok, s, hn, t => by
    rw [vA, asg]
    split
    · rename_i us e
      obtain ⟨ds, h1, h2⟩ := vseq_ok t.rb e
      rw [h1]
      exact (sTgs hv ts A us ds ok h2).from s
    · trivial
  | .sub e i, A0, A, n, o, u, d, ok0, ok, s, hn, t => by
    rw [vA, asg]
    split
    · rename_i j hj
      have := asVar_eq hj
      subst this
      split
      · rename_i c0 e0
        obtain ⟨q, ob, h1, _⟩ := ok.ow j _ e0
        obtain ⟨Z', ok1, s1, _, r1, _⟩ := frz1 ok s hn t
        rw [ev_var h1]
        simp only [Res.bind_ok]
        refine Rl.bindS (H := { A with Z := Z' }) s1 (sE hv i { A with Z := Z' } ok1) fun y iy A2 ok2 s2 ⟨h2, h3⟩ => ?_
        split
        · rename_i c e2
          obtain ⟨q', ob, h4, h5, h6⟩ := ok2.ow j _ e2
          rw [h2, show ({ A with Z := Z' } : Cf σ).env = A.env from rfl, h1] at h4
          cases h4
          split
          · rename_i c' e3
            obtain ⟨ob', h7, h8⟩ := set_ok h5 h6 h3.rb (s2.rep ok1 r1) e3
            rw [h7]
            obtain ⟨o3, s3⟩ := mutV ok2 (ob' := ob') e2 (by rw [h2]; exact h1) h8
            exact Rl.at_ (A' := { A2 with st := A2.st.set q ob', ve := A2.ve.set j (some (true, c')) }) o3 ((s1.trans s2).trans s3) ⟨h2, rfl, fun _ _ _ _ => rfl⟩
          · trivial
        · trivial
      · trivial
    · trivial
theorem sTgs (hv : VHyp W F G F' G') : ∀ (t : Tgs) (A : Cf σ) (us : List U) (ds : List D), Ok W A → Reps W A.Z A.st us ds → Rl W A (TgsQ A t) (vAs F G t us A.ve A.s) (asgs F' G' t ds A.env A.st)
  | .nil, A, us, ds, ok, r => by
    cases us with
    | nil => rw [Reps] at r; subst r; rw [vAs, asgs]; exact Rl.here ok ⟨rfl, rfl, fun _ _ _ _ => rfl⟩
    | cons u us => rw [vAs]; trivial; all_goals (intros; simp_all)
  | .cons t ts, A, us, ds, ok, r => by
    cases us with
    | nil => rw [vAs]; trivial; all_goals (intros; simp_all)
    | cons u us =>
      rw [Reps] at r
      obtain ⟨d, ds, rfl, r1, r2⟩ := r
      rw [vAs, asgs]
      refine (sTg hv t A A A.st.length false u d ok ok Stp.refl (Nat.le_refl _) r1).bind fun _ b A1 o1 s1 ⟨h1, h2, h3⟩ => ?_
      rw [← h1]
      refine (sTgs hv ts A1 us ds o1 (s1.reps ok r2)).mono fun _ b' A2 _ s2 ⟨h4, h5, h6⟩ => ⟨h4, by rw [h5, h1, h2], fun own ho j hj => ?_⟩
      have ho : (tgOwn t own && tgOwn.tgsOwn ts own) = true := ho
      rw [Bool.and_eq_true] at ho
      rw [h6 own ho.2 j hj, h1, h3 own ho.1 j hj]
end
end
end PL

set_option Elab.async false
set_option linter.all false
set_option maxRecDepth 100000
set_option maxHeartbeats 4000000
/-! VSH: statements, defs. -/
namespace PL
open PySem L2
section
variable {σ : Type} {W : Bg σ} {F : Nat → List U → σ → FR σ} {G : Nat → Option U} {F' : Nat → List D → Sto → Res D} {G' : Nat → Option D}
def OutQ (W : Bg σ) : VOut → Out → Cf σ → Prop
  | .next, .next env, A => A.env = env
  | .brk, .brk env, A => A.env = env
  | .cnt, .cnt env, A => A.env = env
  | .ret o u, .ret d, A => TR W A A.base o u d
  | _, _, _ => False
abbrev SSp (W : Bg σ) (F : Nat → List U → σ → FR σ) (G : Nat → Option U) (F' : Nat → List D → Sto → Res D) (G' : Nat → Option D) (x : S) : Prop := ∀ A : Cf σ, Ok W A → Rl W A (OutQ W) (vS F G x A.ve A.s) (ex F' G' x A.env A.st)
abbrev SSsp (W : Bg σ) (F : Nat → List U → σ → FR σ) (G : Nat → Option U) (F' : Nat → List D → Sto → Res D) (G' : Nat → Option D) (x : Ss) : Prop := ∀ A : Cf σ, Ok W A → Rl W A (OutQ W) (vSs F G x A.ve A.s) (exs F' G' x A.env A.st)
theorem TRs.length {A : Cf σ} : ∀ {n : Nat} {xs : List (Bool × U)} {ds : List D}, TRs W A n xs ds → ds.length = xs.length
  | n, [], ds, h => by have h : ds = [] := h; subst h; rfl
  | n, x :: xs, ds, h => by obtain ⟨d, ds', m, rfl, _, _, h⟩ := h; rw [List.length_cons, List.length_cons, TRs.length h]
theorem setAll_rl : ∀ {n : Nat} {A0 A : Cf σ} {is : List Nat} {xs : List (Bool × U)} {ds : List D}, Ok W A0 → Ok W A → Stp W A0 A → A0.st.length ≤ n → TRs W A n xs ds →
    Ok W { A with env := setAll A.env is ds, ve := setAllV A.ve is xs } ∧ Stp W A0 { A with env := setAll A.env is ds, ve := setAllV A.ve is xs }
  | n, A0, A, is, [], ds, ok0, ok, s, hn, h => by
    have h : ds = [] := h
    subst h
    cases is <;> exact ⟨ok, s⟩
  | n, A0, A, [], x :: xs, ds, ok0, ok, s, hn, h => by
    obtain ⟨d, ds', m, rfl, _⟩ := h
    exact ⟨ok, s⟩
  | n, A0, A, i :: is, x :: xs, ds, ok0, ok, s, hn, h => by
    obtain ⟨d, ds', m, rfl, h1, h2, h3⟩ := h
    obtain ⟨o2, s2⟩ := setV ok0 ok s hn h1 i
    have tr : ∀ {k : Nat} {ys : List (Bool × U)} {es : List D}, m ≤ k → TRs W A k ys es → TRs W { A with env := A.env.set i (some d), ve := A.ve.set i (some (x.1, x.2)) } k ys es := by
      intro k ys
      induction ys generalizing k with
      | nil => intro es _ h; exact h
      | cons y ys ih =>
        intro es hk h
        obtain ⟨e, es', k', rfl, g1, g2, g3⟩ := h
        refine ⟨e, es', k', rfl, ?_, g2, ih (Nat.le_trans hk g2.1) g3⟩
        obtain ⟨o, u⟩ := y
        cases o with
        | false => exact g1
        | true =>
          obtain ⟨q, ob, e, a1, a2, a3, a4, a5, a6⟩ := g1
          refine ⟨q, ob, e, a1, a2, a3, a4, ?_, a6⟩
          rintro ⟨j, w, b1, b2⟩
          by_cases hj : i = j
          · subst hj
            have b2 : (A.env.set i (some d))[i]? = some (some (.ref q)) := b2
            have b1 : (A.ve.set i (some (x.1, x.2)))[i]? = some (some (true, w)) := b1
            by_cases hi : i < A.env.length
            · rw [List.getElem?_set_self hi] at b2
              have hi2 : i < A.ve.length := by rw [ok.len]; exact hi
              have b3 : (some (some (x.1, x.2)) : Option (Option (Bool × U))) = some (some (true, w)) := by rw [← b1, List.getElem?_set_self hi2]
              cases b2
              have hx : x.1 = true := by simp only [Option.some.injEq, Prod.mk.injEq] at b3; exact b3.1
              have := h2.2 hx q rfl
              omega
            · rw [List.getElem?_eq_none (by rw [List.length_set]; omega)] at b2; cases b2
          · have b2 : (A.env.set i (some d))[j]? = some (some (.ref q)) := b2
            have b1 : (A.ve.set i (some (x.1, x.2)))[j]? = some (some (true, w)) := b1
            rw [List.getElem?_set_ne hj] at b1 b2
            exact a5 ⟨j, w, b1, b2⟩
    exact setAll_rl (A := { A with env := A.env.set i (some d), ve := A.ve.set i (some (x.1, x.2)) }) ok0 o2 s2 (Nat.le_trans hn h2.1) (tr (Nat.le_refl _) h3)
/-- the turns of a for -/
theorem for_rl {A0 : Cf σ} (ok0 : Ok W A0) {items : List U} {src : Src} (hit : ItR W A0.Z A0.st items src) {fv : U → VEnv → σ → VR σ VOut} {fd : D → Env → Sto → Res Out}
    (hstep : ∀ (A : Cf σ) (u : U) (d : D), Ok W A → Rep W A.Z A.st u d → Rl W A (OutQ W) (fv u A.ve A.s) (fd d A.env A.st)) :
    ∀ (rest pre : List U) (A : Cf σ), items = pre ++ rest → Ok W A → Stp W A0 A → Rl W A0 (OutQ W) (vforL fv rest A.ve A.s) (forLoop src fd (rest.length + 1) pre.length A.env A.st)
  | [], pre, A, hp, ok, s => by
    rw [List.append_nil] at hp; subst hp
    rw [vforL, forLoop]
    rcases hit.2 A.Z A.st (s.zkeep ok0) _ (Nat.le_refl _) with ⟨_, hb⟩ | ⟨u, d, ha, _⟩
    · rw [hb]; exact Rl.at_ ok s rfl
    · rw [List.getElem?_eq_none (Nat.le_refl _)] at ha; cases ha
  | x :: rest, pre, A, hp, ok, s => by
    rw [vforL, forLoop]
    have hi : pre.length ≤ items.length := by rw [hp]; simp
    rcases hit.2 A.Z A.st (s.zkeep ok0) _ hi with ⟨ha, _⟩ | ⟨u, d, ha, hb, hr⟩
    · rw [hp, List.getElem?_append_right (Nat.le_refl _)] at ha; simp at ha
    · rw [hb]
      rw [hp, List.getElem?_append_right (Nat.le_refl _)] at ha
      have hu : x = u := by simpa using ha
      subst hu
      have hpl : (pre ++ [x]).length = pre.length + 1 := by simp
      refine Rl.bindS s (hstep A x d ok hr) fun o o' A' ok' sp' h => ?_
      have go : ∀ env, A'.env = env → Rl W A0 (OutQ W) (vforL fv rest A'.ve A'.s) (forLoop src fd (rest.length + 1) (pre.length + 1) env A'.st) := by
        rintro env rfl
        have := for_rl ok0 hit hstep rest (pre ++ [x]) A' (by rw [hp]; simp) ok' (s.trans sp')
        rw [hpl] at this
        exact this
      cases o <;> cases o' <;> first | exact h.elim | skip
      · exact go _ h
      · exact Rl.at_ ok' (s.trans sp') h
      · exact go _ h
      · exact Rl.at_ ok' (s.trans sp') h
theorem whl_rl {tv : VEnv → σ → VR σ Bool} {td : Env → Sto → Res Bool} {fv : VEnv → σ → VR σ VOut} {fd : Env → Sto → Res Out}
    (ht : ∀ A : Cf σ, Ok W A → Rl W A (fun b b' A' => b' = b ∧ A'.env = A.env) (tv A.ve A.s) (td A.env A.st)) (hb : ∀ A : Cf σ, Ok W A → Rl W A (OutQ W) (fv A.ve A.s) (fd A.env A.st)) :
    ∀ (n : Nat) (A : Cf σ), Ok W A → Rl W A (OutQ W) (vwhl tv fv n A.ve A.s) (whlLoop td fd n A.env A.st)
  | 0, A, ok => trivial
  | n + 1, A, ok => by
    rw [vwhl, whlLoop]
    refine (ht A ok).bind fun b b' A1 o1 s1 ⟨h, he⟩ => ?_
    subst h
    rw [← he]
    cases b' with
    | false => exact Rl.here o1 rfl
    | true =>
      refine (hb A1 o1).bind fun o o' A2 o2 s2 h => ?_
      have go : ∀ env, A2.env = env → Rl W A2 (OutQ W) (vwhl tv fv n A2.ve A2.s) (whlLoop td fd n env A2.st) := by
        rintro env rfl
        exact whl_rl ht hb n A2 o2
      cases o <;> cases o' <;> first | exact h.elim | skip
      · exact go _ h
      · exact Rl.here o2 h
      · exact go _ h
      · exact Rl.here o2 h
/-- a name's object goes out -/
theorem moveV {A : Cf σ} (ok : Ok W A) {i : Nat} {o : Bool} {u : U} (h : A.ve[i]? = some (some (o, u))) : ∃ d, A.env[i]? = some (some d) ∧ Ok W { A with ve := A.ve.set i none } ∧ Stp W A { A with ve := A.ve.set i none } ∧ TR W { A with ve := A.ve.set i none } A.base o u d := by
  have gs : ∀ {j : Nat} {x : Bool × U}, (A.ve.set i none)[j]? = some (some x) → j ≠ i ∧ A.ve[j]? = some (some x) := by
    intro j x hx
    by_cases hj : i = j
    · subst hj
      have hi : i < A.ve.length := (List.getElem?_eq_some_iff.mp h).1
      rw [List.getElem?_set_self hi] at hx; cases hx
    · rw [List.getElem?_set_ne hj] at hx; exact ⟨fun z => hj z.symm, hx⟩
  have ow2 : ∀ {j : Nat}, OwnR A.env (A.ve.set i none) j → OwnR A.env A.ve j := by
    rintro j ⟨k, w, h1, h2⟩
    exact ⟨k, w, (gs h1).2, h2⟩
  obtain ⟨d, hd⟩ := ok.slot h
  refine ⟨d, hd, ⟨by rw [List.length_set]; exact ok.len, fun j w hx => ok.fr j w (gs hx).2, fun j w hx => ok.ow j w (gs hx).2, fun j hx => ok.oz j (ow2 hx), fun j j' w w' p hx hx' => ok.od j j' w w' p (gs hx).2 (gs hx').2, ok.zl, ok.bag, ok.bl⟩, ⟨rfl, Nat.le_refl _, fun _ _ _ _ => rfl, fun _ h => h, fun _ h => .inl h, fun j z => .inl (ow2 z)⟩, ?_⟩
  cases o with
  | false =>
    obtain ⟨d', h1, h2⟩ := ok.fr i u h
    rw [hd] at h1; cases h1; exact h2
  | true =>
    obtain ⟨q, ob, h1, h2, h3⟩ := ok.ow i u h
    rw [hd] at h1; cases h1
    obtain ⟨a, b, c⟩ := ok.oz q ⟨i, u, h, hd⟩
    refine ⟨q, ob, rfl, h2, h3, a, b, ?_, c⟩
    rintro ⟨k, w, g1, g2⟩
    obtain ⟨g3, g4⟩ := gs g1
    exact g3 (ok.od k i w u q g4 h g2 hd)
mutual
theorem sS (hv : VHyp W F G F' G') : ∀ (x : S), SSp W F G F' G' x
  | .asg t e => fun A ok => by
    rw [vS, ex]
    refine (sE hv e A ok).bind' fun x d A1 o1 s1 ⟨e1, r1⟩ => ?_
    rw [← e1]
    refine (sTg hv t A A1 _ x.1 x.2 d ok o1 s1 (Nat.le_refl _) r1).bind' fun _ b A2 o2 s2 h => ?_
    exact Rl.at_ o2 s2 h.1
  | .asgC i own elt t k es c => fun A ok => by
    rw [vS, ex]
    refine (sE hv (.lc own elt t k es c) A ok).bind' fun x d A1 o1 s1 ⟨e1, r1⟩ => ?_
    rw [← e1]
    obtain ⟨o2, s2⟩ := setV ok o1 s1 (Nat.le_refl _) r1 i
    exact Rl.at_ (A' := { A1 with env := A1.env.set i (some d), ve := A1.ve.set i (some (x.1, x.2)) }) o2 s2 rfl
  | .par is es => fun A ok => by
    rw [vS, ex]
    refine (sEs hv es A ok).bind' fun xs ds A1 o1 s1 ⟨e1, r1⟩ => ?_
    rw [← e1]
    have hl : ds.length = xs.length := TRs.length r1
    split
    · rename_i c
      rw [if_pos (by rw [hl]; exact c.1)]
      obtain ⟨o2, s2⟩ := setAll_rl (is := is) ok o1 s1 (Nat.le_refl _) r1
      exact Rl.at_ (A' := { A1 with env := setAll A1.env is ds, ve := setAllV A1.ve is xs }) o2 s2 rfl
    · trivial
  | .exp e => fun A ok => by
    rw [vS, ex]
    exact (sE hv e A ok).bind fun x d A1 o1 s1 ⟨e1, r1⟩ => Rl.here o1 e1
  | .ret e => fun A ok => by
    rw [vS, ex]
    split
    · rename_i i hi
      have := asVar_eq hi
      subst this
      split
      · rename_i o u e
        obtain ⟨d, h1, h2, h3, h4⟩ := moveV ok e
        rw [ev_var h1]
        exact Rl.at_ (A' := { A with ve := A.ve.set i none }) h2 h3 h4
      · trivial
    · refine (sE hv e A ok).bind' fun x d A1 o1 s1 ⟨e1, r1⟩ => ?_
      refine Rl.at_ o1 s1 (TR.le ?_ r1)
      rw [s1.bs]; exact ok.bl
  | .retN => fun A ok => by rw [vS, ex]; exact Rl.here ok (rfl : Rep W A.Z A.st .non .non)
  | .ite c a b => fun A ok => by
    rw [vS, ex]
    refine (sT hv c A ok).bind fun k k' A1 o1 s1 ⟨h, he⟩ => ?_
    subst h
    rw [← he]
    cases k' with
    | true => exact sSs hv a A1 o1
    | false => exact sSs hv b A1 o1
  | .for_ t k es body => fun A ok => by
    rw [vS, ex]
    refine ((sEs hv es A ok).frzs (Nat.le_refl _)).bind fun x d A1 o1 s1 ⟨he, r⟩ => ?_
    split
    · trivial
    · rename_i items e1
      obtain ⟨src, h1, h2⟩ := src_it r e1
      rw [h1, ← he]
      simp only []
      rw [h2.1]
      refine for_rl o1 h2 (fun A2 u d o2 ru => ?_) items [] A1 rfl o1 Stp.refl
      refine (sTg hv t A2 A2 _ false u d o2 o2 Stp.refl (Nat.le_refl _) ru).bind fun _ b A3 o3 s3 h => ?_
      rw [← h.1]
      exact sSs hv body A3 o3
  | .whl c body => fun A ok => by
    rw [vS, ex]
    exact whl_rl (fun A ok => sT hv c A ok) (fun A ok => sSs hv body A ok) _ A ok
  | .brk => fun A ok => by rw [vS, ex]; exact Rl.here ok rfl
  | .cnt => fun A ok => by rw [vS, ex]; exact Rl.here ok rfl
  | .pass => fun A ok => by rw [vS, ex]; exact Rl.here ok rfl
  | .never => fun A ok => by rw [vS]; trivial
theorem sSs (hv : VHyp W F G F' G') : ∀ (x : Ss), SSsp W F G F' G' x
  | .nil => fun A ok => by rw [vSs, exs]; exact Rl.here ok rfl
  | .cons x ss => fun A ok => by
    rw [vSs, exs]
    refine (sS hv x A ok).bind fun o o' A1 o1 s1 h => ?_
    cases o <;> cases o' <;> first | exact h.elim | skip
    · have h : A1.env = _ := h
      simp only []
      rw [← h]
      exact sSs hv ss A1 o1
    · exact Rl.here o1 h
    · exact Rl.here o1 h
    · exact Rl.here o1 h
end
/-- defs -/
theorem vrun_ok {P : Nat → Option Fn} {CV : Nat → Option (Nat × (List U → σ → FR σ))} {C : Nat → Option (List D → Sto → Res D)} (hG : ∀ i u, G i = some u → ∃ d, G' i = some d ∧ ∀ Z st, Rep W Z st u d)
    (hC : ∀ f, CV f = none → C f = none ∨ ∀ n us s, vrun P G CV n f us s = .bad) (hCV : ∀ f m c, CV f = some (m, c) → ∀ n, m ≤ n → CallOk W c (runC P G' C n f)) :
    ∀ (n f : Nat), CallOk W (vrun P G CV n f) (runC P G' C n f)
  | 0, f => fun us ds st s Z r zl hb => by rw [vrun_zero]; trivial
  | n + 1, f => fun us ds st s Z r zl hb => by
    cases e : CV f with
    | some mc =>
      obtain ⟨m, c⟩ := mc
      rw [vrun_succ, vstep, e]
      simp only []
      split
      · rename_i hm
        exact hCV f m c e _ hm us ds st s Z r zl hb
      · trivial
    | none =>
      rcases hC f e with hc | hc
      · rw [vrun_succ, vstep, e, runC, hc]
        simp only []
        cases e2 : P f with
        | none => trivial
        | some fn =>
          simp only []
          split
          · rename_i hl
            rw [if_pos (by rw [r.length]; exact hl)]
            let A0 : Cf σ := ⟨st.length, Z, st, ds.map some ++ List.replicate (fn.ns - fn.np) none, (us.map fun u => some (false, u)) ++ List.replicate (fn.ns - fn.np) none, s⟩
            have gs : ∀ {i : Nat} {x : Bool × U}, A0.ve[i]? = some (some x) → ∃ u d, x = (false, u) ∧ us[i]? = some u ∧ ds[i]? = some d ∧ Rep W Z st u d ∧ A0.env[i]? = some (some d) := by
              intro i x hx
              have hx : ((us.map fun u => some (false, u)) ++ List.replicate (fn.ns - fn.np) none)[i]? = some (some x) := hx
              by_cases hi : i < us.length
              · rw [List.getElem?_append_left (by simpa using hi), List.getElem?_map] at hx
                rcases r.get (i := i) with ⟨a, b⟩ | ⟨u, d, a, b, c⟩
                · rw [a] at hx; cases hx
                · rw [a] at hx; cases hx
                  refine ⟨u, d, rfl, a, b, c, ?_⟩
                  show (ds.map some ++ List.replicate (fn.ns - fn.np) none)[i]? = _
                  rw [List.getElem?_append_left (by rw [List.length_map, r.length]; exact hi), List.getElem?_map, b]; rfl
              · rw [List.getElem?_append_right (by simpa using hi), List.getElem?_replicate] at hx
                split at hx <;> cases hx
            have ok0 : Ok W A0 := by
              refine ⟨?_, fun i u h => ?_, fun i u h => ?_, ?_, fun i i' u u' j h => ?_, zl, hb, Nat.le_refl _⟩
              · show ((us.map fun u => some (false, u)) ++ List.replicate (fn.ns - fn.np) none).length = (ds.map some ++ List.replicate (fn.ns - fn.np) none).length
                simp [r.length]
              · obtain ⟨u', d, hx, h1, h2, h3, h4⟩ := gs h
                cases hx
                exact ⟨d, h4, h3⟩
              · obtain ⟨u', d, hx, _⟩ := gs h
                cases hx
              · rintro j ⟨i, u, h, _⟩
                obtain ⟨u', d, hx, _⟩ := gs h
                cases hx
              · obtain ⟨u', d, hx, _⟩ := gs h
                cases hx
            have no : ∀ j, ¬ OwnR A0.env A0.ve j := by
              rintro j ⟨i, u, h, _⟩
              obtain ⟨u', d, hx, _⟩ := gs h
              cases hx
            have body := sSs (W := W) (F := vrun P G CV n) (G := G) (F' := runC P G' C n) (G' := G') ⟨fun f => vrun_ok hG hC hCV n f, hG⟩ fn.body A0 ok0
            have fo : ∀ {Z' : Nat → Prop} {env' : Env} {st' : Sto} {e' : VEnv} {s' : σ}, Ok W ⟨st.length, Z', st', env', e', s'⟩ → Stp W A0 ⟨st.length, Z', st', env', e', s'⟩ → FO W Z st Z' st' s' := by
              intro Z' env' st' e' s' o t
              exact ⟨t.len, fun j h1 h2 => t.frm j h1 h2 (no j), t.zin, fun j z => by
                rcases t.zout j z with z | z | z
                · exact .inl z
                · exact absurd z (no j)
                · exact .inr z, o.zl, o.bag⟩
            show RF W Z st (match vSs (vrun P G CV n) G fn.body A0.ve A0.s with
              | .ok (.ret o u) _ s1 => .ok o u s1
              | .ok .next _ s1 => .ok false .non s1
              | .exc c us s1 => .exc c us s1
              | _ => .bad) ((exs (runC P G' C n) G' fn.body A0.env A0.st).bind fun o st1 => match o with
                | .ret d => .ok d st1
                | .next _ => .ok .non st1
                | _ => .bad)
            revert body
            generalize vSs (vrun P G CV n) G fn.body A0.ve A0.s = v
            generalize exs (runC P G' C n) G' fn.body A0.env A0.st = w
            intro body
            cases v with
            | bad => trivial
            | exc c us' s' =>
              cases w with
              | ok _ _ => exact body.elim
              | bad => exact body.elim
              | exc c' ds' st' =>
                obtain ⟨h1, Z', h2, h3⟩ := body
                exact ⟨h1, Z', ⟨h2.len, fun j a b => h2.frm j a b (no j), h2.zin, fun j z => by
                  rcases h2.zout j z with z | z | z
                  · exact .inl z
                  · exact absurd z (no j)
                  · exact .inr z, h2.zl, h2.bag⟩, h3⟩
            | ok o e' s' =>
              cases w with
              | exc _ _ _ => exact body.elim
              | bad => exact body.elim
              | ok o' st' =>
                obtain ⟨Z', env', h1, h2, h3⟩ := body
                cases o <;> cases o' <;> first | exact h3.elim | trivial | skip
                · exact ⟨Z', fo h1 h2, (rfl : Rep W Z' st' .non .non)⟩
                · rename_i o u d
                  refine ⟨Z', fo h1 h2, ?_⟩
                  cases o with
                  | false => exact h3
                  | true =>
                    obtain ⟨q, ob, a1, a2, a3, a4, a5, a6, a7⟩ := h3
                    exact ⟨q, ob, a1, a2, a3, a4, a5, a7⟩
          · trivial
      · rw [hc]; trivial
end
end PL

set_option Elab.async false
set_option linter.all false
set_option maxRecDepth 100000
set_option maxHeartbeats 4000000
/-! VSI: what runs on values come to, step by step, as propositions. -/
namespace PL
open PySem
section
variable {σ α β : Type}
def ZVd (r : VR σ α) (P : α → VEnv → σ → Prop) : Prop := match r with
  | .ok a e s => P a e s
  | _ => False
def ZFd (r : FR σ) (P : Bool → U → σ → Prop) : Prop := match r with
  | .ok o u s => P o u s
  | _ => False
def ZOpP (o : Option α) (P : α → Prop) : Prop := match o with
  | some a => P a
  | none => False
theorem z_OpP_some {a : α} {P : α → Prop} : ZOpP (some a) P ↔ P a := Iff.rfl
theorem z_OpP_none {P : α → Prop} : ZOpP (none : Option α) P ↔ False := Iff.rfl
theorem z_OpP_ite {c : Prop} {inst : Decidable c} {a : α} {P : α → Prop} : ZOpP (if c then some a else none) P ↔ c ∧ P a := by
  split
  · rename_i h; exact ⟨fun z => ⟨h, z⟩, fun z => z.2⟩
  · rename_i h; exact ⟨fun z => z.elim, fun z => (h z.1).elim⟩
theorem z_OpP_map {o : Option α} {f : α → β} {P : β → Prop} : ZOpP (o.map f) P ↔ ZOpP o fun a => P (f a) := by cases o <;> exact Iff.rfl
theorem z_OpP_iff {o : Option α} {P : α → Prop} : ZOpP o P ↔ ∃ a, o = some a ∧ P a := by
  cases o with
  | none => exact ⟨fun z => z.elim, fun ⟨a, e, _⟩ => by cases e⟩
  | some a => exact ⟨fun z => ⟨a, rfl, z⟩, fun ⟨b, e, h⟩ => by cases e; exact h⟩
theorem z_OpP_of {o : Option α} {a : α} {P : α → Prop} (h : o = some a) (k : P a) : ZOpP o P := by rw [h]; exact k
theorem z_Vd_ok {a : α} {e : VEnv} {s : σ} {P : α → VEnv → σ → Prop} : ZVd (.ok a e s) P ↔ P a e s := Iff.rfl
theorem z_Vd_bad {P : α → VEnv → σ → Prop} : ZVd (.bad : VR σ α) P ↔ False := Iff.rfl
theorem z_Vd_bind {r : VR σ α} {k : α → VEnv → σ → VR σ β} {P : β → VEnv → σ → Prop} : ZVd (r.bind k) P ↔ ZVd r fun a e s => ZVd (k a e s) P := by cases r <;> exact Iff.rfl
theorem ZVd.mono {r : VR σ α} {P Q : α → VEnv → σ → Prop} (h : ZVd r P) (f : ∀ a e s, P a e s → Q a e s) : ZVd r Q := by
  cases r with
  | ok a e s => exact f a e s h
  | exc _ _ _ => exact h
  | bad => exact h
theorem ZFd.mono {r : FR σ} {P Q : Bool → U → σ → Prop} (h : ZFd r P) (f : ∀ o u s, P o u s → Q o u s) : ZFd r Q := by
  cases r with
  | ok a e s => exact f a e s h
  | exc _ _ _ => exact h
  | bad => exact h
theorem z_Vd_lift {o : Option α} {e : VEnv} {s : σ} {P : α → VEnv → σ → Prop} : ZVd (vlift o e s) P ↔ ZOpP o fun a => P a e s := by cases o <;> exact Iff.rfl
theorem z_Vd_ite {c : Prop} [Decidable c] {x y : VR σ α} {P : α → VEnv → σ → Prop} : ZVd (if c then x else y) P ↔ if c then ZVd x P else ZVd y P := by split <;> exact Iff.rfl
theorem z_Vd_iteB {c : Prop} [Decidable c] {x : VR σ α} {P : α → VEnv → σ → Prop} : ZVd (if c then x else .bad) P ↔ c ∧ ZVd x P := by
  split
  · rename_i h; exact ⟨fun z => ⟨h, z⟩, fun z => z.2⟩
  · rename_i h; exact ⟨fun z => z.elim, fun z => (h z.1).elim⟩
theorem z_Vd_ofF {r : FR σ} {e : VEnv} {bs : List BV} {P : Bool × U → VEnv → σ → Prop} : ZVd (ofF r e bs) P ↔ ZFd r fun o u s => P (o, u) (endC e bs o u) s := by cases r <;> exact Iff.rfl
theorem endC_none {e : VEnv} {bs : List BV} {o : Bool} {u : U} (h : ownIn e bs = false) : endC e bs o u = e := by unfold endC; rw [h]; rfl
theorem own_nil {e : VEnv} : ownIn e [] = false := rfl
theorem own_val {e : VEnv} {o : Bool} {u : U} {bs : List BV} : ownIn e (.val o u :: bs) = ownIn e bs := rfl
theorem own_var {e : VEnv} {i : Nat} {bs : List BV} : ownIn e (.var i :: bs) = match e[i]? with
    | some (some (true, _)) => true
    | _ => ownIn e bs := rfl
theorem z_Fd_ok {o : Bool} {u : U} {s : σ} {P : Bool → U → σ → Prop} : ZFd (.ok o u s) P ↔ P o u s := Iff.rfl
theorem z_Fd_of {r : FR σ} {P : Bool → U → σ → Prop} (h : ZFd r P) : ∃ o u s, r = .ok o u s ∧ P o u s := by
  cases r with
  | ok o u s => exact ⟨o, u, s, rfl, h⟩
  | exc _ _ _ => exact h.elim
  | bad => exact h.elim
theorem z_Vd_of {r : VR σ α} {P : α → VEnv → σ → Prop} (h : ZVd r P) : ∃ a e s, r = .ok a e s ∧ P a e s := by
  cases r with
  | ok o u s => exact ⟨o, u, s, rfl, h⟩
  | exc _ _ _ => exact h.elim
  | bad => exact h.elim
theorem av_cI (i : Int) : asVar (.cI i) = none := rfl
theorem av_cB (i : Bool) : asVar (.cB i) = none := rfl
theorem av_cS (i : Str) : asVar (.cS i) = none := rfl
theorem av_cN  : asVar (.cN ) = none := rfl
theorem av_gcon (i : Nat) : asVar (.gcon i) = none := rfl
theorem av_gkd (i : Nat) (a : E) : asVar (.gkd i a) = none := rfl
theorem av_ixl (ys : List Str) (a : E) : asVar (.ixl ys a) = none := rfl
theorem av_ent (ts : List Str) : asVar (.ent ts) = none := rfl
theorem av_ixm (o a : E) : asVar (.ixm o a) = none := rfl
theorem av_stup (fs : List Bool) (es : Es) : asVar (.stup fs es) = none := rfl
theorem av_bin (o : Bop) (a b : E) : asVar (.bin o a b) = none := rfl
theorem av_neg (a : E) : asVar (.neg a) = none := rfl
theorem av_notE (a : E) : asVar (.notE a) = none := rfl
theorem av_and1 (a : E) : asVar (.and1 a) = none := rfl
theorem av_and2 (a b : E) : asVar (.and2 a b) = none := rfl
theorem av_or1 (a : E) : asVar (.or1 a) = none := rfl
theorem av_or2 (a b : E) : asVar (.or2 a b) = none := rfl
theorem av_cmp (o : Cop) (a b : E) : asVar (.cmp o a b) = none := rfl
theorem av_cmp2 (o o2 : Cop) (a b c : E) : asVar (.cmp2 o o2 a b c) = none := rfl
theorem av_ife (c : T) (a b : E) : asVar (.ife c a b) = none := rfl
theorem av_tup (a : Es) : asVar (.tup a) = none := rfl
theorem av_lst (a : Es) : asVar (.lst a) = none := rfl
theorem av_dic (k : List L2.Key) (a : Es) : asVar (.dic k a) = none := rfl
theorem av_call (f : Nat) (a : Es) : asVar (.call f a) = none := rfl
theorem av_callK (f : Nat) (a b : Es) (g : List Nat) : asVar (.callK f a b g) = none := rfl
theorem av_blt (b : Blt) (a : Es) : asVar (.blt b a) = none := rfl
theorem av_meth (m : Mt) (a : E) (b : Es) : asVar (.meth m a b) = none := rfl
theorem av_smeth (m : Tm) (a : E) (b : Es) : asVar (.smeth m a b) = none := rfl
theorem av_idx (a b : E) : asVar (.idx a b) = none := rfl
theorem av_sl (a b c : E) : asVar (.sl a b c) = none := rfl
theorem av_rev (a : E) : asVar (.rev a) = none := rfl
theorem av_lc (o : List Nat) (a : E) (t : Tg) (k : ItK) (b : Es) (c : T) : asVar (.lc o a t k b c) = none := rfl
theorem atU_nat {xs : List U} {n : Nat} {d : U} (h : xs[n]? = some d) : vidx.atU xs (n : Int) = some d := by
  have hn := (List.getElem?_eq_some_iff.mp h).1
  unfold vidx.atU L2.ixN
  simp [hn, h]
  exact (List.getElem?_eq_some_iff.mp h).2
theorem at0 {x0 : U} {l : List U} : vidx.atU (x0 :: l) 0 = some x0 := atU_nat (n := 0) rfl
theorem at1 {x0 x1 : U} {l : List U} : vidx.atU (x0 :: x1 :: l) 1 = some x1 := atU_nat (n := 1) rfl
theorem at2 {x0 x1 x2 : U} {l : List U} : vidx.atU (x0 :: x1 :: x2 :: l) 2 = some x2 := atU_nat (n := 2) rfl
theorem at3 {x0 x1 x2 x3 : U} {l : List U} : vidx.atU (x0 :: x1 :: x2 :: x3 :: l) 3 = some x3 := atU_nat (n := 3) rfl
theorem at4 {x0 x1 x2 x3 x4 : U} {l : List U} : vidx.atU (x0 :: x1 :: x2 :: x3 :: x4 :: l) 4 = some x4 := atU_nat (n := 4) rfl
theorem at5 {x0 x1 x2 x3 x4 x5 : U} {l : List U} : vidx.atU (x0 :: x1 :: x2 :: x3 :: x4 :: x5 :: l) 5 = some x5 := atU_nat (n := 5) rfl
theorem at6 {x0 x1 x2 x3 x4 x5 x6 : U} {l : List U} : vidx.atU (x0 :: x1 :: x2 :: x3 :: x4 :: x5 :: x6 :: l) 6 = some x6 := atU_nat (n := 6) rfl
theorem at7 {x0 x1 x2 x3 x4 x5 x6 x7 : U} {l : List U} : vidx.atU (x0 :: x1 :: x2 :: x3 :: x4 :: x5 :: x6 :: x7 :: l) 7 = some x7 := atU_nat (n := 7) rfl
theorem at8 {x0 x1 x2 x3 x4 x5 x6 x7 x8 : U} {l : List U} : vidx.atU (x0 :: x1 :: x2 :: x3 :: x4 :: x5 :: x6 :: x7 :: x8 :: l) 8 = some x8 := atU_nat (n := 8) rfl
theorem at9 {x0 x1 x2 x3 x4 x5 x6 x7 x8 x9 : U} {l : List U} : vidx.atU (x0 :: x1 :: x2 :: x3 :: x4 :: x5 :: x6 :: x7 :: x8 :: x9 :: l) 9 = some x9 := atU_nat (n := 9) rfl
theorem at10 {x0 x1 x2 x3 x4 x5 x6 x7 x8 x9 x10 : U} {l : List U} : vidx.atU (x0 :: x1 :: x2 :: x3 :: x4 :: x5 :: x6 :: x7 :: x8 :: x9 :: x10 :: l) 10 = some x10 := atU_nat (n := 10) rfl
theorem at11 {x0 x1 x2 x3 x4 x5 x6 x7 x8 x9 x10 x11 : U} {l : List U} : vidx.atU (x0 :: x1 :: x2 :: x3 :: x4 :: x5 :: x6 :: x7 :: x8 :: x9 :: x10 :: x11 :: l) 11 = some x11 := atU_nat (n := 11) rfl
theorem atm1 {x : U} {l : List U} : vidx.atU (l ++ [x]) (-1) = some x := by
  unfold vidx.atU L2.ixN
  have h1 : (l ++ [x]).length = l.length + 1 := by simp
  rw [h1, if_neg (by decide), if_pos (by omega), Option.bind_some]
  have h2 : ((-1 : Int) + ((l.length + 1 : Nat) : Int)).toNat = l.length := by omega
  rw [h2]; simp
/-- a name's place -/
def ZSlP (x : Option (Option (Bool × U))) (P : Bool → U → Prop) : Prop := match x with
  | some (some (o, u)) => P o u
  | _ => False
theorem z_SlP_some {o : Bool} {u : U} {P : Bool → U → Prop} : ZSlP (some (some (o, u))) P ↔ P o u := Iff.rfl
/-- an own object's -/
def asS : U → Option Str
  | .str a => some a
  | _ => none
theorem asS_str {x : Str} : asS (.str x) = some x := rfl
def ZOwP (x : Option (Option (Bool × U))) (P : U → Prop) : Prop := match x with
  | some (some (true, u)) => P u
  | _ => False
theorem z_OwP_some {u : U} {P : U → Prop} : ZOwP (some (some (true, u))) P ↔ P u := Iff.rfl
def ZLstP (x : U) (P : List U → Prop) : Prop := match x with
  | .lst us => P us
  | _ => False
theorem z_LstP_lst {us : List U} {P : List U → Prop} : ZLstP (.lst us) P ↔ P us := Iff.rfl
def ZIntP (x : U) (P : Int → Prop) : Prop := match x with
  | .int i => P i
  | _ => False
theorem z_IntP_int {i : Int} {P : Int → Prop} : ZIntP (.int i) P ↔ P i := Iff.rfl
theorem get_val {o : Bool} {u : U} {e : VEnv} : (BV.val o u).get e = some u := rfl
theorem get_var {i : Nat} {e : VEnv} : (BV.var i).get e = slotU e i := rfl
theorem z_slot_get {i : Nat} {e : VEnv} {P : U → Prop} : ZOpP (slotU e i) P ↔ ZSlP e[i]? fun _ u => P u := by
  unfold slotU
  rcases h : e[i]? with _ | _ | ⟨o, u⟩ <;> exact Iff.rfl
theorem z_B_var {i : Nat} {r : VEnv → σ → VR σ (Bool × U)} {env : VEnv} {s : σ} {P : BV → VEnv → σ → Prop} : ZVd (borrow (.var i) r env s) P ↔ ZSlP env[i]? fun _ _ => P (.var i) env s := by
  unfold borrow
  simp only []
  rcases h : env[i]? with _ | _ | ⟨o, u⟩ <;> exact Iff.rfl
theorem z_B_else {e : E} {r : VEnv → σ → VR σ (Bool × U)} {env : VEnv} {s : σ} {P : BV → VEnv → σ → Prop} (h : asVar e = none) : ZVd (borrow e r env s) P ↔ ZVd (r env s) fun x e1 s1 => P (.val x.1 x.2) e1 s1 := by
  unfold borrow
  split
  · cases h
  · rw [z_Vd_bind]; exact Iff.rfl
end
section
variable {i j : Int} {x y : Str} {b c : Bool} {xs ys : List U} {u v w : U} {ks ls : List L2.Key} {us vs : List U} {p q : PyData} {ts : List Str}
theorem vb_add : vbin .add (.int i) (.int j) = some (false, .int (i + j)) := rfl
theorem vb_sub : vbin .sub (.int i) (.int j) = some (false, .int (i - j)) := rfl
theorem z_vb_mul {P : _ → Prop} : ZOpP (vbin .mul (.int i) (.int j)) P ↔ ((small64 i || small64 j) = true) ∧ P (((false, .int (i * j)) : Bool × U)) := by
  show ZOpP (if _ then some _ else none) P ↔ _
  rw [z_OpP_ite]
theorem z_vb_fdiv {P : _ → Prop} : ZOpP (vbin .fdiv (.int i) (.int j)) P ↔ ((decide (0 < j) && decide (j < 1073741824)) = true) ∧ P (((false, .int (i / j)) : Bool × U)) := by
  show ZOpP (if _ then some _ else none) P ↔ _
  rw [z_OpP_ite]
theorem z_vb_md {P : _ → Prop} : ZOpP (vbin .md (.int i) (.int j)) P ↔ (decide (0 < j) = true) ∧ P (((false, .int (i % j)) : Bool × U)) := by
  show ZOpP (if _ then some _ else none) P ↔ _
  rw [z_OpP_ite]
theorem z_vb_pow {P : _ → Prop} : ZOpP (vbin .pow (.int i) (.int j)) P ↔ ((decide (0 ≤ j) && (decide (j ≤ 1000000) && decide (i.natAbs < 2 ^ 64))) = true) ∧ P (((false, .int (i ^ j.toNat)) : Bool × U)) := by
  show ZOpP (if _ then some _ else none) P ↔ _
  rw [z_OpP_ite]
theorem z_vb_adds {P : _ → Prop} : ZOpP (vbin .add (.str x) (.str y)) P ↔ (x.length + y.length ≤ sizeLine) ∧ P (((false, .str (x ++ y)) : Bool × U)) := by
  show ZOpP (if _ then some _ else none) P ↔ _
  rw [z_OpP_ite]
theorem z_vb_addt {P : _ → Prop} : ZOpP (vbin .add (.tup xs) (.tup ys)) P ↔ (xs.length + ys.length ≤ sizeLine) ∧ P (((false, .tup (xs ++ ys)) : Bool × U)) := by
  show ZOpP (if _ then some _ else none) P ↔ _
  rw [z_OpP_ite]
theorem z_vb_addl {P : _ → Prop} : ZOpP (vbin .add (.lst xs) (.lst ys)) P ↔ (xs.length + ys.length ≤ sizeLine) ∧ P (((true, .lst (xs ++ ys)) : Bool × U)) := by
  show ZOpP (if _ then some _ else none) P ↔ _
  rw [z_OpP_ite]
theorem z_vb_mult {P : _ → Prop} : ZOpP (vbin .mul (.tup xs) (.int i)) P ↔ ((!xs.isEmpty && (decide (xs.length ≤ 1000) && (decide (1 ≤ i) && decide (i ≤ 1000)))) = true) ∧ P (((false, .tup (List.replicate i.toNat xs).flatten) : Bool × U)) := by
  show ZOpP (if _ then some _ else none) P ↔ _
  rw [z_OpP_ite]
theorem z_vb_mull {P : _ → Prop} : ZOpP (vbin .mul (.lst xs) (.int i)) P ↔ ((decide (-(2 ^ 63) ≤ i) && (decide (i < 2 ^ 63) && decide (xs.length * i.toNat ≤ sizeLine))) = true) ∧ P (((true, .lst (List.replicate i.toNat xs).flatten) : Bool × U)) := by
  show ZOpP (if _ then some _ else none) P ↔ _
  rw [z_OpP_ite]
theorem vl_lent : vblt .len [.tup xs] = some (false, .int xs.length) := rfl
theorem vl_lenl : vblt .len [.lst xs] = some (false, .int xs.length) := rfl
theorem z_vl_lens {P : _ → Prop} : ZOpP (vblt .len [.str x]) P ↔ (x.length ≤ sizeLine) ∧ P (((false, .int x.length) : Bool × U)) := by
  show ZOpP (if _ then some _ else none) P ↔ _
  rw [z_OpP_ite]
theorem vl_lene : vblt .len [.ent ts] = some (false, .int ts.length) := rfl
theorem vx_e : vidx (.ent ts) (.int i) = (L2.atI ts i).map .str := rfl
theorem vn_e : vin u (.ent ts) = if vdctIn u (ts.map .str) = true then none else vinP u (ts.map .str) := rfl
theorem sr_e : vsrc .plain [.ent ts] = some (ts.map .str) := rfl
theorem im_e : ixmU (.ent ts) u = ixU ts u := rfl
theorem im_l : ixmU (.lst xs) u = match strsU xs with | some ys => ixU ys u | none => none := rfl
theorem rw_e : isRowU (.ent ts) = true := rfl
theorem rw_l : isRowU (.lst xs) = true := rfl
theorem fl_s : flat (.str x) = true := rfl
theorem fl_i : flat (.int i) = true := rfl
theorem as_t : asT (.tup xs) = some xs := rfl
theorem vl_abs : vblt .abs [.int i] = some (false, .int (if i < 0 then -i else i)) := rfl
theorem vl_int : vblt .int [.int i] = some (false, .int i) := rfl
theorem vl_intb : vblt .int [.bl b] = some (false, .int (if b then 1 else 0)) := rfl
theorem vl_tupt : vblt .tuple [.tup xs] = some (false, .tup xs) := rfl
theorem vl_tupl : vblt .tuple [.lst xs] = some (false, .tup xs) := rfl
theorem vl_lstt : vblt .list [.tup xs] = some (true, .lst xs) := rfl
theorem vl_lstl : vblt .list [.lst xs] = some (true, .lst xs) := rfl
theorem vl_srt : vblt .srt [u] = vsrt u := rfl
theorem vl_dz : vblt .dictP [u, v] = vdz u v := rfl
theorem vl_min : vblt .min2 [.int i, .int j] = some (false, .int (if j < i then j else i)) := rfl
theorem vl_max : vblt .max2 [.int i, .int j] = some (false, .int (if j > i then j else i)) := rfl
theorem z_vl_strI {P : _ → Prop} : ZOpP (vblt .strI [.int i]) P ↔ (decide (i.natAbs.log2 < 1920) = true) ∧ P (((false, .str (toString i)) : Bool × U)) := by
  show ZOpP (if _ then some _ else none) P ↔ _
  rw [z_OpP_ite]
theorem vi_int_non : vblt (.isi .int) [.non] = some (false, .bl false) := rfl
theorem vi_int_bl : vblt (.isi .int) [(.bl b)] = some (false, .bl true) := rfl
theorem vi_int_int : vblt (.isi .int) [(.int i)] = some (false, .bl true) := rfl
theorem vi_int_str : vblt (.isi .int) [(.str x)] = some (false, .bl false) := rfl
theorem vi_int_tup : vblt (.isi .int) [(.tup xs)] = some (false, .bl false) := rfl
theorem vi_int_lst : vblt (.isi .int) [(.lst xs)] = some (false, .bl false) := rfl
theorem vi_int_dct : vblt (.isi .int) [(.dct ks us)] = some (false, .bl false) := rfl
theorem vi_int_rep : vblt (.isi .int) [(.rep p)] = some (false, .bl false) := rfl
theorem vi_bool_non : vblt (.isi .bool) [.non] = some (false, .bl false) := rfl
theorem vi_bool_bl : vblt (.isi .bool) [(.bl b)] = some (false, .bl true) := rfl
theorem vi_bool_int : vblt (.isi .bool) [(.int i)] = some (false, .bl false) := rfl
theorem vi_bool_str : vblt (.isi .bool) [(.str x)] = some (false, .bl false) := rfl
theorem vi_bool_tup : vblt (.isi .bool) [(.tup xs)] = some (false, .bl false) := rfl
theorem vi_bool_lst : vblt (.isi .bool) [(.lst xs)] = some (false, .bl false) := rfl
theorem vi_bool_dct : vblt (.isi .bool) [(.dct ks us)] = some (false, .bl false) := rfl
theorem vi_bool_rep : vblt (.isi .bool) [(.rep p)] = some (false, .bl false) := rfl
theorem vi_str_non : vblt (.isi .str) [.non] = some (false, .bl false) := rfl
theorem vi_str_bl : vblt (.isi .str) [(.bl b)] = some (false, .bl false) := rfl
theorem vi_str_int : vblt (.isi .str) [(.int i)] = some (false, .bl false) := rfl
theorem vi_str_str : vblt (.isi .str) [(.str x)] = some (false, .bl true) := rfl
theorem vi_str_tup : vblt (.isi .str) [(.tup xs)] = some (false, .bl false) := rfl
theorem vi_str_lst : vblt (.isi .str) [(.lst xs)] = some (false, .bl false) := rfl
theorem vi_str_dct : vblt (.isi .str) [(.dct ks us)] = some (false, .bl false) := rfl
theorem vi_str_rep : vblt (.isi .str) [(.rep p)] = some (false, .bl true) := rfl
theorem vi_tup_non : vblt (.isi .tup) [.non] = some (false, .bl false) := rfl
theorem vi_tup_bl : vblt (.isi .tup) [(.bl b)] = some (false, .bl false) := rfl
theorem vi_tup_int : vblt (.isi .tup) [(.int i)] = some (false, .bl false) := rfl
theorem vi_tup_str : vblt (.isi .tup) [(.str x)] = some (false, .bl false) := rfl
theorem vi_tup_tup : vblt (.isi .tup) [(.tup xs)] = some (false, .bl true) := rfl
theorem vi_tup_lst : vblt (.isi .tup) [(.lst xs)] = some (false, .bl false) := rfl
theorem vi_tup_dct : vblt (.isi .tup) [(.dct ks us)] = some (false, .bl false) := rfl
theorem vi_tup_rep : vblt (.isi .tup) [(.rep p)] = some (false, .bl false) := rfl
theorem vi_lst_non : vblt (.isi .lst) [.non] = some (false, .bl false) := rfl
theorem vi_lst_bl : vblt (.isi .lst) [(.bl b)] = some (false, .bl false) := rfl
theorem vi_lst_int : vblt (.isi .lst) [(.int i)] = some (false, .bl false) := rfl
theorem vi_lst_str : vblt (.isi .lst) [(.str x)] = some (false, .bl false) := rfl
theorem vi_lst_tup : vblt (.isi .lst) [(.tup xs)] = some (false, .bl false) := rfl
theorem vi_lst_lst : vblt (.isi .lst) [(.lst xs)] = some (false, .bl true) := rfl
theorem vi_lst_dct : vblt (.isi .lst) [(.dct ks us)] = some (false, .bl false) := rfl
theorem vi_lst_rep : vblt (.isi .lst) [(.rep p)] = some (false, .bl false) := rfl
theorem vi_dct_non : vblt (.isi .dct) [.non] = some (false, .bl false) := rfl
theorem vi_dct_bl : vblt (.isi .dct) [(.bl b)] = some (false, .bl false) := rfl
theorem vi_dct_int : vblt (.isi .dct) [(.int i)] = some (false, .bl false) := rfl
theorem vi_dct_str : vblt (.isi .dct) [(.str x)] = some (false, .bl false) := rfl
theorem vi_dct_tup : vblt (.isi .dct) [(.tup xs)] = some (false, .bl false) := rfl
theorem vi_dct_lst : vblt (.isi .dct) [(.lst xs)] = some (false, .bl false) := rfl
theorem vi_dct_dct : vblt (.isi .dct) [(.dct ks us)] = some (false, .bl true) := rfl
theorem vi_dct_rep : vblt (.isi .dct) [(.rep p)] = some (false, .bl false) := rfl
theorem vx_t : vidx (.tup xs) (.int i) = vidx.atU xs i := rfl
theorem vx_l : vidx (.lst xs) (.int i) = vidx.atU xs i := rfl
theorem vx_ds : vidx (.dct ks us) (.str x) = getU ks us (.inr x) := rfl
theorem vx_di : vidx (.dct ks us) (.int i) = getU ks us (.inl i) := rfl
theorem vs_tnn : vsl (.tup xs) .non .non = some (false, .tup (cutD xs none none)) := rfl
theorem vs_lnn : vsl (.lst xs) .non .non = some (true, .lst (cutD xs none none)) := rfl
theorem z_vs_snn {P : _ → Prop} : ZOpP (vsl (.str x) .non .non) P ↔ (x.length ≤ sizeLine) ∧ P (((false, .str ⟨(cutD x.cps.toList none none).toArray⟩) : Bool × U)) := by
  show ZOpP (if _ then some _ else none) P ↔ _
  rw [z_OpP_ite]
theorem vs_tnj : vsl (.tup xs) .non (.int j) = some (false, .tup (cutD xs none (some j))) := rfl
theorem vs_lnj : vsl (.lst xs) .non (.int j) = some (true, .lst (cutD xs none (some j))) := rfl
theorem z_vs_snj {P : _ → Prop} : ZOpP (vsl (.str x) .non (.int j)) P ↔ (x.length ≤ sizeLine) ∧ P (((false, .str ⟨(cutD x.cps.toList none (some j)).toArray⟩) : Bool × U)) := by
  show ZOpP (if _ then some _ else none) P ↔ _
  rw [z_OpP_ite]
theorem vs_tin : vsl (.tup xs) (.int i) .non = some (false, .tup (cutD xs (some i) none)) := rfl
theorem vs_lin : vsl (.lst xs) (.int i) .non = some (true, .lst (cutD xs (some i) none)) := rfl
theorem z_vs_sin {P : _ → Prop} : ZOpP (vsl (.str x) (.int i) .non) P ↔ (x.length ≤ sizeLine) ∧ P (((false, .str ⟨(cutD x.cps.toList (some i) none).toArray⟩) : Bool × U)) := by
  show ZOpP (if _ then some _ else none) P ↔ _
  rw [z_OpP_ite]
theorem vs_tij : vsl (.tup xs) (.int i) (.int j) = some (false, .tup (cutD xs (some i) (some j))) := rfl
theorem vs_lij : vsl (.lst xs) (.int i) (.int j) = some (true, .lst (cutD xs (some i) (some j))) := rfl
theorem z_vs_sij {P : _ → Prop} : ZOpP (vsl (.str x) (.int i) (.int j)) P ↔ (x.length ≤ sizeLine) ∧ P (((false, .str ⟨(cutD x.cps.toList (some i) (some j)).toArray⟩) : Bool × U)) := by
  show ZOpP (if _ then some _ else none) P ↔ _
  rw [z_OpP_ite]
theorem vr_l : vrev (.lst xs) = some (true, .lst xs.reverse) := rfl
theorem vt_n : vtruth .non = some false := rfl
theorem vt_b : vtruth (.bl b) = some b := rfl
theorem vt_i : vtruth (.int i) = some (i != 0) := rfl
theorem z_vt_s {P : _ → Prop} : ZOpP (vtruth (.str x)) P ↔ (x.length ≤ sizeLine) ∧ P (((x.length : Int) != 0)) := by
  show ZOpP (if _ then some _ else none) P ↔ _
  rw [z_OpP_ite]
theorem vt_t : vtruth (.tup xs) = some (!xs.isEmpty) := rfl
theorem vt_l : vtruth (.lst xs) = some (!xs.isEmpty) := rfl
theorem vt_d : vtruth (.dct ks us) = some (!ks.isEmpty) := rfl
theorem vc_lt : vcmp .lt (.int i) (.int j) = some (decide (i < j)) := rfl
theorem vc_le : vcmp .le (.int i) (.int j) = some (decide (i ≤ j)) := rfl
theorem vc_gt : vcmp .gt (.int i) (.int j) = some (decide (j < i)) := rfl
theorem vc_ge : vcmp .ge (.int i) (.int j) = some (decide (j ≤ i)) := rfl
theorem vc_eq : vcmp .eq u v = veq u v := rfl
theorem vc_ne : vcmp .ne u v = (veq u v).map (!·) := rfl
theorem vc_in : vcmp .isin u v = vin u v := rfl
theorem vc_nin : vcmp .notin u v = (vin u v).map (!·) := rfl
theorem vn_l : vin u (.lst xs) = vinP u xs := rfl
theorem vn_t : vin u (.tup xs) = vinP u xs := rfl
theorem vc_is_non : vcmp .isn .non .non = some true := rfl
theorem vc_isn_non : vcmp .isnn .non .non = some false := rfl
theorem vc_is_bl : vcmp .isn (.bl b) .non = some false := rfl
theorem vc_isn_bl : vcmp .isnn (.bl b) .non = some true := rfl
theorem vc_is_int : vcmp .isn (.int i) .non = some false := rfl
theorem vc_isn_int : vcmp .isnn (.int i) .non = some true := rfl
theorem vc_is_str : vcmp .isn (.str x) .non = some false := rfl
theorem vc_isn_str : vcmp .isnn (.str x) .non = some true := rfl
theorem vc_is_tup : vcmp .isn (.tup xs) .non = some false := rfl
theorem vc_isn_tup : vcmp .isnn (.tup xs) .non = some true := rfl
theorem vc_is_lst : vcmp .isn (.lst xs) .non = some false := rfl
theorem vc_isn_lst : vcmp .isnn (.lst xs) .non = some true := rfl
theorem vc_is_dct : vcmp .isn (.dct ks us) .non = some false := rfl
theorem vc_isn_dct : vcmp .isnn (.dct ks us) .non = some true := rfl
theorem vc_is_rep : vcmp .isn (.rep p) .non = some false := rfl
theorem vc_isn_rep : vcmp .isnn (.rep p) .non = some true := rfl
theorem ve_non_non : veq .non .non = some true := rfl
theorem ve_non_bl : veq .non (.bl c) = veqP .non (.bl c) := rfl
theorem ve_non_int : veq .non (.int j) = some false := rfl
theorem ve_non_str : veq .non (.str y) = some false := rfl
theorem ve_non_tup : veq .non (.tup ys) = veqP .non (.tup ys) := rfl
theorem ve_non_lst : veq .non (.lst ys) = veqP .non (.lst ys) := rfl
theorem ve_bl_non : veq (.bl b) .non = veqP (.bl b) .non := rfl
theorem ve_bl_bl : veq (.bl b) (.bl c) = some (b == c) := rfl
theorem ve_bl_int : veq (.bl b) (.int j) = veqP (.bl b) (.int j) := rfl
theorem ve_bl_str : veq (.bl b) (.str y) = veqP (.bl b) (.str y) := rfl
theorem ve_bl_tup : veq (.bl b) (.tup ys) = veqP (.bl b) (.tup ys) := rfl
theorem ve_bl_lst : veq (.bl b) (.lst ys) = veqP (.bl b) (.lst ys) := rfl
theorem ve_int_non : veq (.int i) .non = some false := rfl
theorem ve_int_bl : veq (.int i) (.bl c) = veqP (.int i) (.bl c) := rfl
theorem ve_int_int : veq (.int i) (.int j) = some (decide (i = j)) := rfl
theorem ve_int_str : veq (.int i) (.str y) = veqP (.int i) (.str y) := rfl
theorem ve_int_tup : veq (.int i) (.tup ys) = veqP (.int i) (.tup ys) := rfl
theorem ve_int_lst : veq (.int i) (.lst ys) = veqP (.int i) (.lst ys) := rfl
theorem ve_str_non : veq (.str x) .non = some false := rfl
theorem ve_str_bl : veq (.str x) (.bl c) = veqP (.str x) (.bl c) := rfl
theorem ve_str_int : veq (.str x) (.int j) = veqP (.str x) (.int j) := rfl
theorem ve_str_str : veq (.str x) (.str y) = some (decide (x = y)) := rfl
theorem ve_str_tup : veq (.str x) (.tup ys) = veqP (.str x) (.tup ys) := rfl
theorem ve_str_lst : veq (.str x) (.lst ys) = veqP (.str x) (.lst ys) := rfl
theorem ve_tup_non : veq (.tup xs) .non = veqP (.tup xs) .non := rfl
theorem ve_tup_bl : veq (.tup xs) (.bl c) = veqP (.tup xs) (.bl c) := rfl
theorem ve_tup_int : veq (.tup xs) (.int j) = veqP (.tup xs) (.int j) := rfl
theorem ve_tup_str : veq (.tup xs) (.str y) = veqP (.tup xs) (.str y) := rfl
theorem ve_tup_tup : veq (.tup xs) (.tup ys) = veqP (.tup xs) (.tup ys) := rfl
theorem ve_tup_lst : veq (.tup xs) (.lst ys) = veqP (.tup xs) (.lst ys) := rfl
theorem ve_lst_non : veq (.lst xs) .non = veqP (.lst xs) .non := rfl
theorem ve_lst_bl : veq (.lst xs) (.bl c) = veqP (.lst xs) (.bl c) := rfl
theorem ve_lst_int : veq (.lst xs) (.int j) = veqP (.lst xs) (.int j) := rfl
theorem ve_lst_str : veq (.lst xs) (.str y) = veqP (.lst xs) (.str y) := rfl
theorem ve_lst_tup : veq (.lst xs) (.tup ys) = veqP (.lst xs) (.tup ys) := rfl
theorem ve_lst_lst : veq (.lst xs) (.lst ys) = veqP (.lst xs) (.lst ys) := rfl
theorem ve_rep_str : veq (.rep p) (.str x) = some (decide (p.shown = x)) := rfl
theorem z_vm_app {P : _ → Prop} : ZOpP (vmeth .append xs [u]) P ↔ (xs.length < sizeLine) ∧ P (((.non, xs ++ [u]) : U × List U)) := by
  show ZOpP (if _ then some _ else none) P ↔ _
  rw [z_OpP_ite]
theorem z_vm_ext {P : _ → Prop} : ZOpP (vmeth .extend xs [.lst ys]) P ↔ (xs.length + ys.length ≤ sizeLine) ∧ P (((.non, xs ++ ys) : U × List U)) := by
  show ZOpP (if _ then some _ else none) P ↔ _
  rw [z_OpP_ite]
theorem z_vm_ins {P : _ → Prop} : ZOpP (vmeth .insert xs [.int i, u]) P ↔ ((decide (xs.length < sizeLine) && (decide (0 ≤ i) && decide (i < 2 ^ 63))) = true) ∧ P (((.non, xs.take i.toNat ++ [u] ++ xs.drop i.toNat) : U × List U)) := by
  show ZOpP (if _ then some _ else none) P ↔ _
  rw [z_OpP_ite]
theorem vsm_join : vsm .join x [u] = vjoin x u := rfl
theorem z_vsm_split {P : _ → Prop} : ZOpP (vsm .split x [.str y]) P ↔ ((y.length == 0) = false ∧ x.length + 2 ≤ sizeLine) ∧ P (((true, .lst ((Txt.split x y).map .str)) : Bool × U)) := by
  show ZOpP (if _ then some _ else none) P ↔ _
  rw [z_OpP_ite]
theorem z_vsm_upper {P : _ → Prop} : ZOpP (vsm .upper x []) P ↔ (x.length ≤ 5592405) ∧ P (((false, .str (Txt.upper x)) : Bool × U)) := by
  show ZOpP (if _ then some _ else none) P ↔ _
  rw [z_OpP_ite]
theorem vw_l : vset (.lst xs) (.int i) v = (L2.ixN xs.length i).map fun j => .lst (xs.set j v) := rfl
theorem sq_t : vseq (.tup xs) = some xs := rfl
theorem sq_l : vseq (.lst xs) = some xs := rfl
theorem sr_t : vsrc .plain [.tup xs] = some xs := rfl
theorem sr_l : vsrc .plain [.lst xs] = some xs := rfl
theorem sr_s : vsrc .plain [.str x] = some (signsU x) := rfl
theorem z_sr_r1 {P : _ → Prop} : ZOpP (vsrc .range1 [.int i]) P ↔ (big62 i = true) ∧ P (rangeU 0 1 i.toNat) := by
  show ZOpP (if _ then some _ else none) P ↔ _
  rw [z_OpP_ite]
theorem z_sr_r2 {P : _ → Prop} : ZOpP (vsrc .range2 [.int i, .int j]) P ↔ ((big62 i && big62 j) = true) ∧ P (rangeU i 1 (j - i).toNat) := by
  show ZOpP (if _ then some _ else none) P ↔ _
  rw [z_OpP_ite]
theorem z_sr_r3 {P : _ → Prop} : ZOpP (vsrc .range3 [.int i, .int j, .int (-1)]) P ↔ (((big62 i && big62 j) && decide ((-1 : Int) = -1)) = true) ∧ P (rangeU i (-1) (i - j).toNat) := by
  show ZOpP (if _ then some _ else none) P ↔ _
  rw [z_OpP_ite]
theorem sr_et : vsrc .enum [.tup xs] = some (numU 0 xs) := rfl
theorem sr_el : vsrc .enum [.lst xs] = some (numU 0 xs) := rfl
theorem sr_ztt : vsrc .zip [.tup xs, .tup ys] = some (pairU xs ys) := rfl
theorem sr_ztl : vsrc .zip [.tup xs, .lst ys] = some (pairU xs ys) := rfl
theorem sr_zlt : vsrc .zip [.lst xs, .tup ys] = some (pairU xs ys) := rfl
theorem sr_zll : vsrc .zip [.lst xs, .lst ys] = some (pairU xs ys) := rfl
end
theorem av_var (i : Nat) : asVar (.var i) = some i := rfl
theorem z_B_any {σ : Type} {e : E} {r : VEnv → σ → VR σ (Bool × U)} {env : VEnv} {s : σ} {P : BV → VEnv → σ → Prop} : ZVd (borrow e r env s) P ↔ match asVar e with
    | some i => ZSlP env[i]? fun _ _ => P (.var i) env s
    | none => ZVd (r env s) fun x e1 s1 => P (.val x.1 x.2) e1 s1 := by
  split
  · rename_i h; cases asVar_eq h; exact z_B_var
  · rename_i h; exact z_B_else h
section
variable {σ : Type} {F : Nat → List U → σ → FR σ} {G : Nat → Option U} {env : VEnv} {s : σ} {P : Bool × U → VEnv → σ → Prop} {PS : List (Bool × U) → VEnv → σ → Prop} {PB : List BV → VEnv → σ → Prop} {PT' : Bool → VEnv → σ → Prop} {PU : Unit → VEnv → σ → Prop} {PO' : VOut → VEnv → σ → Prop}
theorem z_V_var {i : Nat} : ZVd (vE F G (.var i) env s) P ↔ ZSlP env[i]? fun _ u => P (false, u) (env.set i (some (false, u))) s := by
  rw [vE]
  rcases h : env[i]? with _ | _ | ⟨o, u⟩ <;> exact Iff.rfl
theorem z_V_cI {i : Int} : ZVd (vE F G (.cI i) env s) P ↔ P (false, .int i) env s := by rw [vE]; exact Iff.rfl
theorem z_V_cB {i : Bool} : ZVd (vE F G (.cB i) env s) P ↔ P (false, .bl i) env s := by rw [vE]; exact Iff.rfl
theorem z_V_cS {i : Str} : ZVd (vE F G (.cS i) env s) P ↔ P (false, .str i) env s := by rw [vE]; exact Iff.rfl
theorem z_V_cN : ZVd (vE F G .cN env s) P ↔ P (false, .non) env s := by rw [vE]; exact Iff.rfl
theorem z_V_gcon {i : Nat} : ZVd (vE F G (.gcon i) env s) P ↔ ZOpP (G i) fun u => P (false, u) env s := by rw [vE]; cases G i <;> exact Iff.rfl
theorem z_Vd_congr {σ α : Type} {r : VR σ α} {P Q : α → VEnv → σ → Prop} (h : ∀ a e s, P a e s ↔ Q a e s) : ZVd r P ↔ ZVd r Q := ⟨fun z => z.mono fun a e s => (h a e s).mp, fun z => z.mono fun a e s => (h a e s).mpr⟩
theorem z_V_bin {op : Bop} {a b : E} : ZVd (vE F G (.bin op a b) env s) P ↔ ZVd (borrow a (vE F G a) env s) fun x e1 s1 => ZVd (borrow b (vE F G b) e1 s1) fun y e2 s2 => ZOpP (x.get e2) fun u => ZOpP (y.get e2) fun v => ZOpP (vbin op u v) fun w => P w e2 s2 := by
  rw [vE]; simp only [z_Vd_bind]; exact z_Vd_congr fun x e1 s1 => z_Vd_congr fun y e2 s2 => by cases x.get e2 <;> cases y.get e2 <;> first | exact Iff.rfl | (simp only [z_OpP_some, z_Vd_lift, z_OpP_map])
theorem z_V_gkd {i : Nat} {a : E} : ZVd (vE F G (.gkd i a) env s) P ↔ ZVd (borrow a (vE F G a) env s) fun x e1 s1 => ZOpP (x.get e1) fun u => ZOpP (gkU (G i) u) fun w => P (false, w) e1 s1 := by
  rw [vE]; simp only [z_Vd_bind]; exact z_Vd_congr fun x e1 s1 => by cases x.get e1 <;> first | exact Iff.rfl | (simp only [z_OpP_some, z_Vd_lift, z_OpP_map])
theorem z_V_ixl {ys : List Str} {a : E} : ZVd (vE F G (.ixl ys a) env s) P ↔ ZVd (borrow a (vE F G a) env s) fun x e1 s1 => ZOpP (x.get e1) fun u => ZOpP (ixU ys u) fun w => P (false, w) e1 s1 := by
  rw [vE]; simp only [z_Vd_bind]; exact z_Vd_congr fun x e1 s1 => by cases x.get e1 <;> first | exact Iff.rfl | (simp only [z_OpP_some, z_Vd_lift, z_OpP_map])
theorem z_V_ent {ts : List Str} : ZVd (vE F G (.ent ts) env s) P ↔ P (false, .ent ts) env s := by rw [vE]; exact Iff.rfl
theorem z_V_ixm {o a : E} : ZVd (vE F G (.ixm o a) env s) P ↔ ZVd (borrow o (vE F G o) env s) fun x e1 s1 => ZOpP (x.get e1) fun u => isRowU u = true ∧ ZVd (borrow a (vE F G a) e1 s1) fun y e2 s2 => ZOpP (x.get e2) fun u => ZOpP (y.get e2) fun v => ZOpP (ixmU u v) fun w => P (false, w) e2 s2 := by
  rw [vE]; simp only [z_Vd_bind]
  refine z_Vd_congr fun x e1 s1 => ?_
  cases x.get e1 with
  | none => exact Iff.rfl
  | some u =>
    simp only [z_OpP_some, z_Vd_iteB, z_Vd_bind]
    exact and_congr_right fun _ => z_Vd_congr fun y e2 s2 => by cases x.get e2 <;> cases y.get e2 <;> first | exact Iff.rfl | (simp only [z_OpP_some, z_Vd_lift, z_OpP_map])
theorem z_V_stup {fs : List Bool} {es : Es} : ZVd (vE F G (.stup fs es) env s) P ↔ ZVd (vSts F G fs es env s) fun us e1 s1 => us.length ≤ sizeLine ∧ P (false, .tup us) e1 s1 := by
  rw [vE]; simp only [z_Vd_bind, z_Vd_iteB, z_Vd_ok]
theorem z_V_stN {PU : List U → VEnv → σ → Prop} : ZVd (vSts F G [] .nil env s) PU ↔ PU [] env s := by rw [vSts]; exact Iff.rfl
theorem z_V_stF {fs : List Bool} {e : E} {es : Es} {PU : List U → VEnv → σ → Prop} : ZVd (vSts F G (false :: fs) (.cons e es) env s) PU ↔ ZVd (vE F G e env s) fun x e1 s1 => flat x.2 = true ∧ ZVd (vSts F G fs es e1 s1) fun us e2 s2 => PU (x.2 :: us) e2 s2 := by
  rw [vSts]; simp only [z_Vd_bind, z_Vd_iteB, z_Vd_ok]
theorem z_V_stT {fs : List Bool} {e : E} {es : Es} {PU : List U → VEnv → σ → Prop} : ZVd (vSts F G (true :: fs) (.cons e es) env s) PU ↔ ZVd (vE F G e env s) fun x e1 s1 => ZOpP (asT x.2) fun xs => ZVd (vSts F G fs es e1 s1) fun us e2 s2 => PU (xs ++ us) e2 s2 := by
  rw [vSts]; simp only [z_Vd_bind]
  refine z_Vd_congr fun x e1 s1 => ?_
  rcases x with ⟨o, u⟩
  cases u <;> first | exact Iff.rfl | (simp only [asT, z_OpP_some, z_Vd_bind, z_Vd_ok])
theorem z_V_neg {a : E} : ZVd (vE F G (.neg a) env s) P ↔ ZVd (vE F G a env s) fun x e1 s1 => ZIntP x.2 fun i => P (false, .int (-i)) e1 s1 := by
  rw [vE]; simp only [z_Vd_bind]
  constructor <;> (intro h; refine h.mono fun x e1 s1 h => ?_; revert h; rcases x with ⟨o, u⟩; cases u <;> exact fun h => h)
theorem z_V_notE {a : E} : ZVd (vE F G (.notE a) env s) P ↔ ZVd (borrow a (vE F G a) env s) fun x e1 s1 => ZOpP (x.get e1) fun u => ZOpP (vtruth u) fun b => P (false, .bl (!b)) e1 s1 := by
  rw [vE]; simp only [z_Vd_bind]; exact z_Vd_congr fun x e1 s1 => by cases x.get e1 <;> first | exact Iff.rfl | (simp only [z_OpP_some, z_Vd_lift, z_OpP_map])
theorem z_V_and1 {a : E} : ZVd (vE F G (.and1 a) env s) P ↔ ZVd (vE F G a env s) P := by rw [vE]
theorem z_V_or1 {a : E} : ZVd (vE F G (.or1 a) env s) P ↔ ZVd (vE F G a env s) P := by rw [vE]
theorem z_V_and2 {a r : E} : ZVd (vE F G (.and2 a r) env s) P ↔ ZVd (vE F G a env s) fun x e1 s1 => ZOpP (vtruth x.2) fun b => if b = true then ZVd (vE F G r e1 s1) P else P x e1 s1 := by
  rw [vE]; simp only [z_Vd_bind]
  constructor <;> (intro h; refine h.mono fun x e1 s1 h => ?_; revert h; rcases vtruth x.2 with _ | _ | _ <;> exact fun h => h)
theorem z_V_or2 {a r : E} : ZVd (vE F G (.or2 a r) env s) P ↔ ZVd (vE F G a env s) fun x e1 s1 => ZOpP (vtruth x.2) fun b => if b = true then P x e1 s1 else ZVd (vE F G r e1 s1) P := by
  rw [vE]; simp only [z_Vd_bind]
  constructor <;> (intro h; refine h.mono fun x e1 s1 h => ?_; revert h; rcases vtruth x.2 with _ | _ | _ <;> exact fun h => h)
theorem z_V_cmp {op : Cop} {a b : E} : ZVd (vE F G (.cmp op a b) env s) P ↔ ZVd (borrow a (vE F G a) env s) fun x e1 s1 => ZVd (borrow b (vE F G b) e1 s1) fun y e2 s2 => ZOpP (x.get e2) fun u => ZOpP (y.get e2) fun v => ZOpP (vcmp op u v) fun b => P (false, .bl b) e2 s2 := by
  rw [vE]; simp only [z_Vd_bind]; exact z_Vd_congr fun x e1 s1 => z_Vd_congr fun y e2 s2 => by cases x.get e2 <;> cases y.get e2 <;> first | exact Iff.rfl | (simp only [z_OpP_some, z_Vd_lift, z_OpP_map])
theorem z_V_cmp2 {op op' : Cop} {a b c : E} : ZVd (vE F G (.cmp2 op op' a b c) env s) P ↔ ZVd (borrow a (vE F G a) env s) fun x e1 s1 => ZVd (vE F G b e1 s1) fun y e2 s2 => ZOpP (x.get e2) fun u => ZOpP (vcmp op u y.2) fun k => if k = true then ZVd (borrow c (vE F G c) e2 s2) fun z e3 s3 => ZOpP (z.get e3) fun w => ZOpP (vcmp op' y.2 w) fun b => P (false, .bl b) e3 s3 else P (false, .bl false) e2 s2 := by
  rw [vE]; simp only [z_Vd_bind]
  exact z_Vd_congr fun x e1 s1 => z_Vd_congr fun y e2 s2 => by
    cases x.get e2 with
    | none => exact Iff.rfl
    | some u =>
      simp only [z_OpP_some]
      rcases vcmp op u y.2 with _ | _ | _
      · exact Iff.rfl
      · exact Iff.rfl
      · simp only [z_Vd_bind, z_OpP_some, if_true]
        exact z_Vd_congr fun z e3 s3 => by cases z.get e3 <;> first | exact Iff.rfl | (simp only [z_OpP_some, z_Vd_lift, z_OpP_map])
theorem z_V_ife {c : T} {a b : E} : ZVd (vE F G (.ife c a b) env s) P ↔ ZVd (vT F G c env s) fun k e1 s1 => if k = true then ZVd (vE F G a e1 s1) P else ZVd (vE F G b e1 s1) P := by
  rw [vE]; simp only [z_Vd_bind, z_Vd_ite]
theorem z_V_tup {es : Es} : ZVd (vE F G (.tup es) env s) P ↔ ZVd (vEs F G es env s) fun us e1 s1 => us.length ≤ sizeLine ∧ P (false, .tup (us.map (·.2))) e1 s1 := by
  rw [vE]; simp only [z_Vd_bind, z_Vd_iteB, z_Vd_ok]
theorem z_V_lst {es : Es} : ZVd (vE F G (.lst es) env s) P ↔ ZVd (vEs F G es env s) fun us e1 s1 => us.length ≤ sizeLine ∧ P (true, .lst (us.map (·.2))) e1 s1 := by
  rw [vE]; simp only [z_Vd_bind, z_Vd_iteB, z_Vd_ok]
theorem z_V_dic {ks : List L2.Key} {es : Es} : ZVd (vE F G (.dic ks es) env s) P ↔ ZVd (vEs F G es env s) fun us e1 s1 => (ks.length = us.length ∧ (ks.length ≤ 15 ∧ ks.Nodup)) ∧ P (true, .dct ks (us.map (·.2))) e1 s1 := by
  rw [vE]; simp only [z_Vd_bind, z_Vd_iteB, z_Vd_ok]
theorem z_V_call {f : Nat} {es : Es} : ZVd (vE F G (.call f es) env s) P ↔ ZVd (vBs F G es env s) fun bs e1 s1 => ZOpP (getAll e1 bs) fun us => ZFd (F f us s1) fun o u s2 => P (o, u) (endC e1 bs o u) s2 := by
  rw [vE]; simp only [z_Vd_bind]
  exact z_Vd_congr fun bs e1 s1 => by cases getAll e1 bs <;> first | exact Iff.rfl | (simp only [z_OpP_some, z_Vd_ofF])
theorem z_V_callK {f : Nat} {es ks : Es} {g : List Nat} : ZVd (vE F G (.callK f es ks g) env s) P ↔ ZVd (vBs F G es env s) fun bs e1 s1 => ZVd (vBs F G ks e1 s1) fun cs e2 s2 => ZOpP (getAll e2 (bs ++ cs)) fun us => ZFd (F f (g.map fun j => us.getD j .non) s2) fun o u s3 => P (o, u) (endC e2 (bs ++ cs) o u) s3 := by
  rw [vE]; simp only [z_Vd_bind]
  exact z_Vd_congr fun bs e1 s1 => z_Vd_congr fun cs e2 s2 => by cases getAll e2 (bs ++ cs) <;> first | exact Iff.rfl | (simp only [z_OpP_some, z_Vd_ofF])
theorem z_V_blt {b : Blt} {es : Es} : ZVd (vE F G (.blt b es) env s) P ↔ ZVd (vBs F G es env s) fun bs e1 s1 => ZOpP (getAll e1 bs) fun us => ZOpP (vblt b us) fun w => P w e1 s1 := by
  rw [vE]; simp only [z_Vd_bind]
  constructor <;> (intro h; refine h.mono fun x e1 s1 h => ?_; revert h; cases getAll e1 x <;> first | exact fun h => h | (simp only [z_Vd_lift, z_OpP_some]; exact fun h => h))
theorem z_V_meth {m : Mt} {i : Nat} {es : Es} : ZVd (vE F G (.meth m (.var i) es) env s) P ↔ ZOwP env[i]? fun c => ZLstP c fun _ => ZVd (vEs F G es env s) fun us e1 s1 => ZOwP e1[i]? fun c => ZLstP c fun xs => ZOpP (vmeth m xs (us.map (·.2))) fun w => P (false, w.1) (e1.set i (some (true, .lst w.2))) s1 := by
  rw [vE]
  simp only [asVar]
  rcases h0 : env[i]? with _ | _ | ⟨_ | _, _ | _ | _ | _ | _ | _ | _ | _ | _⟩ <;> first | exact Iff.rfl | skip
  simp only [z_OwP_some, z_LstP_lst, z_Vd_bind]
  constructor
  all_goals
    intro h; refine h.mono fun us e1 s1 h => ?_; revert h
    rcases h1 : e1[i]? with _ | _ | ⟨_ | _, _ | _ | _ | _ | _ | xs | _ | _ | _ | _⟩ <;> first | exact fun h => h | skip
    simp only [z_OwP_some, z_LstP_lst]
    cases vmeth m xs (us.map (·.2)) <;> exact fun h => h
theorem z_V_smeth {m : Tm} {o : E} {es : Es} : ZVd (vE F G (.smeth m o es) env s) P ↔ ZVd (borrow o (vE F G o) env s) fun x e1 s1 => ZOpP (x.get e1) fun u => ZOpP (asS u) fun a => ZVd (vBs F G es e1 s1) fun bs e2 s2 => ZOpP (getAll e2 bs) fun us => ZOpP (vsm m a us) fun w => P w e2 s2 := by
  rw [vE]; simp only [z_Vd_bind]
  refine z_Vd_congr fun x e1 s1 => ?_
  rcases x.get e1 with _ | (_ | _ | _ | a | _ | _ | _ | _ | _ | _) <;> first | exact Iff.rfl | skip
  simp only [z_OpP_some, asS, z_Vd_bind]
  exact z_Vd_congr fun bs e2 s2 => by cases getAll e2 bs <;> first | exact Iff.rfl | (simp only [z_OpP_some, z_Vd_lift])
theorem z_V_idx {a b : E} : ZVd (vE F G (.idx a b) env s) P ↔ ZVd (borrow a (vE F G a) env s) fun x e1 s1 => ZVd (borrow b (vE F G b) e1 s1) fun y e2 s2 => ZOpP (x.get e2) fun u => ZOpP (y.get e2) fun v => ZOpP (vidx u v) fun w => P (false, w) e2 s2 := by
  rw [vE]; simp only [z_Vd_bind]; exact z_Vd_congr fun x e1 s1 => z_Vd_congr fun y e2 s2 => by cases x.get e2 <;> cases y.get e2 <;> first | exact Iff.rfl | (simp only [z_OpP_some, z_Vd_lift, z_OpP_map])
theorem z_V_sl {a b c : E} : ZVd (vE F G (.sl a b c) env s) P ↔ ZVd (borrow a (vE F G a) env s) fun x e1 s1 => ZVd (vE F G b e1 s1) fun y e2 s2 => ZVd (vE F G c e2 s2) fun z e3 s3 => ZOpP (x.get e3) fun u => ZOpP (vsl u y.2 z.2) fun w => P w e3 s3 := by
  rw [vE]; simp only [z_Vd_bind]; exact z_Vd_congr fun x e1 s1 => z_Vd_congr fun y e2 s2 => z_Vd_congr fun z e3 s3 => by cases x.get e3 <;> first | exact Iff.rfl | (simp only [z_OpP_some, z_Vd_lift, z_OpP_map])
theorem z_V_rev {a : E} : ZVd (vE F G (.rev a) env s) P ↔ ZVd (borrow a (vE F G a) env s) fun x e1 s1 => ZOpP (x.get e1) fun u => ZOpP (vrev u) fun w => P w e1 s1 := by
  rw [vE]; simp only [z_Vd_bind]; exact z_Vd_congr fun x e1 s1 => by cases x.get e1 <;> first | exact Iff.rfl | (simp only [z_OpP_some, z_Vd_lift, z_OpP_map])
/-- a comprehension's turn -/
def lcS (F : Nat → List U → σ → FR σ) (G : Nat → Option U) (own : List Nat) (elt : E) (t : Tg) (c : T) (x : U) (e2 : VEnv) (s2 : σ) : VR σ (Option U) :=
  (vA F G t (false, x) (wipeV e2 own) s2).bind fun _ e3 s3 => (vT F G c e3 s3).bind fun b e4 s4 => if b then (vE F G elt e4 s4).bind fun y e5 s5 => .ok (some y.2) e5 s5 else .ok none e4 s4
theorem z_V_lc {own : List Nat} {elt : E} {t : Tg} {k : ItK} {es : Es} {c : T} : ZVd (vE F G (.lc own elt t k es c) env s) P ↔ ZVd (vEs F G es env s) fun us e1 s1 => tgOwn t own = true ∧ ZOpP (vsrc k (us.map (·.2))) fun items =>
    ZVd (vlcL (lcS F G own elt t c) items [] e1 s1) fun acc e6 s6 => P (true, .lst acc) (restV e1 own e6) s6 := by
  rw [vE]; simp only [z_Vd_bind, z_Vd_iteB]
  constructor
  all_goals
    intro h; refine h.mono fun us e1 s1 ⟨h0, h⟩ => ⟨h0, ?_⟩; revert h
    cases vsrc k (us.map (·.2)) <;> first | exact fun h => h | (simp only [z_Vd_bind, z_Vd_ok, z_OpP_some]; exact fun h => h)
theorem z_lcS_V {own : List Nat} {elt : E} {t : Tg} {c : T} {x : U} {P : Option U → VEnv → σ → Prop} : ZVd (lcS F G own elt t c x env s) P ↔ ZVd (vA F G t (false, x) (wipeV env own) s) fun _ e3 s3 => ZVd (vT F G c e3 s3) fun b e4 s4 => if b = true then ZVd (vE F G elt e4 s4) fun y e5 s5 => P (some y.2) e5 s5 else P none e4 s4 := by
  unfold lcS; simp only [z_Vd_bind, z_Vd_ite, z_Vd_ok]
theorem z_V_nil : ZVd (vEs F G .nil env s) PS ↔ PS [] env s := by rw [vEs]; exact Iff.rfl
theorem z_V_cons {e : E} {es : Es} : ZVd (vEs F G (.cons e es) env s) PS ↔ ZVd (vE F G e env s) fun d e1 s1 => ZVd (vEs F G es e1 s1) fun ds e2 s2 => PS (d :: ds) e2 s2 := by rw [vEs]; simp only [z_Vd_bind, z_Vd_ok]
theorem z_V_bnil : ZVd (vBs F G .nil env s) PB ↔ PB [] env s := by rw [vBs]; exact Iff.rfl
theorem z_V_bcons {e : E} {es : Es} : ZVd (vBs F G (.cons e es) env s) PB ↔ ZVd (borrow e (vE F G e) env s) fun d e1 s1 => ZVd (vBs F G es e1 s1) fun ds e2 s2 => PB (d :: ds) e2 s2 := by rw [vBs]; simp only [z_Vd_bind, z_Vd_ok]
theorem z_ga_nil {e : VEnv} {P : List U → Prop} : ZOpP (getAll e []) P ↔ P [] := Iff.rfl
theorem z_ga_cons {e : VEnv} {b : BV} {bs : List BV} {P : List U → Prop} : ZOpP (getAll e (b :: bs)) P ↔ ZOpP (b.get e) fun u => ZOpP (getAll e bs) fun us => P (u :: us) := by
  rw [getAll]; cases b.get e <;> cases getAll e bs <;> exact Iff.rfl
theorem z_V_val {a : E} : ZVd (vT F G (.val a) env s) PT' ↔ ZVd (borrow a (vE F G a) env s) fun x e1 s1 => ZOpP (x.get e1) fun u => ZOpP (vtruth u) fun b => PT' b e1 s1 := by rw [vT]; simp only [z_Vd_bind]; exact z_Vd_congr fun x e1 s1 => by cases x.get e1 <;> first | exact Iff.rfl | (simp only [z_OpP_some, z_Vd_lift, z_OpP_map])
theorem z_V_vc {op : Cop} {a b : E} : ZVd (vT F G (.vc op a b) env s) PT' ↔ ZVd (borrow a (vE F G a) env s) fun x e1 s1 => ZVd (borrow b (vE F G b) e1 s1) fun y e2 s2 => ZOpP (x.get e2) fun u => ZOpP (y.get e2) fun v => ZOpP (vcmp op u v) fun b => PT' b e2 s2 := by
  rw [vT]; simp only [z_Vd_bind]; exact z_Vd_congr fun x e1 s1 => z_Vd_congr fun y e2 s2 => by cases x.get e2 <;> cases y.get e2 <;> first | exact Iff.rfl | (simp only [z_OpP_some, z_Vd_lift, z_OpP_map])
theorem z_V_vc2 {op op' : Cop} {a b c : E} : ZVd (vT F G (.vc2 op op' a b c) env s) PT' ↔ ZVd (borrow a (vE F G a) env s) fun x e1 s1 => ZVd (vE F G b e1 s1) fun y e2 s2 => ZOpP (x.get e2) fun u => ZOpP (vcmp op u y.2) fun k => if k = true then ZVd (borrow c (vE F G c) e2 s2) fun z e3 s3 => ZOpP (z.get e3) fun w => ZOpP (vcmp op' y.2 w) fun b => PT' b e3 s3 else PT' false e2 s2 := by
  rw [vT]; simp only [z_Vd_bind]
  exact z_Vd_congr fun x e1 s1 => z_Vd_congr fun y e2 s2 => by
    cases x.get e2 with
    | none => exact Iff.rfl
    | some u =>
      simp only [z_OpP_some]
      rcases vcmp op u y.2 with _ | _ | _
      · exact Iff.rfl
      · exact Iff.rfl
      · simp only [z_Vd_bind, z_OpP_some, if_true]
        exact z_Vd_congr fun z e3 s3 => by cases z.get e3 <;> first | exact Iff.rfl | (simp only [z_OpP_some, z_Vd_lift, z_OpP_map])
theorem z_V_not {t : T} : ZVd (vT F G (.not t) env s) PT' ↔ ZVd (vT F G t env s) fun b e1 s1 => PT' (!b) e1 s1 := by rw [vT]; simp only [z_Vd_bind, z_Vd_ok]
theorem z_V_tand1 {t : T} : ZVd (vT F G (.and1 t) env s) PT' ↔ ZVd (vT F G t env s) PT' := by rw [vT]
theorem z_V_tor1 {t : T} : ZVd (vT F G (.or1 t) env s) PT' ↔ ZVd (vT F G t env s) PT' := by rw [vT]
theorem z_V_tand2 {t r : T} : ZVd (vT F G (.and2 t r) env s) PT' ↔ ZVd (vT F G t env s) fun b e1 s1 => if b = true then ZVd (vT F G r e1 s1) PT' else PT' false e1 s1 := by rw [vT]; simp only [z_Vd_bind, z_Vd_ite, z_Vd_ok]
theorem z_V_tor2 {t r : T} : ZVd (vT F G (.or2 t r) env s) PT' ↔ ZVd (vT F G t env s) fun b e1 s1 => if b = true then PT' true e1 s1 else ZVd (vT F G r e1 s1) PT' := by rw [vT]; simp only [z_Vd_bind, z_Vd_ite, z_Vd_ok]
theorem z_V_yes : ZVd (vT F G .yes env s) PT' ↔ PT' true env s := by rw [vT]; exact Iff.rfl
theorem z_V_name {i : Nat} {d : Bool × U} : ZVd (vA F G (.name i) d env s) PU ↔ PU () (env.set i (some d)) s := by rw [vA]; exact Iff.rfl
theorem z_V_tgt {ts : Tgs} {d : Bool × U} : ZVd (vA F G (.tup ts) d env s) PU ↔ ZOpP (vseq d.2) fun ds => ZVd (vAs F G ts ds env s) PU := by rw [vA]; cases vseq d.2 <;> exact Iff.rfl
theorem z_V_tgsub {j : Nat} {i : E} {d : Bool × U} : ZVd (vA F G (.sub (.var j) i) d env s) PU ↔ ZOwP env[j]? fun _ => ZVd (vE F G i env s) fun y e1 s1 => ZOwP e1[j]? fun c => ZOpP (vset c y.2 d.2) fun c' => PU () (e1.set j (some (true, c'))) s1 := by
  rw [vA]
  simp only [asVar]
  rcases h0 : env[j]? with _ | _ | ⟨_ | _, c0⟩ <;> first | exact Iff.rfl | skip
  simp only [z_OwP_some, z_Vd_bind]
  constructor
  all_goals
    intro h; refine h.mono fun y e1 s1 h => ?_; revert h
    rcases h1 : e1[j]? with _ | _ | ⟨_ | _, c⟩ <;> first | exact fun h => h | skip
    simp only [z_OwP_some]
    cases vset c y.2 d.2 <;> exact fun h => h
theorem z_V_tgnil : ZVd (vAs F G .nil [] env s) PU ↔ PU () env s := by rw [vAs]; exact Iff.rfl
theorem z_V_tgcons {t : Tg} {ts : Tgs} {d : U} {ds : List U} : ZVd (vAs F G (.cons t ts) (d :: ds) env s) PU ↔ ZVd (vA F G t (false, d) env s) fun _ e1 s1 => ZVd (vAs F G ts ds e1 s1) PU := by rw [vAs]; simp only [z_Vd_bind]
theorem z_V_asg {t : Tg} {e : E} : ZVd (vS F G (.asg t e) env s) PO' ↔ ZVd (vE F G e env s) fun d e1 s1 => ZVd (vA F G t d e1 s1) fun _ e2 s2 => PO' .next e2 s2 := by rw [vS]; simp only [z_Vd_bind, z_Vd_ok]
theorem z_V_asgC {i : Nat} {own : List Nat} {elt : E} {t : Tg} {k : ItK} {es : Es} {c : T} : ZVd (vS F G (.asgC i own elt t k es c) env s) PO' ↔ ZVd (vE F G (.lc own elt t k es c) env s) fun d e1 s1 => PO' .next (e1.set i (some d)) s1 := by rw [vS]; simp only [z_Vd_bind, z_Vd_ok]
theorem z_V_par {is : List Nat} {es : Es} : ZVd (vS F G (.par is es) env s) PO' ↔ ZVd (vEs F G es env s) fun ds e1 s1 => (ds.length = is.length ∧ is.Nodup) ∧ PO' .next (setAllV e1 is ds) s1 := by rw [vS]; simp only [z_Vd_bind, z_Vd_iteB, z_Vd_ok]
theorem z_V_exp {e : E} : ZVd (vS F G (.exp e) env s) PO' ↔ ZVd (vE F G e env s) fun _ e1 s1 => PO' .next e1 s1 := by rw [vS]; simp only [z_Vd_bind, z_Vd_ok]
theorem z_V_retV {i : Nat} : ZVd (vS F G (.ret (.var i)) env s) PO' ↔ ZSlP env[i]? fun o u => PO' (.ret o u) (env.set i none) s := by
  rw [vS]
  simp only [asVar]
  rcases h : env[i]? with _ | _ | ⟨o, u⟩ <;> exact Iff.rfl
theorem z_V_ret {e : E} (h : asVar e = none) : ZVd (vS F G (.ret e) env s) PO' ↔ ZVd (vE F G e env s) fun d e1 s1 => PO' (.ret d.1 d.2) e1 s1 := by rw [vS, h]; simp only [z_Vd_bind, z_Vd_ok]
theorem z_V_retA {e : E} : ZVd (vS F G (.ret e) env s) PO' ↔ match asVar e with
    | some i => ZSlP env[i]? fun o u => PO' (.ret o u) (env.set i none) s
    | none => ZVd (vE F G e env s) fun d e1 s1 => PO' (.ret d.1 d.2) e1 s1 := by
  split
  · rename_i h; cases asVar_eq h; exact z_V_retV
  · rename_i h; exact z_V_ret h
theorem z_V_retN : ZVd (vS F G .retN env s) PO' ↔ PO' (.ret false .non) env s := by rw [vS]; exact Iff.rfl
theorem z_V_if {c : T} {a b : Ss} : ZVd (vS F G (.ite c a b) env s) PO' ↔ ZVd (vT F G c env s) fun k e1 s1 => if k = true then ZVd (vSs F G a e1 s1) PO' else ZVd (vSs F G b e1 s1) PO' := by rw [vS]; simp only [z_Vd_bind, z_Vd_ite]
/-- a for's turn -/
def forS (F : Nat → List U → σ → FR σ) (G : Nat → Option U) (t : Tg) (body : Ss) (x : U) (e2 : VEnv) (s2 : σ) : VR σ VOut := (vA F G t (false, x) e2 s2).bind fun _ e3 s3 => vSs F G body e3 s3
theorem z_V_for {t : Tg} {k : ItK} {es : Es} {body : Ss} : ZVd (vS F G (.for_ t k es body) env s) PO' ↔ ZVd (vEs F G es env s) fun us e1 s1 => ZOpP (vsrc k (us.map (·.2))) fun items => ZVd (vforL (forS F G t body) items e1 s1) PO' := by
  rw [vS]; simp only [z_Vd_bind]
  constructor
  all_goals
    intro h; refine h.mono fun us e1 s1 h => ?_; revert h
    cases vsrc k (us.map (·.2)) <;> first | exact fun h => h | (simp only [z_OpP_some]; exact fun h => h)
theorem z_forS_V {t : Tg} {body : Ss} {x : U} : ZVd (forS F G t body x env s) PO' ↔ ZVd (vA F G t (false, x) env s) fun _ e3 s3 => ZVd (vSs F G body e3 s3) PO' := by unfold forS; simp only [z_Vd_bind]
theorem z_V_whl {c : T} {body : Ss} : ZVd (vS F G (.whl c body) env s) PO' ↔ ZVd (vwhl (vT F G c) (vSs F G body) whileMost env s) PO' := by rw [vS]
theorem z_V_brk : ZVd (vS F G .brk env s) PO' ↔ PO' .brk env s := by rw [vS]; exact Iff.rfl
theorem z_V_cnt : ZVd (vS F G .cnt env s) PO' ↔ PO' .cnt env s := by rw [vS]; exact Iff.rfl
theorem z_V_pass : ZVd (vS F G .pass env s) PO' ↔ PO' .next env s := by rw [vS]; exact Iff.rfl
theorem z_V_snil : ZVd (vSs F G .nil env s) PO' ↔ PO' .next env s := by rw [vSs]; exact Iff.rfl
def VThen (Q : VEnv → σ → Prop) (PO' : VOut → VEnv → σ → Prop) : VOut → VEnv → σ → Prop
  | .next, e, s => Q e s
  | o, e, s => PO' o e s
theorem VThen_next {Q : VEnv → σ → Prop} : VThen Q PO' .next env s ↔ Q env s := Iff.rfl
theorem VThen_ret {Q : VEnv → σ → Prop} {o : Bool} {d : U} : VThen Q PO' (.ret o d) env s ↔ PO' (.ret o d) env s := Iff.rfl
theorem VThen_brk {Q : VEnv → σ → Prop} : VThen Q PO' .brk env s ↔ PO' .brk env s := Iff.rfl
theorem VThen_cnt {Q : VEnv → σ → Prop} : VThen Q PO' .cnt env s ↔ PO' .cnt env s := Iff.rfl
theorem z_V_scons {x : S} {ss : Ss} : ZVd (vSs F G (.cons x ss) env s) PO' ↔ ZVd (vS F G x env s) (VThen (fun e1 s1 => ZVd (vSs F G ss e1 s1) PO') PO') := by
  rw [vSs]; simp only [z_Vd_bind]
  constructor <;> (intro h; refine h.mono fun o e1 s1 h => ?_; revert h; cases o <;> exact fun h => h)
/-- a statement's end known -/
theorem z_V_step {x : S} {ss : Ss} {I : VEnv → σ → Prop} (h : ZVd (vS F G x env s) (VThen I (fun _ _ _ => False))) (k : ∀ e1 s1, I e1 s1 → ZVd (vSs F G ss e1 s1) PO') : ZVd (vSs F G (.cons x ss) env s) PO' := by
  refine z_V_scons.mpr (h.mono fun o e1 s1 h => ?_)
  cases o <;> first | exact k e1 s1 h | exact h.elim
/-- a statement that may tell at once -/
theorem z_V_stepR {x : S} {ss : Ss} {I : VEnv → σ → Prop} (h : ZVd (vS F G x env s) (VThen I PO')) (k : ∀ e1 s1, I e1 s1 → ZVd (vSs F G ss e1 s1) PO') : ZVd (vSs F G (.cons x ss) env s) PO' := by
  refine z_V_scons.mpr (h.mono fun o e1 s1 h => ?_)
  cases o <;> first | exact k e1 s1 h | exact h
end
section
variable {σ : Type} {step : U → VEnv → σ → VR σ VOut} {P : VOut → VEnv → σ → Prop}
def VTurn (Inv : VEnv → σ → Prop) (P : VOut → VEnv → σ → Prop) : VOut → VEnv → σ → Prop
  | .next, e, s => Inv e s
  | .cnt, e, s => Inv e s
  | .brk, e, s => P .next e s
  | .ret o u, e, s => P (.ret o u) e s
theorem VTurn_next {Inv : VEnv → σ → Prop} {e : VEnv} {s : σ} : VTurn Inv P .next e s ↔ Inv e s := Iff.rfl
theorem VTurn_cnt {Inv : VEnv → σ → Prop} {e : VEnv} {s : σ} : VTurn Inv P .cnt e s ↔ Inv e s := Iff.rfl
theorem VTurn_brk {Inv : VEnv → σ → Prop} {e : VEnv} {s : σ} : VTurn Inv P .brk e s ↔ P .next e s := Iff.rfl
theorem VTurn_ret {Inv : VEnv → σ → Prop} {e : VEnv} {s : σ} {o : Bool} {u : U} : VTurn Inv P (.ret o u) e s ↔ P (.ret o u) e s := Iff.rfl
theorem z_vfor_go (Inv : Nat → VEnv → σ → Prop) : ∀ (rest pre : List U) (e : VEnv) (s : σ), (∀ i x e s, (pre ++ rest)[i]? = some x → Inv i e s → ZVd (step x e s) (VTurn (Inv (i + 1)) P)) → (∀ e s, Inv (pre ++ rest).length e s → P .next e s) → Inv pre.length e s → ZVd (vforL step rest e s) P
  | [], pre, e, s, hs, hd, h => hd e s (by simpa using h)
  | x :: rest, pre, e, s, hs, hd, h => by
    rw [vforL, z_Vd_bind]
    refine (hs pre.length x e s (by simp) h).mono fun o e1 s1 h1 => ?_
    have go : Inv (pre.length + 1) e1 s1 → ZVd (vforL step rest e1 s1) P := fun h2 => z_vfor_go Inv rest (pre ++ [x]) e1 s1 (by simpa using hs) (by simpa using hd) (by simpa using h2)
    cases o with
    | next => exact go h1
    | cnt => exact go h1
    | brk => exact h1
    | ret o u => exact h1
/-- a for by what stays -/
theorem z_vfor_inv {items : List U} {e : VEnv} {s : σ} (Inv : Nat → VEnv → σ → Prop) (h0 : Inv 0 e s) (hs : ∀ i x e s, items[i]? = some x → Inv i e s → ZVd (step x e s) (VTurn (Inv (i + 1)) P)) (hd : ∀ e s, Inv items.length e s → P .next e s) : ZVd (vforL step items e s) P :=
  z_vfor_go Inv items [] e s (by simpa using hs) (by simpa using hd) h0
end
section
variable {σ : Type} {step : U → VEnv → σ → VR σ (Option U)} {P : List U → VEnv → σ → Prop}
/-- a comprehension by what stays -/
theorem z_vlc_go (Inv : Nat → List U → VEnv → σ → Prop) : ∀ (rest pre acc : List U) (e : VEnv) (s : σ), (∀ i x acc e s, (pre ++ rest)[i]? = some x → Inv i acc e s → ZVd (step x e s) fun o e1 s1 => match o with | none => Inv (i + 1) acc e1 s1 | some y => acc.length < sizeLine ∧ Inv (i + 1) (acc ++ [y]) e1 s1) → (∀ acc e s, Inv (pre ++ rest).length acc e s → P acc e s) → Inv pre.length acc e s → ZVd (vlcL step rest acc e s) P
  | [], pre, acc, e, s, hs, hd, h => hd acc e s (by simpa using h)
  | x :: rest, pre, acc, e, s, hs, hd, h => by
    rw [vlcL, z_Vd_bind]
    refine (hs pre.length x acc e s (by simp) h).mono fun o e1 s1 h1 => ?_
    have go : ∀ acc', Inv (pre.length + 1) acc' e1 s1 → ZVd (vlcL step rest acc' e1 s1) P := fun acc' h2 => z_vlc_go Inv rest (pre ++ [x]) acc' e1 s1 (by simpa using hs) (by simpa using hd) (by simpa using h2)
    cases o with
    | none => exact go acc h1
    | some y =>
      simp only [z_Vd_iteB]
      exact ⟨h1.1, go _ h1.2⟩
theorem z_vlc_inv {items : List U} {e : VEnv} {s : σ} (Inv : Nat → List U → VEnv → σ → Prop) (h0 : Inv 0 [] e s) (hs : ∀ i x acc e s, items[i]? = some x → Inv i acc e s → ZVd (step x e s) fun o e1 s1 => match o with | none => Inv (i + 1) acc e1 s1 | some y => acc.length < sizeLine ∧ Inv (i + 1) (acc ++ [y]) e1 s1) (hd : ∀ acc e s, Inv items.length acc e s → P acc e s) : ZVd (vlcL step items [] e s) P :=
  z_vlc_go Inv items [] [] e s (by simpa using hs) (by simpa using hd) h0
/-- a comprehension item by item: each item's yield by itself; some are left out -/
theorem z_vlc_map {items : List U} {e : VEnv} {s : σ} (f : U → Option U) (J : VEnv → Prop) (hJ : J e) (hl : items.length ≤ sizeLine) (hs : ∀ x e, x ∈ items → J e → ZVd (step x e s) fun o e1 s1 => o = f x ∧ J e1 ∧ s1 = s) (hd : ∀ e, J e → P (items.filterMap f) e s) : ZVd (vlcL step items [] e s) P := by
  refine z_vlc_inv (fun i acc e s' => acc = (items.take i).filterMap f ∧ J e ∧ s' = s) ⟨by simp, hJ, rfl⟩ ?_ ?_
  · rintro i x acc e s' hx ⟨rfl, hj, rfl⟩
    have hi := (List.getElem?_eq_some_iff.mp hx).1
    refine (hs x e (List.mem_of_getElem? hx) hj).mono ?_
    rintro o e1 s1 ⟨rfl, h2, h3⟩
    subst h3
    have e3 : (items.take (i + 1)).filterMap f = (items.take i).filterMap f ++ (match f x with | none => [] | some y => [y]) := by
      rw [List.take_succ, hx, List.filterMap_append]
      congr 1
      simp only [Option.toList, List.filterMap_cons, List.filterMap_nil]
      cases f x <;> rfl
    cases h : f x with
    | none => rw [h] at e3; exact ⟨by rw [e3]; simp, h2, rfl⟩
    | some y =>
      rw [h] at e3
      refine ⟨?_, e3.symm, h2, rfl⟩
      have a := List.length_filterMap_le f (items.take i)
      rw [List.length_take] at a
      omega
  · rintro acc e s' ⟨rfl, hj, rfl⟩
    rw [List.take_length]
    exact hd e hj
end
section
variable {σ : Type} {test : VEnv → σ → VR σ Bool} {step : VEnv → σ → VR σ VOut} {P : VOut → VEnv → σ → Prop}
/-- a while by a bound on the turns left -/
theorem z_vwhl_inv (Inv : Nat → VEnv → σ → Prop) (hs : ∀ n e s, Inv n e s → ZVd (test e s) fun b e1 s1 => if b = true then ∃ k, n = k + 1 ∧ ZVd (step e1 s1) (VTurn (Inv k) P) else P .next e1 s1) :
    ∀ (n N : Nat) (e : VEnv) (s : σ), n < N → Inv n e s → ZVd (vwhl test step N e s) P
  | n, 0, e, s, hN, _ => absurd hN (Nat.not_lt_zero _)
  | n, N + 1, e, s, hN, h => by
    rw [vwhl, z_Vd_bind]
    refine (hs n e s h).mono fun b e1 s1 hb => ?_
    cases b with
    | false => exact hb
    | true =>
      rw [if_pos rfl] at hb
      obtain ⟨k, rfl, hb⟩ := hb
      rw [if_pos rfl, z_Vd_bind]
      refine hb.mono fun o e2 s2 ho => ?_
      cases o with
      | next => exact z_vwhl_inv Inv hs k N e2 s2 (by omega) ho
      | cnt => exact z_vwhl_inv Inv hs k N e2 s2 (by omega) ho
      | brk => exact ho
      | ret o u => exact ho
end
section
variable {σ : Type} {Pf : Nat → Option Fn} {G : Nat → Option U} {C : Nat → Option (Nat × (List U → σ → FR σ))} {n f : Nat} {us : List U} {s : σ} {P : Bool → U → σ → Prop}
def VBack (P : Bool → U → σ → Prop) : VOut → VEnv → σ → Prop
  | .ret o u, _, s => P o u s
  | .next, _, s => P false .non s
  | _, _, _ => False
theorem VBack_ret {o : Bool} {u : U} {e : VEnv} : VBack P (.ret o u) e s ↔ P o u s := Iff.rfl
theorem VBack_next {e : VEnv} : VBack P .next e s ↔ P false .non s := Iff.rfl
theorem z_V_def {fn : Fn} (hC : C f = none) (hf : (Pf f) = some fn) (hl : us.length = fn.np) (h : ZVd (vSs (vrun Pf G C n) G fn.body ((us.map fun u => some (false, u)) ++ List.replicate (fn.ns - fn.np) none) s) (VBack P)) : ZFd (vrun Pf G C (n + 1) f us s) P := by
  rw [vrun_succ, vstep, hC]
  simp only []
  rw [hf]
  simp only []
  rw [if_pos hl]
  obtain ⟨o, e, s1, h1, h2⟩ := z_Vd_of h
  rw [h1]
  cases o with
  | ret o u => exact h2
  | next => exact h2
  | brk => exact h2.elim
  | cnt => exact h2.elim
theorem z_V_con {m : Nat} {c : List U → σ → FR σ} (hC : C f = some (m, c)) (hm : m ≤ n + 1) (h : ZFd (c us s) P) : ZFd (vrun Pf G C (n + 1) f us s) P := by
  rw [vrun_succ, vstep, hC]
  simp only []
  rw [if_pos hm]
  exact h
end
end PL


set_option Elab.async false
set_option linter.all false
set_option maxRecDepth 100000
set_option maxHeartbeats 4000000
/-! VSL: the rules, with what follows kept out of simp's way. -/
namespace PL
open PySem
/-- what simp does not go into -/
inductive Blk {α : Type} (a : α) : Type where
  | mk
section
variable {σ α β : Type}
def Vd (r : VR σ α) (P : α → VEnv → σ → Prop) (_ : Blk P := .mk) : Prop := ZVd r P
def Fd (r : FR σ) (P : Bool → U → σ → Prop) (_ : Blk P := .mk) : Prop := ZFd r P
def OpP (o : Option α) (P : α → Prop) (_ : Blk P := .mk) : Prop := ZOpP o P
theorem OpP_some {a : α} {P : α → Prop} : OpP (some a) P ↔ P a := z_OpP_some
theorem OpP_none {P : α → Prop} : OpP (none : Option α) P ↔ False := z_OpP_none
theorem OpP_ite {c : Prop} {inst : Decidable c} {a : α} {P : α → Prop} : OpP (if c then some a else none) P ↔ c ∧ P a := z_OpP_ite
theorem OpP_map {o : Option α} {f : α → β} {P : β → Prop} : OpP (o.map f) P ↔ OpP o fun a => P (f a) := z_OpP_map
theorem OpP_iff {o : Option α} {P : α → Prop} : OpP o P ↔ ∃ a, o = some a ∧ P a := z_OpP_iff
theorem OpP_of {o : Option α} {a : α} {P : α → Prop} (h : o = some a) (k : P a) : OpP o P := z_OpP_of h k
theorem Vd_ok {a : α} {e : VEnv} {s : σ} {P : α → VEnv → σ → Prop} : Vd (.ok a e s) P ↔ P a e s := z_Vd_ok
theorem Vd_bad {P : α → VEnv → σ → Prop} : Vd (.bad : VR σ α) P ↔ False := z_Vd_bad
theorem Vd_bind {r : VR σ α} {k : α → VEnv → σ → VR σ β} {P : β → VEnv → σ → Prop} : Vd (r.bind k) P ↔ Vd r fun a e s => Vd (k a e s) P := z_Vd_bind
theorem Vd.mono {r : VR σ α} {P Q : α → VEnv → σ → Prop} (h : Vd r P) (f : ∀ a e s, P a e s → Q a e s) : Vd r Q := ZVd.mono h f
theorem Fd.mono {r : FR σ} {P Q : Bool → U → σ → Prop} (h : Fd r P) (f : ∀ o u s, P o u s → Q o u s) : Fd r Q := ZFd.mono h f
theorem Vd_lift {o : Option α} {e : VEnv} {s : σ} {P : α → VEnv → σ → Prop} : Vd (vlift o e s) P ↔ OpP o fun a => P a e s := z_Vd_lift
theorem Vd_ite {c : Prop} [Decidable c] {x y : VR σ α} {P : α → VEnv → σ → Prop} : Vd (if c then x else y) P ↔ if c then Vd x P else Vd y P := z_Vd_ite
theorem Vd_iteB {c : Prop} [Decidable c] {x : VR σ α} {P : α → VEnv → σ → Prop} : Vd (if c then x else .bad) P ↔ c ∧ Vd x P := z_Vd_iteB
theorem Vd_ofF {r : FR σ} {e : VEnv} {bs : List BV} {P : Bool × U → VEnv → σ → Prop} : Vd (ofF r e bs) P ↔ Fd r fun o u s => P (o, u) (endC e bs o u) s := z_Vd_ofF
theorem Fd_ok {o : Bool} {u : U} {s : σ} {P : Bool → U → σ → Prop} : Fd (.ok o u s) P ↔ P o u s := z_Fd_ok
theorem Fd_of {r : FR σ} {P : Bool → U → σ → Prop} (h : Fd r P) : ∃ o u s, r = .ok o u s ∧ P o u s := z_Fd_of h
theorem Vd_of {r : VR σ α} {P : α → VEnv → σ → Prop} (h : Vd r P) : ∃ a e s, r = .ok a e s ∧ P a e s := z_Vd_of h
def SlP (x : Option (Option (Bool × U))) (P : Bool → U → Prop) (_ : Blk P := .mk) : Prop := ZSlP x P
theorem SlP_some {o : Bool} {u : U} {P : Bool → U → Prop} : SlP (some (some (o, u))) P ↔ P o u := z_SlP_some
def OwP (x : Option (Option (Bool × U))) (P : U → Prop) (_ : Blk P := .mk) : Prop := ZOwP x P
theorem OwP_some {u : U} {P : U → Prop} : OwP (some (some (true, u))) P ↔ P u := z_OwP_some
def LstP (x : U) (P : List U → Prop) (_ : Blk P := .mk) : Prop := ZLstP x P
theorem LstP_lst {us : List U} {P : List U → Prop} : LstP (.lst us) P ↔ P us := z_LstP_lst
def IntP (x : U) (P : Int → Prop) (_ : Blk P := .mk) : Prop := ZIntP x P
theorem IntP_int {i : Int} {P : Int → Prop} : IntP (.int i) P ↔ P i := z_IntP_int
theorem slot_get {i : Nat} {e : VEnv} {P : U → Prop} : OpP (slotU e i) P ↔ SlP e[i]? fun _ u => P u := z_slot_get
theorem B_var {i : Nat} {r : VEnv → σ → VR σ (Bool × U)} {env : VEnv} {s : σ} {P : BV → VEnv → σ → Prop} : Vd (borrow (.var i) r env s) P ↔ SlP env[i]? fun _ _ => P (.var i) env s := z_B_var
theorem B_else {e : E} {r : VEnv → σ → VR σ (Bool × U)} {env : VEnv} {s : σ} {P : BV → VEnv → σ → Prop} (h : asVar e = none) : Vd (borrow e r env s) P ↔ Vd (r env s) fun x e1 s1 => P (.val x.1 x.2) e1 s1 := z_B_else h
end
section
variable {i j : Int} {x y : Str} {b c : Bool} {xs ys : List U} {u v w : U} {ks ls : List L2.Key} {us vs : List U} {p q : PyData} {ts : List Str}
theorem vb_mul {P : _ → Prop} : OpP (vbin .mul (.int i) (.int j)) P ↔ ((small64 i || small64 j) = true) ∧ P (((false, .int (i * j)) : Bool × U)) := z_vb_mul
theorem vb_fdiv {P : _ → Prop} : OpP (vbin .fdiv (.int i) (.int j)) P ↔ ((decide (0 < j) && decide (j < 1073741824)) = true) ∧ P (((false, .int (i / j)) : Bool × U)) := z_vb_fdiv
theorem vb_md {P : _ → Prop} : OpP (vbin .md (.int i) (.int j)) P ↔ (decide (0 < j) = true) ∧ P (((false, .int (i % j)) : Bool × U)) := z_vb_md
theorem vb_pow {P : _ → Prop} : OpP (vbin .pow (.int i) (.int j)) P ↔ ((decide (0 ≤ j) && (decide (j ≤ 1000000) && decide (i.natAbs < 2 ^ 64))) = true) ∧ P (((false, .int (i ^ j.toNat)) : Bool × U)) := z_vb_pow
theorem vb_adds {P : _ → Prop} : OpP (vbin .add (.str x) (.str y)) P ↔ (x.length + y.length ≤ sizeLine) ∧ P (((false, .str (x ++ y)) : Bool × U)) := z_vb_adds
theorem vb_addt {P : _ → Prop} : OpP (vbin .add (.tup xs) (.tup ys)) P ↔ (xs.length + ys.length ≤ sizeLine) ∧ P (((false, .tup (xs ++ ys)) : Bool × U)) := z_vb_addt
theorem vb_addl {P : _ → Prop} : OpP (vbin .add (.lst xs) (.lst ys)) P ↔ (xs.length + ys.length ≤ sizeLine) ∧ P (((true, .lst (xs ++ ys)) : Bool × U)) := z_vb_addl
theorem vb_mult {P : _ → Prop} : OpP (vbin .mul (.tup xs) (.int i)) P ↔ ((!xs.isEmpty && (decide (xs.length ≤ 1000) && (decide (1 ≤ i) && decide (i ≤ 1000)))) = true) ∧ P (((false, .tup (List.replicate i.toNat xs).flatten) : Bool × U)) := z_vb_mult
theorem vb_mull {P : _ → Prop} : OpP (vbin .mul (.lst xs) (.int i)) P ↔ ((decide (-(2 ^ 63) ≤ i) && (decide (i < 2 ^ 63) && decide (xs.length * i.toNat ≤ sizeLine))) = true) ∧ P (((true, .lst (List.replicate i.toNat xs).flatten) : Bool × U)) := z_vb_mull
theorem vl_lens {P : _ → Prop} : OpP (vblt .len [.str x]) P ↔ (x.length ≤ sizeLine) ∧ P (((false, .int x.length) : Bool × U)) := z_vl_lens
theorem vl_strI {P : _ → Prop} : OpP (vblt .strI [.int i]) P ↔ (decide (i.natAbs.log2 < 1920) = true) ∧ P (((false, .str (toString i)) : Bool × U)) := z_vl_strI
theorem vs_snn {P : _ → Prop} : OpP (vsl (.str x) .non .non) P ↔ (x.length ≤ sizeLine) ∧ P (((false, .str ⟨(cutD x.cps.toList none none).toArray⟩) : Bool × U)) := z_vs_snn
theorem vs_snj {P : _ → Prop} : OpP (vsl (.str x) .non (.int j)) P ↔ (x.length ≤ sizeLine) ∧ P (((false, .str ⟨(cutD x.cps.toList none (some j)).toArray⟩) : Bool × U)) := z_vs_snj
theorem vs_sin {P : _ → Prop} : OpP (vsl (.str x) (.int i) .non) P ↔ (x.length ≤ sizeLine) ∧ P (((false, .str ⟨(cutD x.cps.toList (some i) none).toArray⟩) : Bool × U)) := z_vs_sin
theorem vs_sij {P : _ → Prop} : OpP (vsl (.str x) (.int i) (.int j)) P ↔ (x.length ≤ sizeLine) ∧ P (((false, .str ⟨(cutD x.cps.toList (some i) (some j)).toArray⟩) : Bool × U)) := z_vs_sij
theorem vt_s {P : _ → Prop} : OpP (vtruth (.str x)) P ↔ (x.length ≤ sizeLine) ∧ P (((x.length : Int) != 0)) := z_vt_s
theorem vm_app {P : _ → Prop} : OpP (vmeth .append xs [u]) P ↔ (xs.length < sizeLine) ∧ P (((.non, xs ++ [u]) : U × List U)) := z_vm_app
theorem vm_ext {P : _ → Prop} : OpP (vmeth .extend xs [.lst ys]) P ↔ (xs.length + ys.length ≤ sizeLine) ∧ P (((.non, xs ++ ys) : U × List U)) := z_vm_ext
theorem vm_ins {P : _ → Prop} : OpP (vmeth .insert xs [.int i, u]) P ↔ ((decide (xs.length < sizeLine) && (decide (0 ≤ i) && decide (i < 2 ^ 63))) = true) ∧ P (((.non, xs.take i.toNat ++ [u] ++ xs.drop i.toNat) : U × List U)) := z_vm_ins
theorem vsm_split {P : _ → Prop} : OpP (vsm .split x [.str y]) P ↔ ((y.length == 0) = false ∧ x.length + 2 ≤ sizeLine) ∧ P (((true, .lst ((Txt.split x y).map .str)) : Bool × U)) := z_vsm_split
theorem vsm_upper {P : _ → Prop} : OpP (vsm .upper x []) P ↔ (x.length ≤ 5592405) ∧ P (((false, .str (Txt.upper x)) : Bool × U)) := z_vsm_upper
theorem sr_r1 {P : _ → Prop} : OpP (vsrc .range1 [.int i]) P ↔ (big62 i = true) ∧ P (rangeU 0 1 i.toNat) := z_sr_r1
theorem sr_r2 {P : _ → Prop} : OpP (vsrc .range2 [.int i, .int j]) P ↔ ((big62 i && big62 j) = true) ∧ P (rangeU i 1 (j - i).toNat) := z_sr_r2
theorem sr_r3 {P : _ → Prop} : OpP (vsrc .range3 [.int i, .int j, .int (-1)]) P ↔ (((big62 i && big62 j) && decide ((-1 : Int) = -1)) = true) ∧ P (rangeU i (-1) (i - j).toNat) := z_sr_r3
end
theorem B_any {σ : Type} {e : E} {r : VEnv → σ → VR σ (Bool × U)} {env : VEnv} {s : σ} {P : BV → VEnv → σ → Prop} : Vd (borrow e r env s) P ↔ match asVar e with
    | some i => SlP env[i]? fun _ _ => P (.var i) env s
    | none => Vd (r env s) fun x e1 s1 => P (.val x.1 x.2) e1 s1 := z_B_any
section
variable {σ : Type} {F : Nat → List U → σ → FR σ} {G : Nat → Option U} {env : VEnv} {s : σ} {P : Bool × U → VEnv → σ → Prop} {PS : List (Bool × U) → VEnv → σ → Prop} {PB : List BV → VEnv → σ → Prop} {PT' : Bool → VEnv → σ → Prop} {PU : Unit → VEnv → σ → Prop} {PO' : VOut → VEnv → σ → Prop}
theorem V_var {i : Nat} : Vd (vE F G (.var i) env s) P ↔ SlP env[i]? fun _ u => P (false, u) (env.set i (some (false, u))) s := z_V_var
theorem V_cI {i : Int} : Vd (vE F G (.cI i) env s) P ↔ P (false, .int i) env s := z_V_cI
theorem V_cB {i : Bool} : Vd (vE F G (.cB i) env s) P ↔ P (false, .bl i) env s := z_V_cB
theorem V_cS {i : Str} : Vd (vE F G (.cS i) env s) P ↔ P (false, .str i) env s := z_V_cS
theorem V_cN : Vd (vE F G .cN env s) P ↔ P (false, .non) env s := z_V_cN
theorem V_gcon {i : Nat} : Vd (vE F G (.gcon i) env s) P ↔ OpP (G i) fun u => P (false, u) env s := z_V_gcon
theorem Vd_congr {σ α : Type} {r : VR σ α} {P Q : α → VEnv → σ → Prop} (h : ∀ a e s, P a e s ↔ Q a e s) : Vd r P ↔ Vd r Q := z_Vd_congr h
theorem V_bin {op : Bop} {a b : E} : Vd (vE F G (.bin op a b) env s) P ↔ Vd (borrow a (vE F G a) env s) fun x e1 s1 => Vd (borrow b (vE F G b) e1 s1) fun y e2 s2 => OpP (x.get e2) fun u => OpP (y.get e2) fun v => OpP (vbin op u v) fun w => P w e2 s2 := z_V_bin
theorem V_gkd {i : Nat} {a : E} : Vd (vE F G (.gkd i a) env s) P ↔ Vd (borrow a (vE F G a) env s) fun x e1 s1 => OpP (x.get e1) fun u => OpP (gkU (G i) u) fun w => P (false, w) e1 s1 := z_V_gkd
theorem V_ixl {ys : List Str} {a : E} : Vd (vE F G (.ixl ys a) env s) P ↔ Vd (borrow a (vE F G a) env s) fun x e1 s1 => OpP (x.get e1) fun u => OpP (ixU ys u) fun w => P (false, w) e1 s1 := z_V_ixl
theorem V_ent {ts : List Str} : Vd (vE F G (.ent ts) env s) P ↔ P (false, .ent ts) env s := z_V_ent
theorem V_ixm {o a : E} : Vd (vE F G (.ixm o a) env s) P ↔ Vd (borrow o (vE F G o) env s) fun x e1 s1 => OpP (x.get e1) fun u => isRowU u = true ∧ Vd (borrow a (vE F G a) e1 s1) fun y e2 s2 => OpP (x.get e2) fun u => OpP (y.get e2) fun v => OpP (ixmU u v) fun w => P (false, w) e2 s2 := z_V_ixm
theorem V_stup {fs : List Bool} {es : Es} : Vd (vE F G (.stup fs es) env s) P ↔ Vd (vSts F G fs es env s) fun us e1 s1 => us.length ≤ sizeLine ∧ P (false, .tup us) e1 s1 := z_V_stup
theorem V_stN {PU : List U → VEnv → σ → Prop} : Vd (vSts F G [] .nil env s) PU ↔ PU [] env s := z_V_stN
theorem V_stF {fs : List Bool} {e : E} {es : Es} {PU : List U → VEnv → σ → Prop} : Vd (vSts F G (false :: fs) (.cons e es) env s) PU ↔ Vd (vE F G e env s) fun x e1 s1 => flat x.2 = true ∧ Vd (vSts F G fs es e1 s1) fun us e2 s2 => PU (x.2 :: us) e2 s2 := z_V_stF
theorem V_stT {fs : List Bool} {e : E} {es : Es} {PU : List U → VEnv → σ → Prop} : Vd (vSts F G (true :: fs) (.cons e es) env s) PU ↔ Vd (vE F G e env s) fun x e1 s1 => OpP (asT x.2) fun xs => Vd (vSts F G fs es e1 s1) fun us e2 s2 => PU (xs ++ us) e2 s2 := z_V_stT
theorem V_neg {a : E} : Vd (vE F G (.neg a) env s) P ↔ Vd (vE F G a env s) fun x e1 s1 => IntP x.2 fun i => P (false, .int (-i)) e1 s1 := z_V_neg
theorem V_notE {a : E} : Vd (vE F G (.notE a) env s) P ↔ Vd (borrow a (vE F G a) env s) fun x e1 s1 => OpP (x.get e1) fun u => OpP (vtruth u) fun b => P (false, .bl (!b)) e1 s1 := z_V_notE
theorem V_and1 {a : E} : Vd (vE F G (.and1 a) env s) P ↔ Vd (vE F G a env s) P := z_V_and1
theorem V_or1 {a : E} : Vd (vE F G (.or1 a) env s) P ↔ Vd (vE F G a env s) P := z_V_or1
theorem V_and2 {a r : E} : Vd (vE F G (.and2 a r) env s) P ↔ Vd (vE F G a env s) fun x e1 s1 => OpP (vtruth x.2) fun b => if b = true then Vd (vE F G r e1 s1) P else P x e1 s1 := z_V_and2
theorem V_or2 {a r : E} : Vd (vE F G (.or2 a r) env s) P ↔ Vd (vE F G a env s) fun x e1 s1 => OpP (vtruth x.2) fun b => if b = true then P x e1 s1 else Vd (vE F G r e1 s1) P := z_V_or2
theorem V_cmp {op : Cop} {a b : E} : Vd (vE F G (.cmp op a b) env s) P ↔ Vd (borrow a (vE F G a) env s) fun x e1 s1 => Vd (borrow b (vE F G b) e1 s1) fun y e2 s2 => OpP (x.get e2) fun u => OpP (y.get e2) fun v => OpP (vcmp op u v) fun b => P (false, .bl b) e2 s2 := z_V_cmp
theorem V_cmp2 {op op' : Cop} {a b c : E} : Vd (vE F G (.cmp2 op op' a b c) env s) P ↔ Vd (borrow a (vE F G a) env s) fun x e1 s1 => Vd (vE F G b e1 s1) fun y e2 s2 => OpP (x.get e2) fun u => OpP (vcmp op u y.2) fun k => if k = true then Vd (borrow c (vE F G c) e2 s2) fun z e3 s3 => OpP (z.get e3) fun w => OpP (vcmp op' y.2 w) fun b => P (false, .bl b) e3 s3 else P (false, .bl false) e2 s2 := z_V_cmp2
theorem V_ife {c : T} {a b : E} : Vd (vE F G (.ife c a b) env s) P ↔ Vd (vT F G c env s) fun k e1 s1 => if k = true then Vd (vE F G a e1 s1) P else Vd (vE F G b e1 s1) P := z_V_ife
theorem V_tup {es : Es} : Vd (vE F G (.tup es) env s) P ↔ Vd (vEs F G es env s) fun us e1 s1 => us.length ≤ sizeLine ∧ P (false, .tup (us.map (·.2))) e1 s1 := z_V_tup
theorem V_lst {es : Es} : Vd (vE F G (.lst es) env s) P ↔ Vd (vEs F G es env s) fun us e1 s1 => us.length ≤ sizeLine ∧ P (true, .lst (us.map (·.2))) e1 s1 := z_V_lst
theorem V_dic {ks : List L2.Key} {es : Es} : Vd (vE F G (.dic ks es) env s) P ↔ Vd (vEs F G es env s) fun us e1 s1 => (ks.length = us.length ∧ (ks.length ≤ 15 ∧ ks.Nodup)) ∧ P (true, .dct ks (us.map (·.2))) e1 s1 := z_V_dic
theorem V_call {f : Nat} {es : Es} : Vd (vE F G (.call f es) env s) P ↔ Vd (vBs F G es env s) fun bs e1 s1 => OpP (getAll e1 bs) fun us => Fd (F f us s1) fun o u s2 => P (o, u) (endC e1 bs o u) s2 := z_V_call
theorem V_callK {f : Nat} {es ks : Es} {g : List Nat} : Vd (vE F G (.callK f es ks g) env s) P ↔ Vd (vBs F G es env s) fun bs e1 s1 => Vd (vBs F G ks e1 s1) fun cs e2 s2 => OpP (getAll e2 (bs ++ cs)) fun us => Fd (F f (g.map fun j => us.getD j .non) s2) fun o u s3 => P (o, u) (endC e2 (bs ++ cs) o u) s3 := z_V_callK
theorem V_blt {b : Blt} {es : Es} : Vd (vE F G (.blt b es) env s) P ↔ Vd (vBs F G es env s) fun bs e1 s1 => OpP (getAll e1 bs) fun us => OpP (vblt b us) fun w => P w e1 s1 := z_V_blt
theorem V_meth {m : Mt} {i : Nat} {es : Es} : Vd (vE F G (.meth m (.var i) es) env s) P ↔ OwP env[i]? fun c => LstP c fun _ => Vd (vEs F G es env s) fun us e1 s1 => OwP e1[i]? fun c => LstP c fun xs => OpP (vmeth m xs (us.map (·.2))) fun w => P (false, w.1) (e1.set i (some (true, .lst w.2))) s1 := z_V_meth
theorem V_smeth {m : Tm} {o : E} {es : Es} : Vd (vE F G (.smeth m o es) env s) P ↔ Vd (borrow o (vE F G o) env s) fun x e1 s1 => OpP (x.get e1) fun u => OpP (asS u) fun a => Vd (vBs F G es e1 s1) fun bs e2 s2 => OpP (getAll e2 bs) fun us => OpP (vsm m a us) fun w => P w e2 s2 := z_V_smeth
theorem V_idx {a b : E} : Vd (vE F G (.idx a b) env s) P ↔ Vd (borrow a (vE F G a) env s) fun x e1 s1 => Vd (borrow b (vE F G b) e1 s1) fun y e2 s2 => OpP (x.get e2) fun u => OpP (y.get e2) fun v => OpP (vidx u v) fun w => P (false, w) e2 s2 := z_V_idx
theorem V_sl {a b c : E} : Vd (vE F G (.sl a b c) env s) P ↔ Vd (borrow a (vE F G a) env s) fun x e1 s1 => Vd (vE F G b e1 s1) fun y e2 s2 => Vd (vE F G c e2 s2) fun z e3 s3 => OpP (x.get e3) fun u => OpP (vsl u y.2 z.2) fun w => P w e3 s3 := z_V_sl
theorem V_rev {a : E} : Vd (vE F G (.rev a) env s) P ↔ Vd (borrow a (vE F G a) env s) fun x e1 s1 => OpP (x.get e1) fun u => OpP (vrev u) fun w => P w e1 s1 := z_V_rev
theorem V_lc {own : List Nat} {elt : E} {t : Tg} {k : ItK} {es : Es} {c : T} : Vd (vE F G (.lc own elt t k es c) env s) P ↔ Vd (vEs F G es env s) fun us e1 s1 => tgOwn t own = true ∧ OpP (vsrc k (us.map (·.2))) fun items =>
    Vd (vlcL (lcS F G own elt t c) items [] e1 s1) fun acc e6 s6 => P (true, .lst acc) (restV e1 own e6) s6 := z_V_lc
theorem lcS_V {own : List Nat} {elt : E} {t : Tg} {c : T} {x : U} {P : Option U → VEnv → σ → Prop} : Vd (lcS F G own elt t c x env s) P ↔ Vd (vA F G t (false, x) (wipeV env own) s) fun _ e3 s3 => Vd (vT F G c e3 s3) fun b e4 s4 => if b = true then Vd (vE F G elt e4 s4) fun y e5 s5 => P (some y.2) e5 s5 else P none e4 s4 := z_lcS_V
theorem V_nil : Vd (vEs F G .nil env s) PS ↔ PS [] env s := z_V_nil
theorem V_cons {e : E} {es : Es} : Vd (vEs F G (.cons e es) env s) PS ↔ Vd (vE F G e env s) fun d e1 s1 => Vd (vEs F G es e1 s1) fun ds e2 s2 => PS (d :: ds) e2 s2 := z_V_cons
theorem V_bnil : Vd (vBs F G .nil env s) PB ↔ PB [] env s := z_V_bnil
theorem V_bcons {e : E} {es : Es} : Vd (vBs F G (.cons e es) env s) PB ↔ Vd (borrow e (vE F G e) env s) fun d e1 s1 => Vd (vBs F G es e1 s1) fun ds e2 s2 => PB (d :: ds) e2 s2 := z_V_bcons
theorem ga_nil {e : VEnv} {P : List U → Prop} : OpP (getAll e []) P ↔ P [] := z_ga_nil
theorem ga_cons {e : VEnv} {b : BV} {bs : List BV} {P : List U → Prop} : OpP (getAll e (b :: bs)) P ↔ OpP (b.get e) fun u => OpP (getAll e bs) fun us => P (u :: us) := z_ga_cons
theorem V_val {a : E} : Vd (vT F G (.val a) env s) PT' ↔ Vd (borrow a (vE F G a) env s) fun x e1 s1 => OpP (x.get e1) fun u => OpP (vtruth u) fun b => PT' b e1 s1 := z_V_val
theorem V_vc {op : Cop} {a b : E} : Vd (vT F G (.vc op a b) env s) PT' ↔ Vd (borrow a (vE F G a) env s) fun x e1 s1 => Vd (borrow b (vE F G b) e1 s1) fun y e2 s2 => OpP (x.get e2) fun u => OpP (y.get e2) fun v => OpP (vcmp op u v) fun b => PT' b e2 s2 := z_V_vc
theorem V_vc2 {op op' : Cop} {a b c : E} : Vd (vT F G (.vc2 op op' a b c) env s) PT' ↔ Vd (borrow a (vE F G a) env s) fun x e1 s1 => Vd (vE F G b e1 s1) fun y e2 s2 => OpP (x.get e2) fun u => OpP (vcmp op u y.2) fun k => if k = true then Vd (borrow c (vE F G c) e2 s2) fun z e3 s3 => OpP (z.get e3) fun w => OpP (vcmp op' y.2 w) fun b => PT' b e3 s3 else PT' false e2 s2 := z_V_vc2
theorem V_not {t : T} : Vd (vT F G (.not t) env s) PT' ↔ Vd (vT F G t env s) fun b e1 s1 => PT' (!b) e1 s1 := z_V_not
theorem V_tand1 {t : T} : Vd (vT F G (.and1 t) env s) PT' ↔ Vd (vT F G t env s) PT' := z_V_tand1
theorem V_tor1 {t : T} : Vd (vT F G (.or1 t) env s) PT' ↔ Vd (vT F G t env s) PT' := z_V_tor1
theorem V_tand2 {t r : T} : Vd (vT F G (.and2 t r) env s) PT' ↔ Vd (vT F G t env s) fun b e1 s1 => if b = true then Vd (vT F G r e1 s1) PT' else PT' false e1 s1 := z_V_tand2
theorem V_tor2 {t r : T} : Vd (vT F G (.or2 t r) env s) PT' ↔ Vd (vT F G t env s) fun b e1 s1 => if b = true then PT' true e1 s1 else Vd (vT F G r e1 s1) PT' := z_V_tor2
theorem V_yes : Vd (vT F G .yes env s) PT' ↔ PT' true env s := z_V_yes
theorem V_name {i : Nat} {d : Bool × U} : Vd (vA F G (.name i) d env s) PU ↔ PU () (env.set i (some d)) s := z_V_name
theorem V_tgt {ts : Tgs} {d : Bool × U} : Vd (vA F G (.tup ts) d env s) PU ↔ OpP (vseq d.2) fun ds => Vd (vAs F G ts ds env s) PU := z_V_tgt
theorem V_tgsub {j : Nat} {i : E} {d : Bool × U} : Vd (vA F G (.sub (.var j) i) d env s) PU ↔ OwP env[j]? fun _ => Vd (vE F G i env s) fun y e1 s1 => OwP e1[j]? fun c => OpP (vset c y.2 d.2) fun c' => PU () (e1.set j (some (true, c'))) s1 := z_V_tgsub
theorem V_tgnil : Vd (vAs F G .nil [] env s) PU ↔ PU () env s := z_V_tgnil
theorem V_tgcons {t : Tg} {ts : Tgs} {d : U} {ds : List U} : Vd (vAs F G (.cons t ts) (d :: ds) env s) PU ↔ Vd (vA F G t (false, d) env s) fun _ e1 s1 => Vd (vAs F G ts ds e1 s1) PU := z_V_tgcons
theorem V_asg {t : Tg} {e : E} : Vd (vS F G (.asg t e) env s) PO' ↔ Vd (vE F G e env s) fun d e1 s1 => Vd (vA F G t d e1 s1) fun _ e2 s2 => PO' .next e2 s2 := z_V_asg
theorem V_asgC {i : Nat} {own : List Nat} {elt : E} {t : Tg} {k : ItK} {es : Es} {c : T} : Vd (vS F G (.asgC i own elt t k es c) env s) PO' ↔ Vd (vE F G (.lc own elt t k es c) env s) fun d e1 s1 => PO' .next (e1.set i (some d)) s1 := z_V_asgC
theorem V_par {is : List Nat} {es : Es} : Vd (vS F G (.par is es) env s) PO' ↔ Vd (vEs F G es env s) fun ds e1 s1 => (ds.length = is.length ∧ is.Nodup) ∧ PO' .next (setAllV e1 is ds) s1 := z_V_par
theorem V_exp {e : E} : Vd (vS F G (.exp e) env s) PO' ↔ Vd (vE F G e env s) fun _ e1 s1 => PO' .next e1 s1 := z_V_exp
theorem V_retV {i : Nat} : Vd (vS F G (.ret (.var i)) env s) PO' ↔ SlP env[i]? fun o u => PO' (.ret o u) (env.set i none) s := z_V_retV
theorem V_ret {e : E} (h : asVar e = none) : Vd (vS F G (.ret e) env s) PO' ↔ Vd (vE F G e env s) fun d e1 s1 => PO' (.ret d.1 d.2) e1 s1 := z_V_ret h
theorem V_retA {e : E} : Vd (vS F G (.ret e) env s) PO' ↔ match asVar e with
    | some i => SlP env[i]? fun o u => PO' (.ret o u) (env.set i none) s
    | none => Vd (vE F G e env s) fun d e1 s1 => PO' (.ret d.1 d.2) e1 s1 := z_V_retA
theorem V_retN : Vd (vS F G .retN env s) PO' ↔ PO' (.ret false .non) env s := z_V_retN
theorem V_if {c : T} {a b : Ss} : Vd (vS F G (.ite c a b) env s) PO' ↔ Vd (vT F G c env s) fun k e1 s1 => if k = true then Vd (vSs F G a e1 s1) PO' else Vd (vSs F G b e1 s1) PO' := z_V_if
theorem V_for {t : Tg} {k : ItK} {es : Es} {body : Ss} : Vd (vS F G (.for_ t k es body) env s) PO' ↔ Vd (vEs F G es env s) fun us e1 s1 => OpP (vsrc k (us.map (·.2))) fun items => Vd (vforL (forS F G t body) items e1 s1) PO' := z_V_for
theorem forS_V {t : Tg} {body : Ss} {x : U} : Vd (forS F G t body x env s) PO' ↔ Vd (vA F G t (false, x) env s) fun _ e3 s3 => Vd (vSs F G body e3 s3) PO' := z_forS_V
theorem V_whl {c : T} {body : Ss} : Vd (vS F G (.whl c body) env s) PO' ↔ Vd (vwhl (vT F G c) (vSs F G body) whileMost env s) PO' := z_V_whl
theorem V_brk : Vd (vS F G .brk env s) PO' ↔ PO' .brk env s := z_V_brk
theorem V_cnt : Vd (vS F G .cnt env s) PO' ↔ PO' .cnt env s := z_V_cnt
theorem V_pass : Vd (vS F G .pass env s) PO' ↔ PO' .next env s := z_V_pass
theorem V_snil : Vd (vSs F G .nil env s) PO' ↔ PO' .next env s := z_V_snil
theorem V_scons {x : S} {ss : Ss} : Vd (vSs F G (.cons x ss) env s) PO' ↔ Vd (vS F G x env s) (VThen (fun e1 s1 => Vd (vSs F G ss e1 s1) PO') PO') := z_V_scons
theorem V_step {x : S} {ss : Ss} {I : VEnv → σ → Prop} (h : Vd (vS F G x env s) (VThen I (fun _ _ _ => False))) (k : ∀ e1 s1, I e1 s1 → Vd (vSs F G ss e1 s1) PO') : Vd (vSs F G (.cons x ss) env s) PO' := z_V_step h k
theorem V_stepR {x : S} {ss : Ss} {I : VEnv → σ → Prop} (h : Vd (vS F G x env s) (VThen I PO')) (k : ∀ e1 s1, I e1 s1 → Vd (vSs F G ss e1 s1) PO') : Vd (vSs F G (.cons x ss) env s) PO' := z_V_stepR h k
end
section
variable {σ : Type} {step : U → VEnv → σ → VR σ VOut} {P : VOut → VEnv → σ → Prop}
theorem vfor_inv {items : List U} {e : VEnv} {s : σ} (Inv : Nat → VEnv → σ → Prop) (h0 : Inv 0 e s) (hs : ∀ i x e s, items[i]? = some x → Inv i e s → Vd (step x e s) (VTurn (Inv (i + 1)) P)) (hd : ∀ e s, Inv items.length e s → P .next e s) : Vd (vforL step items e s) P := z_vfor_inv Inv h0 hs hd
end
section
variable {σ : Type} {step : U → VEnv → σ → VR σ (Option U)} {P : List U → VEnv → σ → Prop}
theorem vlc_inv {items : List U} {e : VEnv} {s : σ} (Inv : Nat → List U → VEnv → σ → Prop) (h0 : Inv 0 [] e s) (hs : ∀ i x acc e s, items[i]? = some x → Inv i acc e s → Vd (step x e s) fun o e1 s1 => match o with | none => Inv (i + 1) acc e1 s1 | some y => acc.length < sizeLine ∧ Inv (i + 1) (acc ++ [y]) e1 s1) (hd : ∀ acc e s, Inv items.length acc e s → P acc e s) : Vd (vlcL step items [] e s) P := z_vlc_inv Inv h0 hs hd
theorem vlc_map {items : List U} {e : VEnv} {s : σ} (f : U → Option U) (J : VEnv → Prop) (hJ : J e) (hl : items.length ≤ sizeLine) (hs : ∀ x e, x ∈ items → J e → Vd (step x e s) fun o e1 s1 => o = f x ∧ J e1 ∧ s1 = s) (hd : ∀ e, J e → P (items.filterMap f) e s) : Vd (vlcL step items [] e s) P := z_vlc_map f J hJ hl hs hd
end
section
variable {σ : Type} {test : VEnv → σ → VR σ Bool} {step : VEnv → σ → VR σ VOut} {P : VOut → VEnv → σ → Prop}
theorem vwhl_inv (Inv : Nat → VEnv → σ → Prop) (hs : ∀ n e s, Inv n e s → Vd (test e s) fun b e1 s1 => if b = true then ∃ k, n = k + 1 ∧ Vd (step e1 s1) (VTurn (Inv k) P) else P .next e1 s1) :
    ∀ (n N : Nat) (e : VEnv) (s : σ), n < N → Inv n e s → Vd (vwhl test step N e s) P := z_vwhl_inv Inv hs
end
section
variable {σ : Type} {Pf : Nat → Option Fn} {G : Nat → Option U} {C : Nat → Option (Nat × (List U → σ → FR σ))} {n f : Nat} {us : List U} {s : σ} {P : Bool → U → σ → Prop}
theorem V_def {fn : Fn} (hC : C f = none) (hf : (Pf f) = some fn) (hl : us.length = fn.np) (h : Vd (vSs (vrun Pf G C n) G fn.body ((us.map fun u => some (false, u)) ++ List.replicate (fn.ns - fn.np) none) s) (VBack P)) : Fd (vrun Pf G C (n + 1) f us s) P := z_V_def hC hf hl h
theorem V_con {m : Nat} {c : List U → σ → FR σ} (hC : C f = some (m, c)) (hm : m ≤ n + 1) (h : Fd (c us s) P) : Fd (vrun Pf G C (n + 1) f us s) P := z_V_con hC hm h
end
end PL

set_option Elab.async false
set_option linter.all false
set_option maxRecDepth 100000
set_option maxHeartbeats 4000000
/-! VSJ: a law by its run on values. -/
namespace PL
open PySem
def Ss.tl : Ss → Ss
  | .cons _ ss => ss
  | .nil => .nil
def Ss.hd : Ss → S
  | .cons x _ => x
  | .nil => .pass
def S.fbody : S → Ss
  | .for_ _ _ _ b => b
  | .whl _ b => b
  | _ => .nil
theorem vs_law {σ : Type} {Pf : Nat → Option Fn} {G' : Nat → Option D} {GV : Nat → Option U} {CV : Nat → Option (Nat × (List U → σ → FR σ))} {k i fb ns : Nat} {rest : Ss} {l : List Int}
    (hP : Pf i = some ⟨1, ns + 2, .cons (.asg (.name 1) (.call fb (.cons (.var 0) .nil))) rest⟩)
    (hG : ∀ (W : Bg σ) i u, GV i = some u → ∃ d, G' i = some d ∧ ∀ Z st, Rep W Z st u d) (Q : σ → Prop)
    (hbag : Wd (runC Pf G' (fun _ => none) k fb [scriptD l] []) fun d st => ∃ (W : Bg σ) (s : σ), d = .ref W.r ∧ W.R st s ∧ Q s ∧ ∀ f m c, CV f = some (m, c) → ∀ n, m ≤ n → CallOk W c (runC Pf G' (fun _ => none) n f))
    (hrest : ∀ s, Q s → Vd (vSs (vrun Pf GV CV k) GV rest (none :: some (false, .bag) :: List.replicate ns none) s) (VBack fun _ u _ => u = .bl true)) :
    ∃ st, runC Pf G' (fun _ => none) (k + 1) i [scriptD l] [] = .ok (.bl true) st := by
  have main : Wd (runC Pf G' (fun _ => none) (k + 1) i [scriptD l] []) (fun d _ => d = .bl true) := by
    refine W_def (fn := ⟨1, ns + 2, .cons (.asg (.name 1) (.call fb (.cons (.var 0) .nil))) rest⟩) rfl hP rfl ?_
    refine W_scons.mpr ?_
    simp only [W_asg, W_call, W_cons, W_nil, W_var, W_name]
    refine ⟨scriptD l, rfl, hbag.mono ?_⟩
    rintro d st ⟨W, s, rfl, hR, hQ, hC⟩
    show Wd (exs _ _ rest _ st) _
    have e : ((List.map some [scriptD l] ++ List.replicate (ns + 2 - 1) (none : Option D)).set 1 (some (D.ref W.r))) = some (scriptD l) :: some (.ref W.r) :: List.replicate ns none := by
      show (some (scriptD l) :: List.replicate (ns + 1) none).set 1 _ = _
      rfl
    rw [e]
    have run := vrun_ok (W := W) (P := Pf) (G := GV) (G' := G') (CV := CV) (C := fun _ => none) (hG W) (fun _ _ => .inl rfl) hC k
    have sv : ∀ {j : Nat} {x : Bool × U}, ((none : Option (Bool × U)) :: some (false, U.bag) :: List.replicate ns none)[j]? = some (some x) → j = 1 ∧ x = (false, .bag) := by
      intro j x hx
      match j, hx with
      | 0, hx => cases hx
      | 1, hx => cases hx; exact ⟨rfl, rfl⟩
      | j + 2, hx =>
        simp only [List.getElem?_cons_succ] at hx
        rw [List.getElem?_replicate] at hx
        split at hx <;> cases hx
    have ok : Ok W ⟨st.length, fun _ => False, st, some (scriptD l) :: some (.ref W.r) :: List.replicate ns none, none :: some (false, .bag) :: List.replicate ns none, s⟩ := by
      refine ⟨by simp, fun i u h => ?_, fun i u h => ?_, ?_, fun i i' u u' j h => ?_, fun j z => z.elim, hR, Nat.le_refl _⟩
      · obtain ⟨rfl, e⟩ := sv h
        cases e
        exact ⟨_, rfl, rfl⟩
      · obtain ⟨_, e⟩ := sv h; cases e
      · rintro j ⟨i, u, h, _⟩
        obtain ⟨_, e⟩ := sv h; cases e
      · obtain ⟨_, e⟩ := sv h; cases e
    have h := sSs (W := W) (F := vrun Pf GV CV k) (G := GV) (F' := runC Pf G' (fun _ => none) k) (G' := G') ⟨run, hG W⟩ rest _ ok
    obtain ⟨o, e', s', h1, h2⟩ := Vd_of (hrest s hQ)
    rw [h1] at h
    revert h
    generalize exs (runC Pf G' (fun _ => none) k) G' rest _ _ = r
    intro h
    cases r with
    | bad => exact h.elim
    | exc _ _ _ => exact h.elim
    | ok o' st' =>
      obtain ⟨Z', env', _, _, h3⟩ := h
      cases o with
      | next => exact absurd (show U.non = .bl true from h2) (by simp)
      | brk => exact h2.elim
      | cnt => exact h2.elim
      | ret o u =>
        have h2 : u = .bl true := h2
        subst h2
        cases o' <;> first | exact h3.elim | skip
        exact rb_bl (TR.rb h3)
  obtain ⟨a, st, h1, h2⟩ := Wd_ok_of main
  exact ⟨st, by rw [← h2]; exact h1⟩
end PL

set_option Elab.async false
set_option linter.all false
set_option maxRecDepth 100000
set_option maxHeartbeats 4000000
/-! VSK: plain values: their texts, their being alike. -/
namespace PL
open PySem
mutual
def pyU : U → PyData
  | .non => .none
  | .bl b => .bool b
  | .int i => .int i
  | .str x => .str x
  | .tup us => .tuple (pyUs us)
  | .lst us => .list (pyUs us)
  | .dct ks us => .dict ((ks.map keyPy).zip (pyUs us))
  | _ => .none
def pyUs : List U → List PyData
  | [] => []
  | u :: us => pyU u :: pyUs us
end
mutual
def okD : Nat → U → Bool
  | _, .non => true
  | _, .bl _ => true
  | _, .int i => decide (i.natAbs.log2 < 1920)
  | _, .str x => PyData.canLay0 (.str x)
  | n + 1, .tup us => okDs n us
  | n + 1, .lst us => okDs n us
  | _, _ => false
def okDs : Nat → List U → Bool
  | _, [] => true
  | n, u :: us => okD n u && okDs n us
end
theorem pyUs_len : ∀ us : List U, (pyUs us).length = us.length
  | [] => rfl
  | u :: us => by rw [pyUs, List.length_cons, List.length_cons, pyUs_len]
mutual
theorem okD_py : ∀ (n m : Nat) (u : U), n ≤ m → okD n u = true → vpy m u = some (pyU u) ∧ (pyU u).canLay0 = true ∧ (pyU u).showable = true
  | n, m, .non, _, _ => ⟨by cases m <;> rfl, rfl, rfl⟩
  | n, m, .bl _, _, _ => ⟨by cases m <;> rfl, rfl, rfl⟩
  | n, m, .int i, _, h => ⟨by cases m <;> rfl, rfl, by rw [pyU, PyData.showable]; cases n <;> exact h⟩
  | n, m, .str x, _, h => ⟨by cases m <;> rfl, by cases n <;> exact h, rfl⟩
  | 0, m, .tup us, _, h => by cases h
  | 0, m, .lst us, _, h => by cases h
  | n + 1, 0, .tup us, hm, h => by omega
  | n + 1, 0, .lst us, hm, h => by omega
  | n + 1, m + 1, .tup us, hm, h => by
    obtain ⟨a, b, c⟩ := okDs_py n m us (by omega) h
    exact ⟨by rw [vpy, a]; rfl, by rw [pyU, PyData.canLay0]; exact b, by rw [pyU, PyData.showable]; exact c⟩
  | n + 1, m + 1, .lst us, hm, h => by
    obtain ⟨a, b, c⟩ := okDs_py n m us (by omega) h
    exact ⟨by rw [vpy, a]; rfl, by rw [pyU, PyData.canLay0]; exact b, by rw [pyU, PyData.showable]; exact c⟩
  | n, m, .dct _ _, _, h => by cases n <;> cases h
  | n, m, .rep _, _, h => by cases n <;> cases h
  | n, m, .bag, _, h => by cases n <;> cases h
theorem okDs_py : ∀ (n m : Nat) (us : List U), n ≤ m → okDs n us = true → optMap (vpy m) us = some (pyUs us) ∧ PyData.canLayAll0 (pyUs us) = true ∧ PyData.showableAll (pyUs us) = true
  | n, m, [], _, _ => ⟨rfl, rfl, rfl⟩
  | n, m, u :: us, hm, h => by
    rw [okDs, Bool.and_eq_true] at h
    obtain ⟨a, b, c⟩ := okD_py n m u hm h.1
    obtain ⟨a', b', c'⟩ := okDs_py n m us hm h.2
    exact ⟨by rw [optMap, a]; simp only [a']; rfl, by rw [pyUs, PyData.canLayAll0, b, b']; rfl, by rw [pyUs, PyData.showableAll, c, c']; rfl⟩
end
mutual
theorem same_py : ∀ (n : Nat) (u : U), okD n u = true → same (pyU u) (pyU u) = true
  | n, .non, _ => rfl
  | n, .bl b, _ => by simp [pyU, same]
  | n, .int b, _ => by simp [pyU, same]
  | n, .str b, _ => by simp [pyU, same]
  | 0, .tup us, h => by cases h
  | 0, .lst us, h => by cases h
  | n + 1, .tup us, h => by rw [pyU, same]; exact sames_py n us h
  | n + 1, .lst us, h => by rw [pyU, same]; exact sames_py n us h
  | n, .dct _ _, h => by cases n <;> cases h
  | n, .rep _, h => by cases n <;> cases h
  | n, .bag, h => by cases n <;> cases h
theorem sames_py : ∀ (n : Nat) (us : List U), okDs n us = true → sameAll (pyUs us) (pyUs us) = true
  | n, [], _ => rfl
  | n, u :: us, h => by
    rw [okDs, Bool.and_eq_true] at h
    rw [pyUs, sameAll, same_py n u h.1, sames_py n us h.2]; rfl
end
theorem okDs_of {n : Nat} : ∀ {us : List U}, (∀ u ∈ us, okD n u = true) → okDs n us = true
  | [], _ => rfl
  | u :: us, h => by rw [okDs, h u List.mem_cons_self, okDs_of fun v hv => h v (List.mem_cons_of_mem _ hv)]; rfl
theorem of_okDs {n : Nat} : ∀ {us : List U}, okDs n us = true → ∀ u ∈ us, okD n u = true
  | [], _, u, hu => by cases hu
  | v :: us, h, u, hu => by
    rw [okDs, Bool.and_eq_true] at h
    rcases List.mem_cons.mp hu with rfl | hu
    · exact h.1
    · exact of_okDs h.2 u hu
mutual
theorem okD_mono : ∀ (n m : Nat) (u : U), n ≤ m → okD n u = true → okD m u = true
  | n, m, .non, _, _ => by cases m <;> rfl
  | n, m, .bl _, _, _ => by cases m <;> rfl
  | n, m, .int _, _, h => by cases m <;> cases n <;> exact h
  | n, m, .str _, _, h => by cases m <;> cases n <;> exact h
  | 0, m, .tup us, _, h => by cases h
  | 0, m, .lst us, _, h => by cases h
  | n + 1, 0, .tup us, hm, h => by omega
  | n + 1, 0, .lst us, hm, h => by omega
  | n + 1, m + 1, .tup us, hm, h => okDs_mono n m us (by omega) h
  | n + 1, m + 1, .lst us, hm, h => okDs_mono n m us (by omega) h
  | n, m, .dct _ _, _, h => by cases n <;> cases h
  | n, m, .rep _, _, h => by cases n <;> cases h
  | n, m, .bag, _, h => by cases n <;> cases h
theorem okDs_mono : ∀ (n m : Nat) (us : List U), n ≤ m → okDs n us = true → okDs m us = true
  | n, m, [], _, _ => rfl
  | n, m, u :: us, hm, h => by
    rw [okDs, Bool.and_eq_true] at h ⊢
    exact ⟨okD_mono n m u hm h.1, okDs_mono n m us hm h.2⟩
end
/-- the bound of a text's length -/
def cst (u : U) : Nat := showCost (pyU u)
def csts (us : List U) : Nat := showCost.costAll (pyUs us)
theorem cst_tup {us : List U} : cst (.tup us) = csts us + 3 := rfl
theorem cst_lst {us : List U} : cst (.lst us) = csts us + 2 := rfl
theorem csts_nil : csts [] = 0 := rfl
theorem csts_cons {u : U} {us : List U} : csts (u :: us) = cst u + 2 + csts us := rfl
theorem csts_le {c : Nat} : ∀ {us : List U}, (∀ u ∈ us, cst u ≤ c) → csts us ≤ us.length * (c + 2)
  | [], _ => by simp [csts_nil]
  | u :: us, h => by
    have h1 := h u List.mem_cons_self
    have h2 := csts_le (us := us) fun v hv => h v (List.mem_cons_of_mem _ hv)
    rw [csts_cons, List.length_cons, Nat.succ_mul]; omega
/-- plain, so deep, its text so long at most -/
def Nice (n c : Nat) (u : U) : Prop := okD n u = true ∧ cst u ≤ c
theorem Nice.mono {n m c d : Nat} {u : U} (h : Nice n c u) (hn : n ≤ m) (hc : c ≤ d) : Nice m d u := ⟨okD_mono n m u hn h.1, Nat.le_trans h.2 hc⟩
theorem nice_tup {n c : Nat} {us : List U} (h : ∀ u ∈ us, Nice n c u) : Nice (n + 1) (us.length * (c + 2) + 3) (.tup us) :=
  ⟨okDs_of fun u hu => (h u hu).1, by rw [cst_tup]; exact Nat.add_le_add_right (csts_le fun u hu => (h u hu).2) 3⟩
theorem nice_lst {n c : Nat} {us : List U} (h : ∀ u ∈ us, Nice n c u) : Nice (n + 1) (us.length * (c + 2) + 3) (.lst us) :=
  ⟨okDs_of fun u hu => (h u hu).1, by rw [cst_lst]; exact Nat.le_trans (Nat.add_le_add_right (csts_le fun u hu => (h u hu).2) 2) (by omega)⟩
theorem nice_int {n : Nat} {i : Int} {k : Nat} (h : i.natAbs < 2 ^ k) (hk : k ≤ 1000) : Nice n (k + 2) (.int i) := by
  have hl : i.natAbs.log2 < 1920 ∧ i.natAbs.log2 ≤ k := by
    by_cases h0 : i.natAbs = 0
    · rw [h0]; simp
    · have := (Nat.log2_lt h0).mpr h; omega
  exact ⟨by cases n <;> exact decide_eq_true hl.1, by show i.natAbs.log2 + 2 ≤ k + 2; omega⟩
theorem nice_nat {n : Nat} {v : Nat} (h : v < 2 ^ 20) : Nice n 30 (.int (v : Int)) := (nice_int (k := 20) (by omega) (by omega)).mono (Nat.le_refl _) (by omega)
theorem nice_bl {n : Nat} {b : Bool} : Nice n 5 (.bl b) := ⟨by cases n <;> rfl, Nat.le_refl _⟩
theorem nice_non {n : Nat} : Nice n 4 .non := ⟨by cases n <;> rfl, Nat.le_refl _⟩
theorem nice_str {n : Nat} {x : Str} (h : PyData.canLay0 (.str x) = true) : Nice n (10 * x.length + 2) (.str x) := ⟨by cases n <;> exact h, Nat.le_refl _⟩
theorem vpyR_of : ∀ (n : Nat) (u : U) (p : PyData), vpy n u = some p → vpyR n u = some p := by
  intro n
  induction n with
  | zero => intro u p h; cases u <;> first | exact h | cases h
  | succ n ih =>
    intro u p h
    cases u with
    | tup xs =>
      simp only [vpy] at h
      obtain ⟨ps, e, rfl⟩ := Option.map_eq_some_iff.mp h
      simp only [vpyR, optMap_mono ih e, Option.map_some]
    | lst xs =>
      simp only [vpy] at h
      obtain ⟨ps, e, rfl⟩ := Option.map_eq_some_iff.mp h
      simp only [vpyR, optMap_mono ih e, Option.map_some]
    | _ => first | exact h | cases h
theorem repr_v {n c : Nat} {u : U} (h : Nice n c u) (hn : n ≤ 60) (hc : c ≤ 10000000) : vblt .repr [u] = some (false, .rep (pyU u)) := by
  obtain ⟨a, b, d⟩ := okD_py n 60 u hn h.1
  have hs : showCost (pyU u) ≤ sizeLine := Nat.le_trans h.2 (Nat.le_trans hc (by decide))
  unfold vblt
  simp only [vpyR_of _ _ _ a]
  rw [if_pos (by rw [layD_of _ b, d]; simp [hs])]
theorem eq_rep {n : Nat} {u : U} (h : okD n u = true) : veq (.rep (pyU u)) (.rep (pyU u)) = some true := by
  unfold veq; simp only [same_py n u h, if_true]
theorem noEq {m : Nat} {u v : U} (h' : okD m v = true) : vdctEq u v = false := by
  cases v with
  | dct _ _ => cases m <;> cases h'
  | _ => cases u <;> rfl
theorem noIn {n : Nat} {u : U} {us : List U} (h : okD n u = true) : vdctIn u us = false := by
  cases u with
  | dct _ _ => cases n <;> cases h
  | _ => rfl
theorem eqP_v {n m : Nat} {u v : U} (h : okD n u = true) (h' : okD m v = true) (hn : n ≤ 60) (hm : m ≤ 60) : veqP u v = some (PyData.eqv (pyU u) (pyU v)) := by
  obtain ⟨a, b, _⟩ := okD_py n 60 u hn h
  obtain ⟨a', b', _⟩ := okD_py m 60 v hm h'
  unfold veqP
  rw [if_neg (by rw [noEq h']; simp)]
  cases hn : vnil u v with
  | some r =>
    unfold vnil at hn
    split at hn
    · cases hn
      have k : ∀ us : List U, some us.isEmpty = some ((pyU (U.lst us)).eqv (pyU (U.lst []))) := fun us => by cases us <;> rfl
      exact k _
    · cases hn
  | none =>
  simp only []
  rw [a, a']
  simp only [b, b', Bool.and_self, if_true]
theorem in_v {n m : Nat} {u : U} {us : List U} (h : okD n u = true) (h' : okDs m us = true) (hn : n ≤ 60) (hm : m ≤ 59) : vinP u us = some ((pyUs us).any fun y => PyData.eqv y (pyU u)) := by
  obtain ⟨a, b, _⟩ := okD_py n 60 u hn h
  obtain ⟨a', b', _⟩ := okDs_py m 59 us hm h'
  unfold vinP
  rw [if_neg (by rw [noIn h]; simp), a, a']
  simp only [b, b', Bool.and_self, if_true]
/-- against the empty list -/
theorem eq_nil0 {us : List U} : veqP (.lst us) (.lst []) = some us.isEmpty := rfl
theorem eq_nil {n : Nat} {us : List U} (h : okDs n us = true) (hn : n ≤ 59) : veqP (.lst us) (.lst []) = some us.isEmpty := by
  rw [eqP_v (n := n + 1) (m := 1) (show okD (n + 1) (.lst us) = true from h) rfl (by omega) (by omega)]
  cases us with
  | nil => rfl
  | cons u us => rfl
theorem perm_erase {α : Type} : ∀ (xs : List α) (v : Nat) (h : v < xs.length), (xs[v] :: xs.eraseIdx v).Perm xs
  | x :: xs, 0, _ => .refl _
  | x :: xs, v + 1, h => by
    have h' : v < xs.length := by simpa using h
    show (xs[v] :: x :: xs.eraseIdx v).Perm (x :: xs)
    exact (List.Perm.swap _ _ _).trans (List.Perm.cons x (perm_erase xs v h'))
theorem rangeU_len {lo c : Int} {n : Nat} : (rangeU lo c n).length = n := by simp [rangeU]
theorem rangeU_get {lo c : Int} {n i : Nat} {d : U} (h : (rangeU lo c n)[i]? = some d) : i < n ∧ d = .int (lo + (i : Int) * c) := by
  have hi : i < n := by have := (List.getElem?_eq_some_iff.mp h).1; rwa [rangeU_len] at this
  unfold rangeU at h
  rw [List.getElem?_map, List.getElem?_range hi] at h
  cases h
  exact ⟨hi, rfl⟩
theorem rangeU0_get {n i : Nat} {d : U} (h : (rangeU 0 1 n)[i]? = some d) : i < n ∧ d = .int (i : Int) := by
  obtain ⟨a, b⟩ := rangeU_get h
  refine ⟨a, ?_⟩
  rw [b]; congr 1; omega
theorem sz {n : Nat} (h : n ≤ 1000) : n ≤ sizeLine := Nat.le_trans h (by decide)
theorem szl {n : Nat} (h : n ≤ 1000) : n < sizeLine := Nat.lt_of_le_of_lt h (by decide)
theorem big62_of {i : Int} (h : -1000000 ≤ i ∧ i ≤ 1000000) : big62 i = true := by unfold big62; simp; omega
theorem mul_sub1 {m i k : Nat} (h : i < m) : (m - i) * k = (m - (i + 1)) * k + k := by
  have : m - i = (m - (i + 1)) + 1 := by omega
  rw [this, Nat.succ_mul]
theorem flats_of : ∀ {us : List U}, (∀ u ∈ us, flat u = true) → flats us = true
  | [], _ => rfl
  | u :: us, h => by rw [flats, h u List.mem_cons_self, flats_of fun v hv => h v (List.mem_cons_of_mem _ hv)]; rfl
theorem at_neg1 {xs : List U} (h : xs ≠ []) : ∃ x ∈ xs, vidx.atU xs (-1) = some x := by
  have e : xs = xs.dropLast ++ [xs.getLast h] := (List.dropLast_concat_getLast h).symm
  exact ⟨xs.getLast h, List.getLast_mem h, (congrArg (fun l => vidx.atU l (-1)) e).trans atm1⟩
theorem at_zero {xs : List U} (h : xs ≠ []) : ∃ x ∈ xs, vidx.atU xs 0 = some x := by
  cases xs with
  | nil => exact absurd rfl h
  | cons x xs => exact ⟨x, List.mem_cons_self, at0⟩
theorem numU_get0 {us : List U} {i : Nat} {d : U} (h : (numU 0 us)[i]? = some d) : ∃ u, us[i]? = some u ∧ d = .tup [.int (i : Int), u] := by
  rw [numU_get] at h
  obtain ⟨u, h1, h2⟩ := Option.map_eq_some_iff.mp h
  refine ⟨u, h1, ?_⟩
  rw [← h2, Nat.zero_add]
/-! ### alike and the same -/
mutual
def noB : U → Bool
  | .non => true
  | .int _ => true
  | .str _ => true
  | .tup us => noBs us
  | .lst us => noBs us
  | _ => false
def noBs : List U → Bool
  | [] => true
  | u :: us => noB u && noBs us
end
mutual
theorem eqv_same : ∀ (u v : U), noB u = true → noB v = true → (PyData.eqv (pyU u) (pyU v) = true ↔ u = v)
  | .non, v, _, h => by cases v <;> simp_all [pyU, PyData.eqv, noB]
  | .int i, v, _, h => by cases v <;> simp_all [pyU, PyData.eqv, noB]
  | .str i, v, _, h => by cases v <;> simp_all [pyU, PyData.eqv, noB]
  | .tup us, v, h0, h => by
    cases v <;> first | (simp_all [pyU, PyData.eqv, noB]; done) | skip
    rename_i vs
    rw [pyU, pyU, PyData.eqv, U.tup.injEq]
    exact eqvs_same us vs h0 h
  | .lst us, v, h0, h => by
    cases v <;> first | (simp_all [pyU, PyData.eqv, noB]; done) | skip
    rename_i vs
    rw [pyU, pyU, PyData.eqv, U.lst.injEq]
    exact eqvs_same us vs h0 h
  | .bl _, _, h, _ => by cases h
  | .dct _ _, _, h, _ => by cases h
  | .rep _, _, h, _ => by cases h
  | .bag, _, h, _ => by cases h
theorem eqvs_same : ∀ (us vs : List U), noBs us = true → noBs vs = true → (PyData.eqvAll (pyUs us) (pyUs vs) = true ↔ us = vs)
  | [], [], _, _ => by simp [pyUs, PyData.eqvAll]
  | [], v :: vs, _, _ => by simp [pyUs, PyData.eqvAll]
  | u :: us, [], _, _ => by simp [pyUs, PyData.eqvAll]
  | u :: us, v :: vs, h0, h => by
    rw [noBs, Bool.and_eq_true] at h0 h
    rw [pyUs, pyUs, PyData.eqvAll, Bool.and_eq_true, eqv_same u v h0.1 h.1, eqvs_same us vs h0.2 h.2, List.cons.injEq]
end
/-! ### what repr tells: dicts too -/
def okKey : L2.Key → Bool
  | .inl i => decide (i.natAbs.log2 < 1920)
  | .inr x => PyData.canLay0 (.str x)
mutual
def okR : Nat → U → Bool
  | _, .non => true
  | _, .bl _ => true
  | _, .int i => decide (i.natAbs.log2 < 1920)
  | _, .str x => PyData.canLay0 (.str x)
  | n + 1, .tup us => okRs n us
  | n + 1, .lst us => okRs n us
  | n + 1, .dct ks us => ks.all okKey && okRs n us
  | _, _ => false
def okRs : Nat → List U → Bool
  | _, [] => true
  | n, u :: us => okR n u && okRs n us
end
theorem key_layD {k : L2.Key} (h : okKey k = true) : layD (keyPy k) = true ∧ (keyPy k).showable = true ∧ same (keyPy k) (keyPy k) = true := by
  cases k with
  | inl i => exact ⟨rfl, by rw [keyPy, PyData.showable]; exact h, by simp [keyPy, same]⟩
  | inr x => exact ⟨h, rfl, by simp [keyPy, same]⟩
theorem kv_ok : ∀ {ks : List L2.Key} {ps : List PyData}, ks.all okKey = true → layDs ps = true → PyData.showableAll ps = true → layKv ((ks.map keyPy).zip ps) = true ∧ PyData.showableKv ((ks.map keyPy).zip ps) = true
  | [], _, _, _, _ => ⟨rfl, rfl⟩
  | _ :: _, [], _, _, _ => ⟨rfl, rfl⟩
  | k :: ks, p :: ps, h, h1, h2 => by
    rw [List.all_cons, Bool.and_eq_true] at h
    rw [layDs, Bool.and_eq_true] at h1
    rw [PyData.showableAll, Bool.and_eq_true] at h2
    obtain ⟨a, b⟩ := kv_ok h.2 h1.2 h2.2
    obtain ⟨c, d, _⟩ := key_layD h.1
    rw [List.map_cons, List.zip_cons_cons, layKv, PyData.showableKv, a, b, c, d, h1.1, h2.1]
    exact ⟨rfl, rfl⟩
mutual
theorem okR_py : ∀ (n m : Nat) (u : U), n ≤ m → okR n u = true → vpyR m u = some (pyU u) ∧ layD (pyU u) = true ∧ (pyU u).showable = true
  | n, m, .non, _, _ => ⟨by cases m <;> rfl, rfl, rfl⟩
  | n, m, .bl _, _, _ => ⟨by cases m <;> rfl, rfl, rfl⟩
  | n, m, .int i, _, h => ⟨by cases m <;> rfl, rfl, by rw [pyU, PyData.showable]; cases n <;> exact h⟩
  | n, m, .str x, _, h => ⟨by cases m <;> rfl, by cases n <;> exact h, rfl⟩
  | 0, m, .tup us, _, h => by cases h
  | 0, m, .lst us, _, h => by cases h
  | 0, m, .dct ks us, _, h => by cases h
  | n + 1, 0, .tup us, hm, h => by omega
  | n + 1, 0, .lst us, hm, h => by omega
  | n + 1, 0, .dct ks us, hm, h => by omega
  | n + 1, m + 1, .tup us, hm, h => by
    obtain ⟨a, b, c⟩ := okRs_py n m us (by omega) h
    exact ⟨by rw [vpyR, a]; rfl, by rw [pyU, layD]; exact b, by rw [pyU, PyData.showable]; exact c⟩
  | n + 1, m + 1, .lst us, hm, h => by
    obtain ⟨a, b, c⟩ := okRs_py n m us (by omega) h
    exact ⟨by rw [vpyR, a]; rfl, by rw [pyU, layD]; exact b, by rw [pyU, PyData.showable]; exact c⟩
  | n + 1, m + 1, .dct ks us, hm, h => by
    rw [okR, Bool.and_eq_true] at h
    obtain ⟨a, b, c⟩ := okRs_py n m us (by omega) h.2
    obtain ⟨d, e⟩ := kv_ok h.1 b c
    exact ⟨by rw [vpyR, a]; rfl, by rw [pyU, layD]; exact d, by rw [pyU, PyData.showable]; exact e⟩
  | n, m, .rep _, _, h => by cases n <;> cases h
  | n, m, .bag, _, h => by cases n <;> cases h
theorem okRs_py : ∀ (n m : Nat) (us : List U), n ≤ m → okRs n us = true → optMap (vpyR m) us = some (pyUs us) ∧ layDs (pyUs us) = true ∧ PyData.showableAll (pyUs us) = true
  | n, m, [], _, _ => ⟨rfl, rfl, rfl⟩
  | n, m, u :: us, hm, h => by
    rw [okRs, Bool.and_eq_true] at h
    obtain ⟨a, b, c⟩ := okR_py n m u hm h.1
    obtain ⟨a', b', c'⟩ := okRs_py n m us hm h.2
    exact ⟨by rw [optMap, a]; simp only [a']; rfl, by rw [pyUs, layDs, b, b']; rfl, by rw [pyUs, PyData.showableAll, c, c']; rfl⟩
end
theorem same_kv : ∀ {ks : List L2.Key} {ps : List PyData}, ks.all okKey = true → sameAll ps ps = true → sameKv ((ks.map keyPy).zip ps) ((ks.map keyPy).zip ps) = true
  | [], _, _, _ => rfl
  | _ :: _, [], _, _ => rfl
  | k :: ks, p :: ps, h, h1 => by
    rw [List.all_cons, Bool.and_eq_true] at h
    rw [sameAll, Bool.and_eq_true] at h1
    rw [List.map_cons, List.zip_cons_cons, sameKv, same_kv h.2 h1.2, (key_layD h.1).2.2, h1.1]; rfl
mutual
theorem sameR_py : ∀ (n : Nat) (u : U), okR n u = true → same (pyU u) (pyU u) = true
  | n, .non, _ => rfl
  | n, .bl b, _ => by simp [pyU, same]
  | n, .int b, _ => by simp [pyU, same]
  | n, .str b, _ => by simp [pyU, same]
  | 0, .tup us, h => by cases h
  | 0, .lst us, h => by cases h
  | 0, .dct ks us, h => by cases h
  | n + 1, .tup us, h => by rw [pyU, same]; exact samesR_py n us h
  | n + 1, .lst us, h => by rw [pyU, same]; exact samesR_py n us h
  | n + 1, .dct ks us, h => by
    rw [okR, Bool.and_eq_true] at h
    rw [pyU, same]; exact same_kv h.1 (samesR_py n us h.2)
  | n, .rep _, h => by cases n <;> cases h
  | n, .bag, h => by cases n <;> cases h
theorem samesR_py : ∀ (n : Nat) (us : List U), okRs n us = true → sameAll (pyUs us) (pyUs us) = true
  | n, [], _ => rfl
  | n, u :: us, h => by
    rw [okRs, Bool.and_eq_true] at h
    rw [pyUs, sameAll, sameR_py n u h.1, samesR_py n us h.2]; rfl
end
mutual
theorem okR_of : ∀ (n : Nat) (u : U), okD n u = true → okR n u = true
  | n, .non, _ => by cases n <;> rfl
  | n, .bl _, _ => by cases n <;> rfl
  | n, .int _, h => by cases n <;> exact h
  | n, .str _, h => by cases n <;> exact h
  | 0, .tup us, h => by cases h
  | 0, .lst us, h => by cases h
  | n + 1, .tup us, h => okRs_of n us h
  | n + 1, .lst us, h => okRs_of n us h
  | n, .dct _ _, h => by cases n <;> cases h
  | n, .rep _, h => by cases n <;> cases h
  | n, .bag, h => by cases n <;> cases h
theorem okRs_of : ∀ (n : Nat) (us : List U), okDs n us = true → okRs n us = true
  | n, [], _ => rfl
  | n, u :: us, h => by
    rw [okDs, Bool.and_eq_true] at h
    rw [okRs, okR_of n u h.1, okRs_of n us h.2]; rfl
end
mutual
theorem okR_mono : ∀ (n m : Nat) (u : U), n ≤ m → okR n u = true → okR m u = true
  | n, m, .non, _, _ => by cases m <;> rfl
  | n, m, .bl _, _, _ => by cases m <;> rfl
  | n, m, .int _, _, h => by cases m <;> cases n <;> exact h
  | n, m, .str _, _, h => by cases m <;> cases n <;> exact h
  | 0, m, .tup us, _, h => by cases h
  | 0, m, .lst us, _, h => by cases h
  | 0, m, .dct _ us, _, h => by cases h
  | n + 1, 0, .tup us, hm, h => by omega
  | n + 1, 0, .lst us, hm, h => by omega
  | n + 1, 0, .dct _ us, hm, h => by omega
  | n + 1, m + 1, .tup us, hm, h => okRs_mono n m us (by omega) h
  | n + 1, m + 1, .lst us, hm, h => okRs_mono n m us (by omega) h
  | n + 1, m + 1, .dct ks us, hm, h => by
    rw [okR, Bool.and_eq_true] at h ⊢
    exact ⟨h.1, okRs_mono n m us (by omega) h.2⟩
  | n, m, .rep _, _, h => by cases n <;> cases h
  | n, m, .bag, _, h => by cases n <;> cases h
theorem okRs_mono : ∀ (n m : Nat) (us : List U), n ≤ m → okRs n us = true → okRs m us = true
  | n, m, [], _, _ => rfl
  | n, m, u :: us, hm, h => by
    rw [okRs, Bool.and_eq_true] at h ⊢
    exact ⟨okR_mono n m u hm h.1, okRs_mono n m us hm h.2⟩
end
theorem okRs_all {n : Nat} : ∀ {us : List U}, (∀ u ∈ us, okR n u = true) → okRs n us = true
  | [], _ => rfl
  | u :: us, h => by rw [okRs, h u List.mem_cons_self, okRs_all fun v hv => h v (List.mem_cons_of_mem _ hv)]; rfl
/-- as Nice, dicts too -/
def NiceR (n c : Nat) (u : U) : Prop := okR n u = true ∧ cst u ≤ c
theorem Nice.r {n c : Nat} {u : U} (h : Nice n c u) : NiceR n c u := ⟨okR_of _ _ h.1, h.2⟩
theorem NiceR.mono {n m c d : Nat} {u : U} (h : NiceR n c u) (hn : n ≤ m) (hc : c ≤ d) : NiceR m d u := ⟨okR_mono n m u hn h.1, Nat.le_trans h.2 hc⟩
theorem niceR_tup {n c : Nat} {us : List U} (h : ∀ u ∈ us, NiceR n c u) : NiceR (n + 1) (us.length * (c + 2) + 3) (.tup us) :=
  ⟨okRs_all fun u hu => (h u hu).1, by rw [cst_tup]; exact Nat.add_le_add_right (csts_le fun u hu => (h u hu).2) 3⟩
theorem niceR_lst {n c : Nat} {us : List U} (h : ∀ u ∈ us, NiceR n c u) : NiceR (n + 1) (us.length * (c + 2) + 3) (.lst us) :=
  ⟨okRs_all fun u hu => (h u hu).1, by rw [cst_lst]; exact Nat.le_trans (Nat.add_le_add_right (csts_le fun u hu => (h u hu).2) 2) (by omega)⟩
theorem reprR_v {n c : Nat} {u : U} (h : NiceR n c u) (hn : n ≤ 60) (hc : c ≤ 10000000) : vblt .repr [u] = some (false, .rep (pyU u)) := by
  obtain ⟨a, b, d⟩ := okR_py n 60 u hn h.1
  have hs : showCost (pyU u) ≤ sizeLine := Nat.le_trans h.2 (Nat.le_trans hc (by decide))
  unfold vblt
  simp only [a]
  rw [if_pos (by rw [b, d]; simp [hs])]
theorem eqR_rep {n : Nat} {u : U} (h : okR n u = true) : veq (.rep (pyU u)) (.rep (pyU u)) = some true := by
  unfold veq; simp only [sameR_py n u h, if_true]
end PL

set_option Elab.async false
set_option linter.all false
set_option maxRecDepth 100000
set_option maxHeartbeats 4000000
namespace K
open PySem PySem.Spec PyProof.Rows L2
def top (i : Nat) : Stmt := PySem.Challenge.pw_keptmarks_k13_whole_neighbours_of_books.main.body.getD i (.Pass ⟨0, 0, 0, 0⟩)
/-- all_entries -/
def n0 : List Str := ["marks", "ways"]
def f0 : PL.Fn := ⟨0, 2, (.cons (.asg (.name 0) (.ent [⟨#[110, 111, 110, 101]⟩, ⟨#[112, 101, 114, 104, 97, 112, 115]⟩, ⟨#[115, 117, 114, 101]⟩]))
    (.cons (.asg (.name 1) (.ent [⟨#[97, 110, 115, 119, 101, 114]⟩, ⟨#[99, 104, 101, 99, 107]⟩, ⟨#[119, 111, 114, 107]⟩]))
    (.cons (.ret (.tup (.cons (.tup (.cons (.cS ⟨#[114, 101, 97, 100, 101, 114, 115]⟩) (.cons (.var 0) .nil))) (.cons (.tup (.cons (.cS ⟨#[102, 117, 114, 116, 104, 101, 114]⟩) (.cons (.var 0) .nil))) (.cons (.tup (.cons (.cS ⟨#[115, 116, 111, 112]⟩) (.cons (.ent [⟨#[109, 97, 114, 107, 101, 100]⟩, ⟨#[117, 110, 114, 97, 105, 115, 101, 100]⟩, ⟨#[110, 101, 118, 101, 114]⟩]) .nil))) (.cons (.tup (.cons (.cS ⟨#[112, 101, 114, 104, 97, 112, 115]⟩) (.cons (.var 1) .nil))) (.cons (.tup (.cons (.cS ⟨#[115, 117, 114, 101]⟩) (.cons (.var 1) .nil))) (.cons (.tup (.cons (.cS ⟨#[99, 104, 101, 99, 107]⟩) (.cons (.ent [⟨#[118, 97, 108, 117, 101, 115]⟩, ⟨#[109, 97, 114, 107]⟩]) .nil))) (.cons (.tup (.cons (.cS ⟨#[99, 104, 97, 110, 103, 101]⟩) (.cons (.ent [⟨#[110, 111, 110, 101]⟩, ⟨#[115, 117, 114, 101]⟩]) .nil))) (.cons (.tup (.cons (.cS ⟨#[119, 114, 105, 116, 101]⟩) (.cons (.ent [⟨#[102, 105, 114, 115, 116]⟩, ⟨#[108, 97, 115, 116]⟩, ⟨#[98, 101, 116, 119, 101, 101, 110]⟩]) .nil))) (.cons (.tup (.cons (.cS ⟨#[115, 116, 114, 105, 107, 101]⟩) (.cons (.ent [⟨#[97, 104, 101, 97, 100]⟩, ⟨#[98, 101, 104, 105, 110, 100]⟩, ⟨#[117, 110, 108, 101, 115, 115]⟩]) .nil))) (.cons (.tup (.cons (.cS ⟨#[101, 110, 116, 101, 114]⟩) (.cons (.ent [⟨#[97, 104, 101, 97, 100]⟩, ⟨#[98, 101, 104, 105, 110, 100]⟩]) .nil))) (.cons (.tup (.cons (.cS ⟨#[111, 108, 100]⟩) (.cons (.ent [⟨#[115, 116, 114, 117, 99, 107]⟩, ⟨#[107, 101, 112, 116]⟩]) .nil))) (.cons (.tup (.cons (.cS ⟨#[104, 97, 110, 100, 115]⟩) (.cons (.ent [⟨#[111, 110, 101]⟩, ⟨#[97, 110, 121]⟩]) .nil))) .nil))))))))))))))
    .nil)))⟩
/-- book_error -/
def n1 : List Str := ["value", "entry", "word"]
def f1 : PL.Fn := ⟨1, 3, (.cons (.ite (.or2 (.not (.val (.blt (.isi .tup) (.cons (.var 0) .nil)))) (.or1 (.vc .ne (.blt .len (.cons (.var 0) .nil)) (.blt .len (.cons (.call 0 .nil) .nil))))) (.cons (.ret (.cS ⟨#[102, 111, 114, 109]⟩))
    .nil) .nil)
    (.cons (.for_ (.tup (.cons (.name 1) (.cons (.name 2) .nil))) .zip (.cons (.call 0 .nil) (.cons (.var 0) .nil)) (.cons (.ite (.vc .notin (.var 2) (.idx (.var 1) (.cI 1))) (.cons (.ret (.idx (.var 1) (.cI 0)))
    .nil) .nil)
    .nil))
    (.cons (.ret .cN)
    .nil)))⟩
/-- with_word -/
def n2 : List Str := ["book", "place", "word"]
def f2 : PL.Fn := ⟨3, 3, (.cons (.ret (.stup [true, false, true] (.cons (.sl (.var 0) .cN (.var 1)) (.cons (.var 2) (.cons (.sl (.var 0) (.bin .add (.var 1) (.cI 1)) .cN) .nil)))))
    .nil)⟩
/-- altered -/
def n3 : List Str := ["book", "name", "word", "place", "entry"]
def f3 : PL.Fn := ⟨3, 5, (.cons (.for_ (.tup (.cons (.name 3) (.cons (.name 4) .nil))) .enum (.cons (.call 0 .nil) .nil) (.cons (.ite (.and2 (.vc .eq (.idx (.var 4) (.cI 0)) (.var 1)) (.and1 (.vc .isin (.var 2) (.idx (.var 4) (.cI 1))))) (.cons (.ret (.call 2 (.cons (.var 0) (.cons (.var 3) (.cons (.var 2) .nil)))))
    .nil) .nil)
    .nil))
    (.cons .never
    .nil))⟩
/-- book_number -/
def n4 : List Str := ["book", "found", "entry", "word"]
def f4 : PL.Fn := ⟨1, 4, (.cons (.asg (.name 1) (.cI 0))
    (.cons (.for_ (.tup (.cons (.name 2) (.cons (.name 3) .nil))) .zip (.cons (.call 0 .nil) (.cons (.var 0) .nil)) (.cons (.asg (.name 1) (.bin .add (.bin .mul (.var 1) (.blt .len (.cons (.idx (.var 2) (.cI 1)) .nil))) (.ixm (.idx (.var 2) (.cI 1)) (.var 3))))
    .nil))
    (.cons (.ret (.var 1))
    .nil)))⟩
/-- neighbours -/
def n5 : List Str := ["book", "found", "place", "entry", "others", "word", "other", "number"]
def f5 : PL.Fn := ⟨1, 8, (.cons (.asg (.name 1) (.lst .nil))
    (.cons (.for_ (.tup (.cons (.name 2) (.cons (.name 3) .nil))) .enum (.cons (.call 0 .nil) .nil) (.cons (.asgC 4 [5] (.call 2 (.cons (.var 0) (.cons (.var 2) (.cons (.var 5) .nil)))) (.name 5) .plain (.cons (.idx (.var 3) (.cI 1)) .nil) (.vc .ne (.var 5) (.idx (.var 0) (.var 2))))
    (.cons (.exp (.meth .extend (.var 1) (.cons (.lc [6] (.tup (.cons (.call 4 (.cons (.var 6) .nil)) (.cons (.var 6) .nil))) (.name 6) .plain (.cons (.var 4) .nil) .yes) .nil)))
    .nil)))
    (.cons (.ret (.blt .tuple (.cons (.lc [7, 6] (.var 6) (.tup (.cons (.name 7) (.cons (.name 6) .nil))) .plain (.cons (.blt .srt (.cons (.var 1) .nil)) .nil) .yes) .nil)))
    .nil)))⟩
/-- _law_deck -/
def n6 : List Str := ["script", "deck", "cell", "whole", "state"]
def f6 : PL.Fn := ⟨1, 5, (.cons (.asg (.name 1) (.dic [.inr ⟨#[100, 101, 101, 112]⟩, .inr ⟨#[115, 116, 97, 116, 101]⟩] (.cons (.lst .nil) (.cons (.bin .add (.cI 1572313) (.blt .len (.cons (.sl (.var 0) .cN (.cI 63)) .nil))) .nil))))
    (.cons (.for_ (.name 2) .plain (.cons (.sl (.var 0) .cN (.cI 63)) .nil) (.cons (.asg (.name 3) (.blt .abs (.cons (.var 2) .nil)))
    (.cons (.ite (.vc .ge (.var 3) (.bin .pow (.cI 10) (.cI 18))) (.cons (.asg (.sub (.var 1) (.cS ⟨#[100, 101, 101, 112]⟩)) (.bin .add (.lst (.cons (.var 3) .nil)) (.idx (.var 1) (.cS ⟨#[100, 101, 101, 112]⟩))))
    .nil) .nil)
    (.cons (.asg (.name 4) (.bin .add (.bin .mul (.bin .add (.bin .add (.bin .add (.idx (.var 1) (.cS ⟨#[115, 116, 97, 116, 101]⟩)) (.bin .mul (.cI 2) (.var 3))) (.blt .int (.cons (.cmp .lt (.var 2) (.cI 0)) .nil))) (.cI 1)) (.cI 1181783497276652981)) (.cI 521288629)))
    (.cons (.asg (.sub (.var 1) (.cS ⟨#[115, 116, 97, 116, 101]⟩)) (.bin .md (.blt .int (.cons (.var 4) .nil)) (.cI 2305843009213693951)))
    .nil)))))
    (.cons (.ret (.var 1))
    .nil)))⟩
/-- _law_draw -/
def n7 : List Str := ["deck", "many", "whole", "one", "two"]
def f7 : PL.Fn := ⟨2, 5, (.cons (.ite (.vc .lt (.var 1) (.cI 2)) (.cons (.ret (.cI 0))
    .nil) .nil)
    (.cons (.ite (.vc .ne (.idx (.var 0) (.cS ⟨#[100, 101, 101, 112]⟩)) (.lst .nil)) (.cons (.asg (.name 2) (.meth .pop0 (.idx (.var 0) (.cS ⟨#[100, 101, 101, 112]⟩)) .nil))
    (.cons (.ite (.vc .ge (.var 2) (.var 1)) (.cons (.exp (.meth .append (.idx (.var 0) (.cS ⟨#[100, 101, 101, 112]⟩)) (.cons (.bin .fdiv (.var 2) (.var 1)) .nil)))
    .nil) .nil)
    (.cons (.ret (.bin .md (.blt .int (.cons (.var 2) .nil)) (.var 1)))
    .nil))) .nil)
    (.cons (.asg (.name 3) (.bin .md (.blt .int (.cons (.bin .add (.bin .mul (.idx (.var 0) (.cS ⟨#[115, 116, 97, 116, 101]⟩)) (.cI 1181783497276652981)) (.cI 88172645463325)) .nil)) (.cI 2305843009213693951)))
    (.cons (.asg (.sub (.var 0) (.cS ⟨#[115, 116, 97, 116, 101]⟩)) (.var 3))
    (.cons (.asg (.name 4) (.bin .md (.blt .int (.cons (.bin .add (.bin .add (.bin .mul (.var 3) (.var 3)) (.bin .mul (.cI 374761393) (.var 3))) (.cI 11)) .nil)) (.cI 2305843009213693921)))
    (.cons (.ret (.bin .md (.blt .int (.cons (.bin .fdiv (.var 4) (.cI 1048576)) .nil)) (.var 1)))
    .nil))))))⟩
/-- _law_pick -/
def n8 : List Str := ["deck", "items"]
def f8 : PL.Fn := ⟨2, 2, (.cons (.ret (.idx (.var 1) (.call 7 (.cons (.var 0) (.cons (.blt .len (.cons (.var 1) .nil)) .nil)))))
    .nil)⟩
/-- _law_entries -/
def n9 : List Str := ["marks", "looks", "found"]
def f9 : PL.Fn := ⟨0, 3, (.cons (.par [0, 1] (.cons (.lst (.cons (.cS ⟨#[110, 111, 110, 101]⟩) (.cons (.cS ⟨#[112, 101, 114, 104, 97, 112, 115]⟩) (.cons (.cS ⟨#[115, 117, 114, 101]⟩) .nil)))) (.cons (.lst (.cons (.cS ⟨#[97, 110, 115, 119, 101, 114]⟩) (.cons (.cS ⟨#[99, 104, 101, 99, 107]⟩) (.cons (.cS ⟨#[119, 111, 114, 107]⟩) .nil)))) .nil)))
    (.cons (.asg (.name 2) (.lst (.cons (.tup (.cons (.cS ⟨#[114, 101, 97, 100, 101, 114, 115]⟩) (.cons (.var 0) .nil))) (.cons (.tup (.cons (.cS ⟨#[102, 117, 114, 116, 104, 101, 114]⟩) (.cons (.var 0) .nil))) (.cons (.tup (.cons (.cS ⟨#[115, 116, 111, 112]⟩) (.cons (.lst (.cons (.cS ⟨#[109, 97, 114, 107, 101, 100]⟩) (.cons (.cS ⟨#[117, 110, 114, 97, 105, 115, 101, 100]⟩) (.cons (.cS ⟨#[110, 101, 118, 101, 114]⟩) .nil)))) .nil))) (.cons (.tup (.cons (.cS ⟨#[112, 101, 114, 104, 97, 112, 115]⟩) (.cons (.var 1) .nil))) .nil))))))
    (.cons (.asg (.name 2) (.bin .add (.var 2) (.lst (.cons (.tup (.cons (.cS ⟨#[115, 117, 114, 101]⟩) (.cons (.var 1) .nil))) (.cons (.tup (.cons (.cS ⟨#[99, 104, 101, 99, 107]⟩) (.cons (.lst (.cons (.cS ⟨#[118, 97, 108, 117, 101, 115]⟩) (.cons (.cS ⟨#[109, 97, 114, 107]⟩) .nil))) .nil))) (.cons (.tup (.cons (.cS ⟨#[99, 104, 97, 110, 103, 101]⟩) (.cons (.lst (.cons (.cS ⟨#[110, 111, 110, 101]⟩) (.cons (.cS ⟨#[115, 117, 114, 101]⟩) .nil))) .nil))) .nil))))))
    (.cons (.asg (.name 2) (.bin .add (.var 2) (.lst (.cons (.tup (.cons (.cS ⟨#[119, 114, 105, 116, 101]⟩) (.cons (.lst (.cons (.cS ⟨#[102, 105, 114, 115, 116]⟩) (.cons (.cS ⟨#[108, 97, 115, 116]⟩) (.cons (.cS ⟨#[98, 101, 116, 119, 101, 101, 110]⟩) .nil)))) .nil))) (.cons (.tup (.cons (.cS ⟨#[115, 116, 114, 105, 107, 101]⟩) (.cons (.lst (.cons (.cS ⟨#[97, 104, 101, 97, 100]⟩) (.cons (.cS ⟨#[98, 101, 104, 105, 110, 100]⟩) (.cons (.cS ⟨#[117, 110, 108, 101, 115, 115]⟩) .nil)))) .nil))) .nil)))))
    (.cons (.ret (.bin .add (.var 2) (.lst (.cons (.tup (.cons (.cS ⟨#[101, 110, 116, 101, 114]⟩) (.cons (.lst (.cons (.cS ⟨#[97, 104, 101, 97, 100]⟩) (.cons (.cS ⟨#[98, 101, 104, 105, 110, 100]⟩) .nil))) .nil))) (.cons (.tup (.cons (.cS ⟨#[111, 108, 100]⟩) (.cons (.lst (.cons (.cS ⟨#[115, 116, 114, 117, 99, 107]⟩) (.cons (.cS ⟨#[107, 101, 112, 116]⟩) .nil))) .nil))) (.cons (.tup (.cons (.cS ⟨#[104, 97, 110, 100, 115]⟩) (.cons (.lst (.cons (.cS ⟨#[111, 110, 101]⟩) (.cons (.cS ⟨#[97, 110, 121]⟩) .nil))) .nil))) .nil))))))
    .nil)))))⟩
/-- _law_book -/
def n10 : List Str := ["deck", "name", "words"]
def f10 : PL.Fn := ⟨1, 3, (.cons (.ret (.blt .tuple (.cons (.lc [1, 2] (.call 8 (.cons (.var 0) (.cons (.var 2) .nil))) (.tup (.cons (.name 1) (.cons (.name 2) .nil))) .plain (.cons (.call 9 .nil) .nil) .yes) .nil)))
    .nil)⟩
/-- _law_near -/
def n11 : List Str := ["book", "number", "found", "unit", "place", "words", "own", "spot", "word", "far", "other"]
def f11 : PL.Fn := ⟨1, 11, (.cons (.par [1, 2, 3] (.cons (.cI 0) (.cons (.lst .nil) (.cons (.cI 1) .nil))))
    (.cons (.for_ (.name 4) .range3 (.cons (.cI 11) (.cons (.neg (.cI 1)) (.cons (.neg (.cI 1)) .nil))) (.cons (.asg (.name 5) (.idx (.idx (.call 9 .nil) (.var 4)) (.cI 1)))
    (.cons (.asg (.name 6) (.ixm (.var 5) (.idx (.var 0) (.var 4))))
    (.cons (.asg (.name 1) (.bin .add (.var 1) (.bin .mul (.var 3) (.var 6))))
    (.cons (.for_ (.tup (.cons (.name 7) (.cons (.name 8) .nil))) .enum (.cons (.var 5) .nil) (.cons (.ite (.vc .ne (.var 7) (.var 6)) (.cons (.exp (.meth .append (.var 2) (.cons (.tup (.cons (.bin .mul (.var 3) (.bin .sub (.var 7) (.var 6))) (.cons (.bin .add (.bin .add (.sl (.var 0) .cN (.var 4)) (.tup (.cons (.var 8) .nil))) (.sl (.var 0) (.bin .add (.var 4) (.cI 1)) .cN)) .nil))) .nil)))
    .nil) .nil)
    .nil))
    (.cons (.asg (.name 3) (.bin .mul (.var 3) (.blt .len (.cons (.var 5) .nil))))
    .nil))))))
    (.cons (.ret (.lc [9, 10] (.tup (.cons (.bin .add (.var 1) (.var 9)) (.cons (.var 10) .nil))) (.tup (.cons (.name 9) (.cons (.name 10) .nil))) .plain (.cons (.blt .srt (.cons (.var 2) .nil)) .nil) .yes))
    .nil)))⟩
/-- _law_are_right -/
def n12 : List Str := ["book", "is_named", "near", "known", "found", "due", "number", "other"]
def f12 : PL.Fn := ⟨2, 8, (.cons (.par [2, 3] (.cons (.call 11 (.cons (.var 0) .nil)) (.cons (.blt .repr (.cons (.var 0) .nil)) .nil)))
    (.cons (.asg (.name 4) (.ife (.val (.var 1)) (.callK 5 .nil (.cons (.var 0) .nil) [0]) (.call 5 (.cons (.var 0) .nil))))
    (.cons (.asg (.name 5) (.blt .repr (.cons (.blt .tuple (.cons (.lc [6, 7] (.var 7) (.tup (.cons (.name 6) (.cons (.name 7) .nil))) .plain (.cons (.var 2) .nil) .yes) .nil)) .nil)))
    (.cons (.ite (.or2 (.vc .ne (.blt .repr (.cons (.var 4) .nil)) (.var 5)) (.or2 (.vc .ne (.blt .len (.cons (.var 4) .nil)) (.cI 19)) (.or2 (.vc .ne (.blt .repr (.cons (.call 5 (.cons (.var 0) .nil)) .nil)) (.var 5)) (.or1 (.vc .ne (.blt .repr (.cons (.var 0) .nil)) (.var 3)))))) (.cons (.ret (.cB false))
    .nil) .nil)
    (.cons (.for_ (.tup (.cons (.name 6) (.cons (.name 7) .nil))) .plain (.cons (.var 2) .nil) (.cons (.ite (.or2 (.vc .isnn (.call 1 (.cons (.var 7) .nil)) .cN) (.or1 (.vc .ne (.blt .repr (.cons (.call 4 (.cons (.var 7) .nil)) .nil)) (.blt .repr (.cons (.var 6) .nil))))) (.cons (.ret (.cB false))
    .nil) .nil)
    .nil))
    (.cons (.ret (.cB true))
    .nil))))))⟩
/-- law -/
def n13 : List Str := ["script", "deck", "turn", "book", "near", "again", "other", "spots", "spot", "name"]
def f13 : PL.Fn := ⟨1, 10, (.cons (.asg (.name 1) (.call 6 (.cons (.var 0) .nil)))
    (.cons (.for_ (.name 2) .range1 (.cons (.cI 3) .nil) (.cons (.asg (.name 3) (.call 10 (.cons (.var 1) .nil)))
    (.cons (.ite (.not (.val (.call 12 (.cons (.var 3) (.cons (.cmp .eq (.var 2) (.cI 1)) .nil))))) (.cons (.ret (.cB false))
    .nil) .nil)
    (.cons (.asg (.name 4) (.blt .list (.cons (.call 5 (.cons (.var 3) .nil)) .nil)))
    (.cons (.for_ (.name 5) .range1 (.cons (.cI 2) .nil) (.cons (.asg (.name 6) (.call 8 (.cons (.var 1) (.cons (.var 4) .nil))))
    (.cons (.ite (.or2 (.not (.val (.call 12 (.cons (.var 6) (.cons (.cB false) .nil))))) (.or1 (.vc .notin (.var 3) (.call 5 (.cons (.var 6) .nil))))) (.cons (.ret (.cB false))
    .nil) .nil)
    (.cons (.asgC 7 [8] (.var 8) (.name 8) .range1 (.cons (.cI 12) .nil) (.vc .ne (.idx (.var 6) (.var 8)) (.idx (.var 3) (.var 8))))
    (.cons (.asg (.name 9) (.idx (.idx (.call 9 .nil) (.idx (.var 7) (.cI 0))) (.cI 0)))
    (.cons (.ite (.or2 (.vc .ne (.blt .len (.cons (.var 7) .nil)) (.cI 1)) (.or1 (.vc .ne (.blt .repr (.cons (.call 3 (.cons (.var 3) (.cons (.var 9) (.cons (.idx (.var 6) (.idx (.var 7) (.cI 0))) .nil)))) .nil)) (.blt .repr (.cons (.var 6) .nil))))) (.cons (.ret (.cB false))
    .nil) .nil)
    .nil))))))
    .nil)))))
    (.cons (.ret (.cB true))
    .nil)))⟩
def tab : PL.Tab where
  fns := [((0, "all_entries", []) : Nat × Str × List Str), ((1, "book_error", ["value"]) : Nat × Str × List Str), ((2, "with_word", ["book", "place", "word"]) : Nat × Str × List Str), ((3, "altered", ["book", "name", "word"]) : Nat × Str × List Str), ((4, "book_number", ["book"]) : Nat × Str × List Str), ((5, "neighbours", ["book"]) : Nat × Str × List Str), ((6, "_law_deck", ["script"]) : Nat × Str × List Str), ((7, "_law_draw", ["deck", "many"]) : Nat × Str × List Str), ((8, "_law_pick", ["deck", "items"]) : Nat × Str × List Str), ((9, "_law_entries", []) : Nat × Str × List Str), ((10, "_law_book", ["deck"]) : Nat × Str × List Str), ((11, "_law_near", ["book"]) : Nat × Str × List Str), ((12, "_law_are_right", ["book", "is_named"]) : Nat × Str × List Str), ((13, "law", ["script"]) : Nat × Str × List Str)]
  kws := [(5, 0, ["book"], [0])]
  free := ["isinstance", "tuple", "len", "zip", "enumerate", "sorted", "abs", "int", "range", "repr", "list"]
  cons := []
  kds := []
def progL : List PL.Fn := [f0, f1, f2, f3, f4, f5, f6, f7, f8, f9, f10, f11, f12, f13]
def prog (i : Nat) : Option PL.Fn := progL[i]?
theorem pr0 : prog 0 = some f0 := by kernel_rfl
theorem pr1 : prog 1 = some f1 := by kernel_rfl
theorem pr2 : prog 2 = some f2 := by kernel_rfl
theorem pr3 : prog 3 = some f3 := by kernel_rfl
theorem pr4 : prog 4 = some f4 := by kernel_rfl
theorem pr5 : prog 5 = some f5 := by kernel_rfl
theorem pr6 : prog 6 = some f6 := by kernel_rfl
theorem pr7 : prog 7 = some f7 := by kernel_rfl
theorem pr8 : prog 8 = some f8 := by kernel_rfl
theorem pr9 : prog 9 = some f9 := by kernel_rfl
theorem pr10 : prog 10 = some f10 := by kernel_rfl
theorem pr11 : prog 11 = some f11 := by kernel_rfl
theorem pr12 : prog 12 = some f12 := by kernel_rfl
theorem pr13 : prog 13 = some f13 := by kernel_rfl
def consL : List PL.D := []
def cons (i : Nat) : Option PL.D := consL[i]?
def GV (i : Nat) : Option PL.U := ([] : List PL.U)[i]?
theorem con_ok {σ : Type} {W : PL.Bg σ} : ∀ i u, GV i = some u → ∃ d, cons i = some d ∧ ∀ Z st, PL.Rep W Z st u d
  | n + 0, u, h => by cases h
theorem chk0 : PL.defB tab f0 (top 4) n0 [] = true := by decide +kernel
theorem chk1 : PL.defB tab f1 (top 5) n1 ["value"] = true := by decide +kernel
theorem chk2 : PL.defB tab f2 (top 6) n2 ["book", "place", "word"] = true := by decide +kernel
theorem chk3 : PL.defB tab f3 (top 7) n3 ["book", "name", "word"] = true := by decide +kernel
theorem chk4 : PL.defB tab f4 (top 8) n4 ["book"] = true := by decide +kernel
theorem chk5 : PL.defB tab f5 (top 9) n5 ["book"] = true := by decide +kernel
theorem chk6 : PL.defB tab f6 (top 11) n6 ["script"] = true := by decide +kernel
theorem chk7 : PL.defB tab f7 (top 12) n7 ["deck", "many"] = true := by decide +kernel
theorem chk8 : PL.defB tab f8 (top 13) n8 ["deck", "items"] = true := by decide +kernel
theorem chk9 : PL.defB tab f9 (top 14) n9 [] = true := by decide +kernel
theorem chk10 : PL.defB tab f10 (top 15) n10 ["deck"] = true := by decide +kernel
theorem chk11 : PL.defB tab f11 (top 16) n11 ["book"] = true := by decide +kernel
theorem chk12 : PL.defB tab f12 (top 17) n12 ["book", "is_named"] = true := by decide +kernel
theorem chk13 : PL.defB tab f13 (top 18) n13 ["script"] = true := by decide +kernel
/-! ### the head -/
def d0 : He.DefD := ⟨("all_entries", none), "all_entries", "all_entries", defArgs (top 4), defBody (top 4), defScope (top 4), [], []⟩
def d1 : He.DefD := ⟨("book_error", none), "book_error", "book_error", defArgs (top 5), defBody (top 5), defScope (top 5), [], []⟩
def d2 : He.DefD := ⟨("with_word", none), "with_word", "with_word", defArgs (top 6), defBody (top 6), defScope (top 6), [], []⟩
def d3 : He.DefD := ⟨("altered", none), "altered", "altered", defArgs (top 7), defBody (top 7), defScope (top 7), [], []⟩
def d4 : He.DefD := ⟨("book_number", none), "book_number", "book_number", defArgs (top 8), defBody (top 8), defScope (top 8), [], []⟩
def d5 : He.DefD := ⟨("neighbours", none), "neighbours", "neighbours", defArgs (top 9), defBody (top 9), defScope (top 9), [], []⟩
def d6 : He.DefD := ⟨("_law_deck", none), "_law_deck", "_law_deck", defArgs (top 11), defBody (top 11), defScope (top 11), [], []⟩
def d7 : He.DefD := ⟨("_law_draw", none), "_law_draw", "_law_draw", defArgs (top 12), defBody (top 12), defScope (top 12), [], []⟩
def d8 : He.DefD := ⟨("_law_pick", none), "_law_pick", "_law_pick", defArgs (top 13), defBody (top 13), defScope (top 13), [], []⟩
def d9 : He.DefD := ⟨("_law_entries", none), "_law_entries", "_law_entries", defArgs (top 14), defBody (top 14), defScope (top 14), [], []⟩
def d10 : He.DefD := ⟨("_law_book", none), "_law_book", "_law_book", defArgs (top 15), defBody (top 15), defScope (top 15), [], []⟩
def d11 : He.DefD := ⟨("_law_near", none), "_law_near", "_law_near", defArgs (top 16), defBody (top 16), defScope (top 16), [], []⟩
def d12 : He.DefD := ⟨("_law_are_right", none), "_law_are_right", "_law_are_right", defArgs (top 17), defBody (top 17), defScope (top 17), [], []⟩
def d13 : He.DefD := ⟨("law", none), "law", "law", defArgs (top 18), defBody (top 18), defScope (top 18), [], []⟩
def fn : List He.DefD := [d0, d1, d2, d3, d4, d5, d6, d7, d8, d9, d10, d11, d12, d13]
def fa : List He.Fa := [.glo "all_entries", .glo "book_error", .glo "with_word", .glo "altered", .glo "book_number", .glo "neighbours", .glo "_law_deck", .glo "_law_draw", .glo "_law_pick", .glo "_law_entries", .glo "_law_book", .glo "_law_near", .glo "_law_are_right", .glo "law", .free "isinstance", .free "tuple", .free "len", .free "zip", .free "enumerate", .free "sorted", .free "abs", .free "int", .free "range", .free "repr", .free "list"]
abbrev R : PySem.W.OpenRow := PySem.W.OpenLaw.row PySem.Challenge.rw_keptmarks_k13_whole_neighbours_of_books
def ts : List He.Tab := []
def cs : List PL.Ck := []
abbrev hk : PySem.W.Hook := PL.hookS 4 fa fn ts cs
def ob (s : PySem.W.SharedT) : PL.AlS := PL.obsS 4 fa fn ts cs (HandSHeadRun.getT s)
theorem ob_eq (s : PySem.W.SharedT) : ob s = hk.obs s.abs := PL.obsS_eq (HandSHeadRun.getT_eq s)
def loose : List Str := (["all_entries", "book_error", "with_word", "altered", "book_number", "neighbours", "_law_deck", "_law_draw", "_law_pick", "_law_entries", "_law_book", "_law_near", "_law_are_right", "MarkError", "Unfit"] : List Str)
theorem run_top (w : World) : HandSHeadRun.RunEq R (PySem.W.view R.prog [18]) hk ob 1160 loose w := by
  intro os
  kernel_rfl
theorem lk_none {α : Type} : ∀ {l : List (Nat × α)} {m n : Nat}, (l.all fun x => decide (x.1 < m)) = true → m ≤ n → l.lookup n = none
  | [], _, _, _, _ => rfl
  | (k, a) :: l, m, n, h, hn => by
    rw [List.all_cons, Bool.and_eq_true] at h
    have h1 : k < m := of_decide_eq_true h.1
    rw [List.lookup_cons, show (n == k) = false from beq_eq_false_iff_ne.mpr (by omega)]
    exact lk_none h.2 hn
theorem mods {K : PySem.W.Frag} {w : World} {h : Heap} {mg : Str → Option Value} (X : K.In h) (G : h.Ns mainGlobals mg) (ct : He.SaysT fa fn ts w K) (c : He.SaysD fa fn K) (hcs : PL.chS cs K = true) : PL.Mods tab prog cons K w mg where
  sys := PL.chS_sys hcs
  defs := fun i x ps hi => by
    match i, hi with
    | 0, hi =>
      cases hi
      obtain ⟨fd, F⟩ := c.def_ 0 (d := d0) rfl
      refine ⟨_, fd, PL.defOk_by (st := top 4) (N := n0) (He.glo_ok X G (c.fact 0 (f := .glo "all_entries") rfl)) F rfl chk0 (fun _ _ _ _ _ _ us hl => match us, hl with | [], _ => rfl) ?_⟩
      intro q hq
      exact absurd (show q ∈ ([] : List (Nat × List Str × List Nat)) from hq) (by simp)
    | 1, hi =>
      cases hi
      obtain ⟨fd, F⟩ := c.def_ 1 (d := d1) rfl
      refine ⟨_, fd, PL.defOk_by (st := top 5) (N := n1) (He.glo_ok X G (c.fact 1 (f := .glo "book_error") rfl)) F rfl chk1 (fun _ _ _ _ _ _ us hl => match us, hl with | [_], _ => rfl) ?_⟩
      intro q hq
      exact absurd (show q ∈ ([] : List (Nat × List Str × List Nat)) from hq) (by simp)
    | 2, hi =>
      cases hi
      obtain ⟨fd, F⟩ := c.def_ 2 (d := d2) rfl
      refine ⟨_, fd, PL.defOk_by (st := top 6) (N := n2) (He.glo_ok X G (c.fact 2 (f := .glo "with_word") rfl)) F rfl chk2 (fun _ _ _ _ _ _ us hl => match us, hl with | [_, _, _], _ => rfl) ?_⟩
      intro q hq
      exact absurd (show q ∈ ([] : List (Nat × List Str × List Nat)) from hq) (by simp)
    | 3, hi =>
      cases hi
      obtain ⟨fd, F⟩ := c.def_ 3 (d := d3) rfl
      refine ⟨_, fd, PL.defOk_by (st := top 7) (N := n3) (He.glo_ok X G (c.fact 3 (f := .glo "altered") rfl)) F rfl chk3 (fun _ _ _ _ _ _ us hl => match us, hl with | [_, _, _], _ => rfl) ?_⟩
      intro q hq
      exact absurd (show q ∈ ([] : List (Nat × List Str × List Nat)) from hq) (by simp)
    | 4, hi =>
      cases hi
      obtain ⟨fd, F⟩ := c.def_ 4 (d := d4) rfl
      refine ⟨_, fd, PL.defOk_by (st := top 8) (N := n4) (He.glo_ok X G (c.fact 4 (f := .glo "book_number") rfl)) F rfl chk4 (fun _ _ _ _ _ _ us hl => match us, hl with | [_], _ => rfl) ?_⟩
      intro q hq
      exact absurd (show q ∈ ([] : List (Nat × List Str × List Nat)) from hq) (by simp)
    | 5, hi =>
      cases hi
      obtain ⟨fd, F⟩ := c.def_ 5 (d := d5) rfl
      refine ⟨_, fd, PL.defOk_by (st := top 9) (N := n5) (He.glo_ok X G (c.fact 5 (f := .glo "neighbours") rfl)) F rfl chk5 (fun _ _ _ _ _ _ us hl => match us, hl with | [_], _ => rfl) ?_⟩
      intro q hq
      have hq : q ∈ ([(0, ["book"], [0])] : List (Nat × List Str × List Nat)) := hq
      simp only [List.mem_cons, List.not_mem_nil, or_false] at hq
      subst hq
      exact fun _ _ _ _ _ _ us ws l1 l2 => match us, ws, l1, l2 with | [], [_], _, _ => rfl
    | 6, hi =>
      cases hi
      obtain ⟨fd, F⟩ := c.def_ 6 (d := d6) rfl
      refine ⟨_, fd, PL.defOk_by (st := top 11) (N := n6) (He.glo_ok X G (c.fact 6 (f := .glo "_law_deck") rfl)) F rfl chk6 (fun _ _ _ _ _ _ us hl => match us, hl with | [_], _ => rfl) ?_⟩
      intro q hq
      exact absurd (show q ∈ ([] : List (Nat × List Str × List Nat)) from hq) (by simp)
    | 7, hi =>
      cases hi
      obtain ⟨fd, F⟩ := c.def_ 7 (d := d7) rfl
      refine ⟨_, fd, PL.defOk_by (st := top 12) (N := n7) (He.glo_ok X G (c.fact 7 (f := .glo "_law_draw") rfl)) F rfl chk7 (fun _ _ _ _ _ _ us hl => match us, hl with | [_, _], _ => rfl) ?_⟩
      intro q hq
      exact absurd (show q ∈ ([] : List (Nat × List Str × List Nat)) from hq) (by simp)
    | 8, hi =>
      cases hi
      obtain ⟨fd, F⟩ := c.def_ 8 (d := d8) rfl
      refine ⟨_, fd, PL.defOk_by (st := top 13) (N := n8) (He.glo_ok X G (c.fact 8 (f := .glo "_law_pick") rfl)) F rfl chk8 (fun _ _ _ _ _ _ us hl => match us, hl with | [_, _], _ => rfl) ?_⟩
      intro q hq
      exact absurd (show q ∈ ([] : List (Nat × List Str × List Nat)) from hq) (by simp)
    | 9, hi =>
      cases hi
      obtain ⟨fd, F⟩ := c.def_ 9 (d := d9) rfl
      refine ⟨_, fd, PL.defOk_by (st := top 14) (N := n9) (He.glo_ok X G (c.fact 9 (f := .glo "_law_entries") rfl)) F rfl chk9 (fun _ _ _ _ _ _ us hl => match us, hl with | [], _ => rfl) ?_⟩
      intro q hq
      exact absurd (show q ∈ ([] : List (Nat × List Str × List Nat)) from hq) (by simp)
    | 10, hi =>
      cases hi
      obtain ⟨fd, F⟩ := c.def_ 10 (d := d10) rfl
      refine ⟨_, fd, PL.defOk_by (st := top 15) (N := n10) (He.glo_ok X G (c.fact 10 (f := .glo "_law_book") rfl)) F rfl chk10 (fun _ _ _ _ _ _ us hl => match us, hl with | [_], _ => rfl) ?_⟩
      intro q hq
      exact absurd (show q ∈ ([] : List (Nat × List Str × List Nat)) from hq) (by simp)
    | 11, hi =>
      cases hi
      obtain ⟨fd, F⟩ := c.def_ 11 (d := d11) rfl
      refine ⟨_, fd, PL.defOk_by (st := top 16) (N := n11) (He.glo_ok X G (c.fact 11 (f := .glo "_law_near") rfl)) F rfl chk11 (fun _ _ _ _ _ _ us hl => match us, hl with | [_], _ => rfl) ?_⟩
      intro q hq
      exact absurd (show q ∈ ([] : List (Nat × List Str × List Nat)) from hq) (by simp)
    | 12, hi =>
      cases hi
      obtain ⟨fd, F⟩ := c.def_ 12 (d := d12) rfl
      refine ⟨_, fd, PL.defOk_by (st := top 17) (N := n12) (He.glo_ok X G (c.fact 12 (f := .glo "_law_are_right") rfl)) F rfl chk12 (fun _ _ _ _ _ _ us hl => match us, hl with | [_, _], _ => rfl) ?_⟩
      intro q hq
      exact absurd (show q ∈ ([] : List (Nat × List Str × List Nat)) from hq) (by simp)
    | 13, hi =>
      cases hi
      obtain ⟨fd, F⟩ := c.def_ 13 (d := d13) rfl
      refine ⟨_, fd, PL.defOk_by (st := top 18) (N := n13) (He.glo_ok X G (c.fact 13 (f := .glo "law") rfl)) F rfl chk13 (fun _ _ _ _ _ _ us hl => match us, hl with | [_], _ => rfl) ?_⟩
      intro q hq
      exact absurd (show q ∈ ([] : List (Nat × List Str × List Nat)) from hq) (by simp)
    | n + 14, hi => exact absurd hi (by rw [show tab.fns.lookup (n + 14) = none from lk_none (m := 14) (by decide) (by omega)]; simp)
  free := fun x hx => by
    have hx : x ∈ (["isinstance", "tuple", "len", "zip", "enumerate", "sorted", "abs", "int", "range", "repr", "list"] : List Str) := hx
    simp only [List.mem_cons, List.not_mem_nil, or_false] at hx
    rcases hx with rfl | rfl | rfl | rfl | rfl | rfl | rfl | rfl | rfl | rfl | rfl
    · exact He.free_ok X G (c.fact 14 (f := .free "isinstance") rfl)
    · exact He.free_ok X G (c.fact 15 (f := .free "tuple") rfl)
    · exact He.free_ok X G (c.fact 16 (f := .free "len") rfl)
    · exact He.free_ok X G (c.fact 17 (f := .free "zip") rfl)
    · exact He.free_ok X G (c.fact 18 (f := .free "enumerate") rfl)
    · exact He.free_ok X G (c.fact 19 (f := .free "sorted") rfl)
    · exact He.free_ok X G (c.fact 20 (f := .free "abs") rfl)
    · exact He.free_ok X G (c.fact 21 (f := .free "int") rfl)
    · exact He.free_ok X G (c.fact 22 (f := .free "range") rfl)
    · exact He.free_ok X G (c.fact 23 (f := .free "repr") rfl)
    · exact He.free_ok X G (c.fact 24 (f := .free "list") rfl)
  con := fun i x d hi => by
    exact absurd hi (by simp [tab])
  kds := fun i x kvs hi => by
    exact absurd hi (by simp [tab])
end K

set_option Elab.async false
set_option linter.all false
set_option maxRecDepth 100000
set_option maxHeartbeats 4000000
/-! the deck of draws: deep, state -/
namespace K
open PL PySem
abbrev RC (n : Nat) := runC prog cons (fun _ => none) n
structure JS where
  s : Int
  ns : List Int
def jm (f : Nat) (s : Int) : List (L2.Key × D) := [(.inr ⟨#[100, 101, 101, 112]⟩, .ref f), (.inr ⟨#[115, 116, 97, 116, 101]⟩, .int s)]
def nxJ (s : Int) : Int := (s * 1181783497276652981 + 88172645463325) % 2305843009213693951
def mixJ (o : Int) : Int := (o * o + 374761393 * o + 11) % 2305843009213693921
def drJ (j : JS) (m : Int) : Int × JS := if m < 2 then (0, j) else match j.ns with
  | [] => (mixJ (nxJ j.s) / 1048576 % m, { j with s := nxJ j.s })
  | w :: ns => (w % m, { j with ns := if m ≤ w then w / m :: ns else ns })
def conJ (us : List U) (j : JS) : FR JS := match us with
  | [.bag, .int m] => if 0 < m ∧ m < 1000000 then .ok false (.int (drJ j m).1) (drJ j m).2 else .bad
  | _ => .bad
/-- so many draws may follow -/
def bud (_ : JS) : Nat := 1000000000
def RJ (r f : Nat) (st : Sto) (j : JS) : Prop := st[r]? = some (.dct (jm f j.s)) ∧ st[f]? = some (.lst (j.ns.reverse.map .int)) ∧ j.ns.length < 1000
def WJ (r f : Nat) : Bg JS where
  r := r
  ft := [r, f]
  R := RJ r f
  mem := List.mem_cons_self
  keep := fun st st' s h ⟨a, b, e⟩ => ⟨by rw [h r (by simp)]; exact a, by rw [h f (by simp)]; exact b, e⟩
  lt := fun st s ⟨a, b, _⟩ j hj => by
    simp only [List.mem_cons, List.not_mem_nil, or_false] at hj
    rcases hj with rfl | rfl
    · exact lt_of_get a
    · exact lt_of_get b
theorem gk1 {f : Nat} {s : Int} : getKV (jm f s) (.inr ⟨#[100, 101, 101, 112]⟩) = some (.ref f) := rfl
theorem gk3 {f : Nat} {s : Int} : getKV (jm f s) (.inr ⟨#[115, 116, 97, 116, 101]⟩) = some (.int s) := rfl
theorem pk3 {f : Nat} {s v : Int} : putKV (jm f s) (.inr ⟨#[115, 116, 97, 116, 101]⟩) (.int v) = jm f v := rfl
theorem jm_len {f : Nat} {s : Int} : (jm f s).length < sizeLine := by show 2 < sizeLine; decide
theorem small_l {i j : Int} (h : small64 i = true) : (small64 i || small64 j) = true := by rw [h]; rfl
theorem small_r {i j : Int} (h : small64 j = true) : (small64 i || small64 j) = true := by rw [h, Bool.or_true]
theorem small_of {i : Int} (h : -18446744073709551616 < i ∧ i < 18446744073709551616) : small64 i = true := by
  unfold small64
  simp only [Bool.and_eq_true, decide_eq_true_eq]
  omega
theorem small_md {i m : Int} (hm : 0 < m) (h2 : m < 18446744073709551616) : small64 (i % m) = true := small_of ⟨by have := Int.emod_nonneg i (b := m) (by omega); omega, by have := Int.emod_lt_of_pos i hm; omega⟩
def Fx (r f : Nat) (st st' : Sto) : Prop := st.length ≤ st'.length ∧ ∀ j, j < st.length → j ≠ r → j ≠ f → st'[j]? = st[j]?
theorem Fx.app {r f : Nat} {st l : Sto} : Fx r f st (st ++ l) := ⟨by simp, fun j h _ _ => List.getElem?_append_left h⟩
theorem Fx.refl {r f : Nat} {st : Sto} : Fx r f st st := ⟨Nat.le_refl _, fun _ _ _ _ => rfl⟩
theorem Fx.setR {r f : Nat} {st : Sto} {o : Ob} : Fx r f st (st.set r o) := ⟨by simp, fun j _ a _ => List.getElem?_set_ne (Ne.symm a)⟩
theorem Fx.setF {r f : Nat} {st : Sto} {o : Ob} : Fx r f st (st.set f o) := ⟨by simp, fun j _ _ a => List.getElem?_set_ne (Ne.symm a)⟩
theorem Fx.trans {r f : Nat} {st st1 st2 : Sto} (h : Fx r f st st1) (h' : Fx r f st1 st2) : Fx r f st st2 := ⟨Nat.le_trans h.1 h'.1, fun j a b c => by rw [h'.2 j (Nat.lt_of_lt_of_le a h.1) b c, h.2 j a b c]⟩
theorem drawJ_spec {n r f : Nat} {m : Int} {st : Sto} {j : JS} (hrf : r ≠ f) (h : RJ r f st j) (hm : 0 < m ∧ m < 1000000) : Wd (RC (n + 1) 7 [.ref r, .int m] st) fun d st' => d = .int (drJ j m).1 ∧ RJ r f st' (drJ j m).2 ∧ Fx r f st st' := by
  obtain ⟨s, ns⟩ := j
  obtain ⟨h1, h2, h6⟩ := h
  simp only [] at h1 h2 h6
  refine W_def (fn := f7) rfl pr7 rfl ?_
  simp only [f7, W_var, W_cI, W_cB, W_cS, W_cN, W_gcon, W_bin, W_neg, W_notE, W_and1, W_or1, W_and2, W_or2, W_cmp, W_ife, W_tup, W_lst, W_dic, W_call, W_callK, W_blt, W_meth, W_idx, W_sl, W_rev, W_nil, W_cons, W_val, W_vc, W_not, W_tand1, W_tor1, W_tand2, W_tor2, W_yes, W_name, W_tgt, W_tgsub, W_tgnil, W_tgcons, W_asg, W_par, W_exp, W_ret, W_if, W_snil, W_scons, Then_next, Then_ret, Back_ret, Back_next, Wd_ok, Wd_bad, List.map_cons, List.map_nil, List.replicate_succ, List.replicate_zero, List.cons_append, List.nil_append, List.getElem?_cons_zero, List.getElem?_cons_succ, List.set_cons_zero, List.set_cons_succ, Option.some.injEq, exists_eq_left', List.length_cons, List.length_nil, setAll]
  refine ⟨_, C_lt, ?_⟩
  by_cases h2m : m < 2
  · rw [if_pos (by simpa using h2m)]
    have e : drJ ⟨s, ns⟩ m = (0, ⟨s, ns⟩) := by unfold drJ; rw [if_pos h2m]
    rw [e]
    exact ⟨rfl, ⟨h1, h2, h6⟩, Fx.refl⟩
  rw [if_neg (by simpa using h2m)]
  have dr : drJ ⟨s, ns⟩ m = match ns with
    | [] => (mixJ (nxJ s) / 1048576 % m, ⟨nxJ s, []⟩)
    | w :: ns => (w % m, ⟨s, if m ≤ w then w / m :: ns else ns⟩) := by
    unfold drJ; rw [if_neg h2m]
    cases ns <;> rfl
  rw [dr]
  refine X_idxK.mpr ⟨_, h1, _, gk1, ?_⟩
  refine ⟨by decide, _, C_neNil (get_app h2) get_new, ?_⟩
  have a1 : (st ++ [Ob.lst []])[r]? = some (.dct (jm f s)) := get_app h1
  have a2 : (st ++ [Ob.lst []])[f]? = some (.lst (ns.reverse.map .int)) := get_app h2
  have fr1 : Fx r f st (st ++ [Ob.lst []]) := Fx.app
  generalize hst1 : st ++ [Ob.lst []] = st1 at a1 a2 fr1
  cases ns with
  | nil =>
    rw [if_neg (by simp)]
    refine X_idxK.mpr ⟨_, a1, _, gk3, ?_⟩
    simp only [X_add, X_mul, X_int, X_md]
    refine ⟨small_r (by decide), by decide, ?_⟩
    refine X_setK.mpr ⟨_, a1, jm_len, ?_⟩
    rw [pk3]
    have b1 : (st1.set r (.dct (jm f (nxJ s))))[r]? = some (.dct (jm f (nxJ s))) := get_set_self a1
    have b2 : (st1.set r (.dct (jm f (nxJ s))))[f]? = some (.lst (([] : List Int).reverse.map .int)) := get_set_ne hrf a2
    have fr2 : Fx r f st (st1.set r (.dct (jm f (nxJ s)))) := fr1.trans Fx.setR
    simp only [W_var, W_cI, W_cB, W_cS, W_cN, W_gcon, W_bin, W_neg, W_notE, W_and1, W_or1, W_and2, W_or2, W_cmp, W_ife, W_tup, W_lst, W_dic, W_call, W_callK, W_blt, W_meth, W_idx, W_sl, W_rev, W_nil, W_cons, W_val, W_vc, W_not, W_tand1, W_tor1, W_tand2, W_tor2, W_yes, W_name, W_tgt, W_tgsub, W_tgnil, W_tgcons, W_asg, W_par, W_exp, W_ret, W_if, W_snil, W_scons, Then_next, Then_ret, Back_ret, Back_next, Wd_ok, Wd_bad, List.map_cons, List.map_nil, List.replicate_succ, List.replicate_zero, List.cons_append, List.nil_append, List.getElem?_cons_zero, List.getElem?_cons_succ, List.set_cons_zero, List.set_cons_succ, Option.some.injEq, exists_eq_left', List.length_cons, List.length_nil, setAll, X_add, X_mul, X_int, X_md, X_fdiv]
    refine ⟨small_l (small_md (by decide) (by decide)), small_l (by decide), by decide, by decide, hm.1, ?_⟩
    exact ⟨rfl, ⟨b1, b2, by simp⟩, fr2⟩
  | cons w ns =>
    rw [if_pos (by simp)]
    refine X_idxK.mpr ⟨_, a1, _, gk1, ?_⟩
    have a3 : st1[f]? = some (.lst (ns.reverse.map .int ++ [.int w])) := by rw [a2]; simp
    refine ⟨X_isLst a2, (X_pop0 a3).mpr ?_⟩
    have b1 : (st1.set f (.lst (ns.reverse.map .int)))[r]? = some (.dct (jm f s)) := get_set_ne hrf.symm a1
    have b2 : (st1.set f (.lst (ns.reverse.map .int)))[f]? = some (.lst (ns.reverse.map .int)) := get_set_self a2
    have fr2 : Fx r f st (st1.set f (.lst (ns.reverse.map .int))) := fr1.trans Fx.setF
    have hl : ns.length < 999 := by simp at h6; omega
    generalize hst2 : st1.set f (.lst (ns.reverse.map .int)) = st2 at b1 b2 fr2
    refine ⟨_, C_ge, ?_⟩
    by_cases hc : m ≤ w
    · rw [if_pos (by simpa using hc)]
      refine X_idxK.mpr ⟨_, b1, _, gk1, ?_⟩
      refine ⟨X_isLst b2, X_fdiv.mpr ⟨by omega, (X_append b2 (by rw [List.length_map, List.length_reverse]; exact Nat.lt_trans hl (by decide))).mpr ?_⟩⟩
      simp only [X_int, X_md]
      refine ⟨hm.1, trivial, ⟨get_set_ne hrf.symm b1, ?_, ?_⟩, fr2.trans Fx.setF⟩
      · rw [get_set_self b2]
        simp only [if_pos hc, List.reverse_cons, List.map_append]; rfl
      · simp only [if_pos hc, List.length_cons]; omega
    · rw [if_neg (by simpa using hc)]
      simp only [X_int, X_md]
      refine ⟨hm.1, trivial, ⟨b1, ?_, ?_⟩, fr2⟩
      · simp only [if_neg hc]; exact b2
      · simp only [if_neg hc]; omega
def CV (f : Nat) : Option (Nat × (List U → JS → FR JS)) := if f = 7 then some (1, conJ) else none
abbrev VR' (n : Nat) := vrun prog GV CV n
theorem CVn {f : Nat} (h : f ≠ 7) : CV f = none := if_neg h
theorem CV_ok {r f : Nat} (hd : r ≠ f) : ∀ i m g, CV i = some (m, g) → ∀ n, m ≤ n → CallOk (WJ r f) g (RC n i) := by
  intro i m g h n hn
  unfold CV at h
  split at h
  · cases h
    rename_i hi
    subst hi
    obtain ⟨n, rfl⟩ : ∃ k, n = k + 1 := ⟨n - 1, by omega⟩
    intro us ds st s Z hr hz hb
    unfold conJ
    split
    · rename_i m
      split
      · rename_i hc
        obtain ⟨d, e, rfl, h1, h2⟩ := reps2 hr
        have h1 : d = .ref r := h1
        have h2 : e = .int m := h2
        subst h1 h2
        obtain ⟨d, st', e, h1, h2, h3⟩ := Wd_ok_of (drawJ_spec (n := n) hd hb hc)
        rw [e]
        refine ⟨Z, ⟨h3.1, fun j h4 h5 => h3.2 j h4 (fun z => h5 (by subst z; exact List.mem_cons_self)) (fun z => h5 (by subst z; exact List.mem_cons_of_mem _ List.mem_cons_self)), fun _ h => h, fun _ h => .inl h, fun j z => ⟨Nat.lt_of_lt_of_le (hz j z).1 h3.1, (hz j z).2⟩, h2⟩, h1⟩
      · trivial
    · trivial
  · cases h
theorem draw_v {n : Nat} {m : Int} {s : JS} {T : Nat} {P : Bool → U → JS → Prop} (hm : 0 < m ∧ m < 1000000) (hT : T + 1 ≤ bud s) (k : ∀ (v : Nat) s', (v : Int) < m → T ≤ bud s' → P false (.int v) s') : Fd (VR' (n + 1) 7 [.bag, .int m] s) P := by
  refine V_con (m := 1) (c := conJ) rfl (by omega) ?_
  unfold conJ
  simp only []
  unfold bud at hT
  rw [if_pos hm]
  have h0 : 0 ≤ (drJ s m).1 ∧ (drJ s m).1 < m ∧ T ≤ bud (drJ s m).2 := by
    unfold drJ
    split
    · exact ⟨Int.le_refl 0, hm.1, by unfold bud; omega⟩
    · split
      · exact ⟨Int.emod_nonneg _ (by omega), Int.emod_lt_of_pos _ hm.1, by unfold bud; omega⟩
      · exact ⟨Int.emod_nonneg _ (by omega), Int.emod_lt_of_pos _ hm.1, by unfold bud; omega⟩
  obtain ⟨v, hv⟩ := Int.eq_ofNat_of_zero_le h0.1
  show P false (.int (drJ s m).1) (drJ s m).2
  rw [hv] at h0 ⊢
  exact k v _ h0.2.1 h0.2.2
end K

set_option Elab.async false
set_option linter.all false
set_option maxRecDepth 100000
set_option maxHeartbeats 4000000
/-! the deck is made -/
namespace K
open PL PySem
theorem cutD_map {α β : Type} (g : α → β) (xs : List α) (lo hi : Option Int) : cutD (xs.map g) lo hi = (cutD xs lo hi).map g := by
  unfold cutD; simp only [List.length_map, List.map_take, List.map_drop]
theorem cutD_len {α : Type} (xs : List α) (lo hi : Option Int) : (cutD xs lo hi).length ≤ xs.length := by
  unfold cutD; simp only [List.length_take, List.length_drop]; omega
theorem X_pow {i j : Int} {st : Sto} {P : D → Sto → Prop} (h : 0 ≤ j ∧ j ≤ 1000000 ∧ i.natAbs < 2 ^ 64) : Wd (binD .pow (.int i) (.int j) st) P ↔ P (.int (i ^ j.toNat)) st := by
  unfold binD; simp only []
  rw [if_pos (by simp [h.1, h.2.1, h.2.2])]; exact Iff.rfl
theorem pk1 {f g : Nat} {s : Int} : putKV (jm f s) (.inr ⟨#[100, 101, 101, 112]⟩) (.ref g) = jm g s := rfl
theorem deck_spec {n : Nat} {ns : List Int} {st : Sto} {P : D → Sto → Prop} (hn : ns.length ≤ 63) (k : ∀ r f j st', r ≠ f → RJ r f st' j → P (.ref r) st') : Wd (RC (n + 1) 6 [scriptD ns] st) P := by
  refine W_def (fn := f6) rfl pr6 rfl ?_
  unfold scriptD
  simp only [f6, W_var, W_cI, W_cB, W_cS, W_cN, W_gcon, W_bin, W_neg, W_notE, W_and1, W_or1, W_and2, W_or2, W_cmp, W_ife, W_tup, W_lst, W_dic, W_call, W_callK, W_blt, W_meth, W_idx, W_sl, W_rev, W_nil, W_cons, W_val, W_vc, W_not, W_tand1, W_tor1, W_tand2, W_tor2, W_yes, W_name, W_tgt, W_tgsub, W_tgnil, W_tgcons, W_asg, W_par, W_exp, W_ret, W_if, W_snil, W_scons, Then_next, Then_ret, Back_ret, Back_next, Wd_ok, Wd_bad, List.map_cons, List.map_nil, List.replicate_succ, List.replicate_zero, List.cons_append, List.nil_append, List.getElem?_cons_zero, List.getElem?_cons_succ, List.set_cons_zero, List.set_cons_succ, Option.some.injEq, exists_eq_left', List.length_cons, List.length_nil, setAll, W_lc]
  refine ⟨by decide, X_slS.mpr ⟨_, rfl, _, rfl, ?_⟩⟩
  rw [cutD_map]
  generalize hms : cutD ns none (some 63) = ms
  have hml : ms.length ≤ 63 := by rw [← hms]; exact Nat.le_trans (cutD_len _ _ _) hn
  refine X_lenR.mpr ⟨_, get_new, ?_⟩
  simp only [X_add]
  refine ⟨⟨trivial, by decide⟩, ?_⟩
  have z1 : ∀ o, (st ++ [Ob.lst []] ++ [Ob.lst (ms.map .int)] ++ [o])[(st ++ [Ob.lst []] ++ [Ob.lst (ms.map .int)]).length]? = some o := fun o => get_new
  have z2 : ∀ o, (st ++ [Ob.lst []] ++ [Ob.lst (ms.map .int)] ++ [o])[st.length]? = some (.lst []) := fun o => get_app (get_app get_new)
  have z3 : st.length < (st ++ [Ob.lst []] ++ [Ob.lst (ms.map .int)]).length := by simp
  have b1 := z1 (.dct (jm st.length (1572313 + ((ms.map D.int).length : Int))))
  have b2 := z2 (.dct (jm st.length (1572313 + ((ms.map D.int).length : Int))))
  generalize hr : (st ++ [Ob.lst []] ++ [Ob.lst (ms.map .int)]).length = r at z3 b1 ⊢
  show Wd (ex (RC n) cons _ _ (st ++ [Ob.lst []] ++ [Ob.lst (ms.map .int)] ++ [Ob.dct (jm st.length (1572313 + ((ms.map D.int).length : Int)))])) _
  generalize hZ : (st ++ [Ob.lst []] ++ [Ob.lst (ms.map .int)] ++ [Ob.dct (jm st.length (1572313 + ((ms.map D.int).length : Int)))]) = Z at b1 b2 ⊢
  simp only [W_for, W_var, W_cI, W_cB, W_cS, W_cN, W_gcon, W_bin, W_neg, W_notE, W_and1, W_or1, W_and2, W_or2, W_cmp, W_ife, W_tup, W_lst, W_dic, W_call, W_callK, W_blt, W_meth, W_idx, W_sl, W_rev, W_nil, W_cons, W_val, W_vc, W_not, W_tand1, W_tor1, W_tand2, W_tor2, W_yes, W_name, W_tgt, W_tgsub, W_tgnil, W_tgcons, W_asg, W_par, W_exp, W_ret, W_if, W_snil, W_scons, Then_next, Then_ret, Back_ret, Back_next, Wd_ok, Wd_bad, List.map_cons, List.map_nil, List.replicate_succ, List.replicate_zero, List.cons_append, List.nil_append, List.getElem?_cons_zero, List.getElem?_cons_succ, List.set_cons_zero, List.set_cons_succ, Option.some.injEq, exists_eq_left', List.length_cons, List.length_nil, setAll]
  refine X_slS.mpr ⟨_, rfl, _, rfl, ?_⟩
  rw [cutD_map, hms]
  have hq : (Z ++ [Ob.lst (ms.map .int)])[Z.length]? = some (.lst (ms.map .int)) := get_new
  have c1 : (Z ++ [Ob.lst (ms.map .int)])[r]? = _ := get_app b1
  have c2 : (Z ++ [Ob.lst (ms.map .int)])[st.length]? = _ := get_app b2
  have l1 : r < Z.length := lt_of_get b1
  have l2 : st.length < Z.length := lt_of_get b2
  generalize hY : Z ++ [Ob.lst (ms.map .int)] = Y at hq c1 c2
  generalize hQ : Z.length = q at hq l1 l2
  refine ⟨.live q, by simp only [srcD, seqD, hq], ?_⟩
  refine W_for_live (ds := ms.map .int) (fun i env st' => ∃ f s fs e2 e3 e4, env = [some (.scr (ns.map .int)), some (.ref r), e2, e3, e4] ∧ st'[r]? = some (.dct (jm f s)) ∧ st'[f]? = some (.lst ((fs : List Int).map .int)) ∧ st'[q]? = some (.lst (ms.map .int)) ∧ r ≠ f ∧ q ≠ r ∧ q ≠ f ∧ fs.length ≤ i) ⟨_, _, [], _, _, _, rfl, c1, c2, hq, by omega, by omega, by omega, by simp⟩ ?_ ?_ ?_
  · rintro i env st' ⟨f, s, fs, e2, e3, e4, rfl, d1, d2, d3, _⟩; exact d3
  · rintro i d env st' hd ⟨f, s, fs, e2, e3, e4, rfl, d1, d2, d3, n1, n2, n3, hl⟩
    rw [List.getElem?_map] at hd
    obtain ⟨x, hx, rfl⟩ := Option.map_eq_some_iff.mp hd
    simp only [Wd_bind, W_var, W_cI, W_cB, W_cS, W_cN, W_gcon, W_bin, W_neg, W_notE, W_and1, W_or1, W_and2, W_or2, W_cmp, W_ife, W_tup, W_lst, W_dic, W_call, W_callK, W_blt, W_meth, W_idx, W_sl, W_rev, W_nil, W_cons, W_val, W_vc, W_not, W_tand1, W_tor1, W_tand2, W_tor2, W_yes, W_name, W_tgt, W_tgsub, W_tgnil, W_tgcons, W_asg, W_par, W_exp, W_ret, W_if, W_snil, W_scons, Then_next, Then_ret, Back_ret, Back_next, Wd_ok, Wd_bad, List.map_cons, List.map_nil, List.replicate_succ, List.replicate_zero, List.cons_append, List.nil_append, List.getElem?_cons_zero, List.getElem?_cons_succ, List.set_cons_zero, List.set_cons_succ, Option.some.injEq, exists_eq_left', List.length_cons, List.length_nil, setAll, X_abs]
    generalize (if x < 0 then -x else x) = v
    refine (X_pow (by decide)).mpr ⟨_, C_ge, ?_⟩
    split
    · refine ⟨by decide, ?_⟩
      have p1 : (st' ++ [Ob.lst [D.int v]])[r]? = _ := get_app d1
      have p2 : (st' ++ [Ob.lst [D.int v]])[f]? = _ := get_app d2
      have p3 : (st' ++ [Ob.lst [D.int v]])[q]? = _ := get_app d3
      have p4 : (st' ++ [Ob.lst [D.int v]])[st'.length]? = some (.lst [D.int v]) := get_new
      have lr : r < st'.length := lt_of_get d1
      have lq : q < st'.length := lt_of_get d3
      generalize hS : st' ++ [Ob.lst [D.int v]] = S at p1 p2 p3 p4
      refine X_idxK.mpr ⟨_, p1, _, gk1, ?_⟩
      have hi : i < 63 := by
        have := (List.getElem?_eq_some_iff.mp hx).1
        omega
      refine X_addL.mpr ⟨_, p4, _, p2, by simp; exact Nat.le_trans (m := 100) (by omega) (by decide), ?_⟩
      have lS : st'.length < S.length := lt_of_get p4
      have k1 : (S ++ [Ob.lst ([D.int v] ++ fs.map D.int)])[r]? = _ := get_app p1
      have k3 : (S ++ [Ob.lst ([D.int v] ++ fs.map D.int)])[q]? = _ := get_app p3
      have k2 : (S ++ [Ob.lst ([D.int v] ++ fs.map D.int)])[S.length]? = some (.lst ((v :: fs).map D.int)) := get_new
      refine X_setK.mpr ⟨_, k1, jm_len, ?_⟩
      rw [pk1]
      have g1 : ((S ++ [Ob.lst ([D.int v] ++ fs.map D.int)]).set r (.dct (jm S.length s)))[r]? = some (.dct (jm S.length s)) := get_set_self k1
      have m1 : r ≠ S.length := by omega
      have m3 : q ≠ S.length := by omega
      have g2 : ((S ++ [Ob.lst ([D.int v] ++ fs.map D.int)]).set r (.dct (jm S.length s)))[S.length]? = some (.lst ((v :: fs).map D.int)) := get_set_ne m1 k2
      have g3 : ((S ++ [Ob.lst ([D.int v] ++ fs.map D.int)]).set r (.dct (jm S.length s)))[q]? = _ := get_set_ne n2.symm k3
      refine X_idxK.mpr ⟨_, g1, _, gk3, ?_⟩
      simp only [X_mul, X_add]
      refine ⟨small_l (by decide), _, C_lt, ?_⟩
      simp only [X_intB, X_add, X_mul, X_int]
      refine ⟨small_r (by decide), ?_⟩
      refine X_md.mpr ⟨by decide, X_setK.mpr ⟨_, g1, jm_len, ?_⟩⟩
      rw [pk3]
      exact ⟨_, _, _, _, _, _, rfl, get_set_self g1, get_set_ne m1 g2, get_set_ne n2.symm g3, m1, n2, m3, by first | omega | (simp only [List.length_cons]; omega)⟩

    · have g1 := d1
      have g2 := d2
      have g3 := d3
      have m1 := n1
      have m3 := n3
      refine X_idxK.mpr ⟨_, g1, _, gk3, ?_⟩
      simp only [X_mul, X_add]
      refine ⟨small_l (by decide), _, C_lt, ?_⟩
      simp only [X_intB, X_add, X_mul, X_int]
      refine ⟨small_r (by decide), ?_⟩
      refine X_md.mpr ⟨by decide, X_setK.mpr ⟨_, g1, jm_len, ?_⟩⟩
      rw [pk3]
      exact ⟨_, _, _, _, _, _, rfl, get_set_self g1, get_set_ne m1 g2, get_set_ne n2.symm g3, m1, n2, m3, by first | omega | (simp only [List.length_cons]; omega)⟩

  · rintro env st' ⟨f, s, fs, e2, e3, e4, rfl, d1, d2, d3, n1, n2, n3, hl⟩
    simp only [W_var, W_cI, W_cB, W_cS, W_cN, W_gcon, W_bin, W_neg, W_notE, W_and1, W_or1, W_and2, W_or2, W_cmp, W_ife, W_tup, W_lst, W_dic, W_call, W_callK, W_blt, W_meth, W_idx, W_sl, W_rev, W_nil, W_cons, W_val, W_vc, W_not, W_tand1, W_tor1, W_tand2, W_tor2, W_yes, W_name, W_tgt, W_tgsub, W_tgnil, W_tgcons, W_asg, W_par, W_exp, W_ret, W_if, W_snil, W_scons, Then_next, Then_ret, Back_ret, Back_next, Wd_ok, Wd_bad, List.map_cons, List.map_nil, List.replicate_succ, List.replicate_zero, List.cons_append, List.nil_append, List.getElem?_cons_zero, List.getElem?_cons_succ, List.set_cons_zero, List.set_cons_succ, Option.some.injEq, exists_eq_left', List.length_cons, List.length_nil, setAll]
    refine k r f ⟨s, fs.reverse⟩ st' n1 ⟨d1, by rw [List.reverse_reverse]; exact d2, ?_⟩
    rw [List.length_map] at hl
    show fs.reverse.length < 1000
    rw [List.length_reverse]; omega
end K

set_option Elab.async false
set_option linter.all false
set_option maxRecDepth 100000
set_option maxHeartbeats 4000000
/-! books: their entries, words as lists and as tuples -/
namespace K
open PL PySem
local macro_rules
  | `(tactic| simp! only [$xs,*]) => `(tactic| simp only [at0, at1, at2, at3, at4, at5, at6, at7, at8, at9, at10, at11, vb_add, vb_sub, vb_mul, vb_fdiv, vb_md, vb_pow, vb_adds, vb_addt, vb_addl, vb_mult, vb_mull, vl_lent, vl_lenl, vl_lens, vl_lene, vx_e, vn_e, sr_e, im_e, im_l, rw_e, rw_l, fl_s, fl_i, as_t, vl_abs, vl_int, vl_intb, vl_tupt, vl_tupl, vl_lstt, vl_lstl, vl_srt, vl_dz, vl_min, vl_max, vl_strI, vi_int_non, vi_int_bl, vi_int_int, vi_int_str, vi_int_tup, vi_int_lst, vi_int_dct, vi_int_rep, vi_bool_non, vi_bool_bl, vi_bool_int, vi_bool_str, vi_bool_tup, vi_bool_lst, vi_bool_dct, vi_bool_rep, vi_str_non, vi_str_bl, vi_str_int, vi_str_str, vi_str_tup, vi_str_lst, vi_str_dct, vi_str_rep, vi_tup_non, vi_tup_bl, vi_tup_int, vi_tup_str, vi_tup_tup, vi_tup_lst, vi_tup_dct, vi_tup_rep, vi_lst_non, vi_lst_bl, vi_lst_int, vi_lst_str, vi_lst_tup, vi_lst_lst, vi_lst_dct, vi_lst_rep, vi_dct_non, vi_dct_bl, vi_dct_int, vi_dct_str, vi_dct_tup, vi_dct_lst, vi_dct_dct, vi_dct_rep, vx_t, vx_l, vx_ds, vx_di, vs_tnn, vs_lnn, vs_snn, vs_tnj, vs_lnj, vs_snj, vs_tin, vs_lin, vs_sin, vs_tij, vs_lij, vs_sij, vr_l, vt_n, vt_b, vt_i, vt_s, vt_t, vt_l, vt_d, vc_lt, vc_le, vc_gt, vc_ge, vc_eq, vc_ne, vc_in, vc_nin, vn_l, vn_t, vc_is_non, vc_isn_non, vc_is_bl, vc_isn_bl, vc_is_int, vc_isn_int, vc_is_str, vc_isn_str, vc_is_tup, vc_isn_tup, vc_is_lst, vc_isn_lst, vc_is_dct, vc_isn_dct, vc_is_rep, vc_isn_rep, ve_non_non, ve_non_bl, ve_non_int, ve_non_str, ve_non_tup, ve_non_lst, ve_bl_non, ve_bl_bl, ve_bl_int, ve_bl_str, ve_bl_tup, ve_bl_lst, ve_int_non, ve_int_bl, ve_int_int, ve_int_str, ve_int_tup, ve_int_lst, ve_str_non, ve_str_bl, ve_str_int, ve_str_str, ve_str_tup, ve_str_lst, ve_tup_non, ve_tup_bl, ve_tup_int, ve_tup_str, ve_tup_tup, ve_tup_lst, ve_lst_non, ve_lst_bl, ve_lst_int, ve_lst_str, ve_lst_tup, ve_lst_lst, ve_rep_str, vm_app, vm_ext, vm_ins, vsm_join, vsm_split, vsm_upper, vw_l, sq_t, sq_l, sr_t, sr_l, sr_s, sr_r1, sr_r2, sr_r3, sr_et, sr_el, sr_ztt, sr_ztl, sr_zlt, sr_zll, V_var, V_cI, V_cB, V_cS, V_cN, V_gcon, V_gkd, V_ixl, V_ent, V_ixm, V_stup, V_stN, V_stF, V_stT, V_bin, V_neg, V_notE, V_and1, V_or1, V_and2, V_or2, V_cmp, V_cmp2, V_ife, V_tup, V_lst, V_dic, V_call, V_callK, V_blt, V_meth, V_smeth, asS_str, V_idx, V_sl, V_rev, V_nil, V_cons, V_bnil, V_bcons, ga_nil, ga_cons, endC, own_nil, own_val, own_var, flatR, flat, flats, frzB, V_val, V_vc, V_vc2, V_not, V_tand1, V_tor1, V_tand2, V_tor2, V_yes, V_name, V_tgt, V_tgsub, V_tgnil, V_tgcons, V_asg, V_asgC, V_lc, lcS_V, V_par, V_exp, V_retA, V_retN, V_if, V_for, forS_V, V_whl, V_brk, V_cnt, V_pass, V_snil, V_scons, ↓VThen_next, ↓VThen_ret, ↓VThen_brk, ↓VThen_cnt, ↓VBack_ret, ↓VBack_next, ↓VTurn_next, ↓VTurn_cnt, ↓VTurn_brk, ↓VTurn_ret, Vd_ok, Vd_bad, B_any, av_var, av_cI, av_cB, av_cS, av_cN, av_gcon, av_gkd, av_ixl, av_ent, av_ixm, av_stup, av_bin, av_neg, av_notE, av_and1, av_and2, av_or1, av_or2, av_cmp, av_cmp2, av_ife, av_tup, av_lst, av_dic, av_call, av_callK, av_blt, av_meth, av_smeth, av_idx, av_sl, av_rev, av_lc, get_val, get_var, slot_get, SlP_some, OwP_some, LstP_lst, IntP_int, OpP_some, OpP_none, OpP_ite, OpP_map, Fd_ok, setAllV, List.map_cons, List.map_nil, List.replicate_succ, List.replicate_zero, List.cons_append, List.nil_append, List.getElem?_cons_zero, List.getElem?_cons_succ, List.set_cons_zero, List.set_cons_succ, List.length_cons, List.length_nil, Option.map_some, Option.map_none, wipeV, restV, if_true, if_false, Bool.false_eq_true, Bool.true_eq_false, reduceIte, Bool.not_true, Bool.not_false, reduceCtorEq, decide_true, decide_false, Bool.or_false, Bool.false_or, Bool.and_true, Bool.true_and, Bool.and_false, Bool.false_and, Bool.true_or, Bool.or_true, Bool.and_self, Bool.or_self, Nat.reduceAdd, Nat.reduceSub, List.getD_cons_zero, List.getD_cons_succ, $xs,*])
local macro_rules
  | `(tactic| infer_instance) => `(tactic| simp only [at0, at1, at2, at3, at4, at5, at6, at7, at8, at9, at10, at11, vb_add, vb_sub, vb_mul, vb_fdiv, vb_md, vb_pow, vb_adds, vb_addt, vb_addl, vb_mult, vb_mull, vl_lent, vl_lenl, vl_lens, vl_lene, vx_e, vn_e, sr_e, im_e, im_l, rw_e, rw_l, fl_s, fl_i, as_t, vl_abs, vl_int, vl_intb, vl_tupt, vl_tupl, vl_lstt, vl_lstl, vl_srt, vl_dz, vl_min, vl_max, vl_strI, vi_int_non, vi_int_bl, vi_int_int, vi_int_str, vi_int_tup, vi_int_lst, vi_int_dct, vi_int_rep, vi_bool_non, vi_bool_bl, vi_bool_int, vi_bool_str, vi_bool_tup, vi_bool_lst, vi_bool_dct, vi_bool_rep, vi_str_non, vi_str_bl, vi_str_int, vi_str_str, vi_str_tup, vi_str_lst, vi_str_dct, vi_str_rep, vi_tup_non, vi_tup_bl, vi_tup_int, vi_tup_str, vi_tup_tup, vi_tup_lst, vi_tup_dct, vi_tup_rep, vi_lst_non, vi_lst_bl, vi_lst_int, vi_lst_str, vi_lst_tup, vi_lst_lst, vi_lst_dct, vi_lst_rep, vi_dct_non, vi_dct_bl, vi_dct_int, vi_dct_str, vi_dct_tup, vi_dct_lst, vi_dct_dct, vi_dct_rep, vx_t, vx_l, vx_ds, vx_di, vs_tnn, vs_lnn, vs_snn, vs_tnj, vs_lnj, vs_snj, vs_tin, vs_lin, vs_sin, vs_tij, vs_lij, vs_sij, vr_l, vt_n, vt_b, vt_i, vt_s, vt_t, vt_l, vt_d, vc_lt, vc_le, vc_gt, vc_ge, vc_eq, vc_ne, vc_in, vc_nin, vn_l, vn_t, vc_is_non, vc_isn_non, vc_is_bl, vc_isn_bl, vc_is_int, vc_isn_int, vc_is_str, vc_isn_str, vc_is_tup, vc_isn_tup, vc_is_lst, vc_isn_lst, vc_is_dct, vc_isn_dct, vc_is_rep, vc_isn_rep, ve_non_non, ve_non_bl, ve_non_int, ve_non_str, ve_non_tup, ve_non_lst, ve_bl_non, ve_bl_bl, ve_bl_int, ve_bl_str, ve_bl_tup, ve_bl_lst, ve_int_non, ve_int_bl, ve_int_int, ve_int_str, ve_int_tup, ve_int_lst, ve_str_non, ve_str_bl, ve_str_int, ve_str_str, ve_str_tup, ve_str_lst, ve_tup_non, ve_tup_bl, ve_tup_int, ve_tup_str, ve_tup_tup, ve_tup_lst, ve_lst_non, ve_lst_bl, ve_lst_int, ve_lst_str, ve_lst_tup, ve_lst_lst, ve_rep_str, vm_app, vm_ext, vm_ins, vsm_join, vsm_split, vsm_upper, vw_l, sq_t, sq_l, sr_t, sr_l, sr_s, sr_r1, sr_r2, sr_r3, sr_et, sr_el, sr_ztt, sr_ztl, sr_zlt, sr_zll, V_var, V_cI, V_cB, V_cS, V_cN, V_gcon, V_gkd, V_ixl, V_ent, V_ixm, V_stup, V_stN, V_stF, V_stT, V_bin, V_neg, V_notE, V_and1, V_or1, V_and2, V_or2, V_cmp, V_cmp2, V_ife, V_tup, V_lst, V_dic, V_call, V_callK, V_blt, V_meth, V_smeth, asS_str, V_idx, V_sl, V_rev, V_nil, V_cons, V_bnil, V_bcons, ga_nil, ga_cons, endC, own_nil, own_val, own_var, flatR, flat, flats, frzB, V_val, V_vc, V_vc2, V_not, V_tand1, V_tor1, V_tand2, V_tor2, V_yes, V_name, V_tgt, V_tgsub, V_tgnil, V_tgcons, V_asg, V_asgC, V_lc, lcS_V, V_par, V_exp, V_retA, V_retN, V_if, V_for, forS_V, V_whl, V_brk, V_cnt, V_pass, V_snil, V_scons, ↓VThen_next, ↓VThen_ret, ↓VThen_brk, ↓VThen_cnt, ↓VBack_ret, ↓VBack_next, ↓VTurn_next, ↓VTurn_cnt, ↓VTurn_brk, ↓VTurn_ret, Vd_ok, Vd_bad, B_any, av_var, av_cI, av_cB, av_cS, av_cN, av_gcon, av_gkd, av_ixl, av_ent, av_ixm, av_stup, av_bin, av_neg, av_notE, av_and1, av_and2, av_or1, av_or2, av_cmp, av_cmp2, av_ife, av_tup, av_lst, av_dic, av_call, av_callK, av_blt, av_meth, av_smeth, av_idx, av_sl, av_rev, av_lc, get_val, get_var, slot_get, SlP_some, OwP_some, LstP_lst, IntP_int, OpP_some, OpP_none, OpP_ite, OpP_map, Fd_ok, setAllV, List.map_cons, List.map_nil, List.replicate_succ, List.replicate_zero, List.cons_append, List.nil_append, List.getElem?_cons_zero, List.getElem?_cons_succ, List.set_cons_zero, List.set_cons_succ, List.length_cons, List.length_nil, Option.map_some, Option.map_none, wipeV, restV, if_true, if_false, Bool.false_eq_true, Bool.true_eq_false, reduceIte, Bool.not_true, Bool.not_false, reduceCtorEq, decide_true, decide_false, Bool.or_false, Bool.false_or, Bool.and_true, Bool.true_and, Bool.and_false, Bool.false_and, Bool.true_or, Bool.or_true, Bool.and_self, Bool.or_self, Nat.reduceAdd, Nat.reduceSub, List.getD_cons_zero, List.getD_cons_succ])
section
variable {n T : Nat} {s : JS} {P : Bool → U → JS → Prop}
abbrev sOk (x : Str) : Prop := PyData.canLay0 (.str x) = true
abbrev tNone : Str := ⟨#[110, 111, 110, 101]⟩
abbrev tPerhaps : Str := ⟨#[112, 101, 114, 104, 97, 112, 115]⟩
abbrev tSure : Str := ⟨#[115, 117, 114, 101]⟩
abbrev tAnswer : Str := ⟨#[97, 110, 115, 119, 101, 114]⟩
abbrev tCheck : Str := ⟨#[99, 104, 101, 99, 107]⟩
abbrev tWork : Str := ⟨#[119, 111, 114, 107]⟩
abbrev tValues : Str := ⟨#[118, 97, 108, 117, 101, 115]⟩
abbrev tMark : Str := ⟨#[109, 97, 114, 107]⟩
abbrev tFirst : Str := ⟨#[102, 105, 114, 115, 116]⟩
abbrev tLast : Str := ⟨#[108, 97, 115, 116]⟩
abbrev tBetween : Str := ⟨#[98, 101, 116, 119, 101, 101, 110]⟩
abbrev tAhead : Str := ⟨#[97, 104, 101, 97, 100]⟩
abbrev tBehind : Str := ⟨#[98, 101, 104, 105, 110, 100]⟩
abbrev tUnless : Str := ⟨#[117, 110, 108, 101, 115, 115]⟩
abbrev tStruck : Str := ⟨#[115, 116, 114, 117, 99, 107]⟩
abbrev tKept : Str := ⟨#[107, 101, 112, 116]⟩
abbrev tOne : Str := ⟨#[111, 110, 101]⟩
abbrev tAny : Str := ⟨#[97, 110, 121]⟩
abbrev tMarked : Str := ⟨#[109, 97, 114, 107, 101, 100]⟩
abbrev tUnraised : Str := ⟨#[117, 110, 114, 97, 105, 115, 101, 100]⟩
abbrev tNever : Str := ⟨#[110, 101, 118, 101, 114]⟩
/-- the entries: their names, their words -/
def EN : List (Str × List Str) := [(⟨#[114, 101, 97, 100, 101, 114, 115]⟩, [tNone, tPerhaps, tSure]), (⟨#[102, 117, 114, 116, 104, 101, 114]⟩, [tNone, tPerhaps, tSure]), (⟨#[115, 116, 111, 112]⟩, [tMarked, tUnraised, tNever]), (⟨#[112, 101, 114, 104, 97, 112, 115]⟩, [tAnswer, tCheck, tWork]), (⟨#[115, 117, 114, 101]⟩, [tAnswer, tCheck, tWork]), (⟨#[99, 104, 101, 99, 107]⟩, [tValues, tMark]), (⟨#[99, 104, 97, 110, 103, 101]⟩, [tNone, tSure]), (⟨#[119, 114, 105, 116, 101]⟩, [tFirst, tLast, tBetween]), (⟨#[115, 116, 114, 105, 107, 101]⟩, [tAhead, tBehind, tUnless]), (⟨#[101, 110, 116, 101, 114]⟩, [tAhead, tBehind]), (⟨#[111, 108, 100]⟩, [tStruck, tKept]), (⟨#[104, 97, 110, 100, 115]⟩, [tOne, tAny])]
def uL (p : Str × List Str) : U := .tup [.str p.1, .lst (p.2.map .str)]
def uT (p : Str × List Str) : U := .tup [.str p.1, .ent p.2]
@[irreducible] def entL : List U := EN.map uL
@[irreducible] def allL : List U := EN.map uT
theorem entL_eq : entL = EN.map uL := by unfold entL; rfl
theorem allL_eq : allL = EN.map uT := by unfold allL; rfl
theorem entL_len : entL.length = 12 := by rw [entL_eq]; rfl
theorem allL_len : allL.length = 12 := by rw [allL_eq]; rfl
theorem ent_get {i : Nat} {x : U} (h : entL[i]? = some x) : ∃ p, EN[i]? = some p ∧ x = uL p := by
  rw [entL_eq, List.getElem?_map] at h
  obtain ⟨p, h1, rfl⟩ := Option.map_eq_some_iff.mp h
  exact ⟨p, h1, rfl⟩
theorem all_get {i : Nat} {x : U} (h : allL[i]? = some x) : ∃ p, EN[i]? = some p ∧ x = uT p := by
  rw [allL_eq, List.getElem?_map] at h
  obtain ⟨p, h1, rfl⟩ := Option.map_eq_some_iff.mp h
  exact ⟨p, h1, rfl⟩
theorem en_len : EN.length = 12 := rfl
theorem en_ok : ∀ p ∈ EN, (p.2 ≠ [] ∧ p.2.length ≤ 3 ∧ 2 ≤ p.2.length) ∧ (sOk p.1 ∧ p.1.length ≤ 20) ∧ p.2.Nodup ∧ ∀ w ∈ p.2, sOk w ∧ w.length ≤ 20 ∧ 10 ∉ w.cps.toList ∧ 10 ∉ p.1.cps.toList := by decide +kernel
theorem entries_v (k : P true (.lst entL) s) : Fd (VR' (n + 1) 9 [] s) P := by
  refine V_def (fn := f9) (CVn (by decide)) pr9 rfl ?_
  simp! only [f9]
  rw [entL_eq] at k
  repeat refine ⟨by decide, ?_⟩
  exact k
theorem all_v (k : P false (.tup allL) s) : Fd (VR' (n + 1) 0 [] s) P := by
  refine V_def (fn := f0) (CVn (by decide)) pr0 rfl ?_
  simp! only [f0]
  rw [allL_eq] at k
  repeat refine ⟨by decide, ?_⟩
  exact k
theorem at_some {xs : List U} {v : Nat} (h1 : (v : Int) < xs.length) : ∃ x ∈ xs, vidx.atU xs v = some x := by
  have hk : v < xs.length := by omega
  exact ⟨xs[v], List.getElem_mem hk, atU_nat (List.getElem?_eq_getElem hk)⟩
theorem pick_v {xs : List U} (hm : xs ≠ [] ∧ xs.length < 1000) (k : ∀ x ∈ xs, ∀ s', P false x s') : Fd (VR' (n + 2) 8 [.bag, .lst xs] s) P := by
  refine V_def (fn := f8) (CVn (by decide)) pr8 rfl ?_
  simp! only [f8]
  have hp : 0 < xs.length := List.length_pos_iff.mpr hm.1
  refine draw_v (T := 0) ⟨by omega, by omega⟩ (by unfold bud; decide) fun v s' hv hb => ?_
  obtain ⟨x, hx, e⟩ := at_some hv
  infer_instance
  exact OpP_of e (k x hx s')
theorem drawN_v {m : Int} (hm : 0 < m ∧ m < 1000000) (k : ∀ (v : Nat) s', (v : Int) < m → P false (.int v) s') : Fd (VR' (n + 1) 7 [.bag, .int m] s) P :=
  draw_v (T := 0) hm (by unfold bud; decide) fun v s' hv _ => k v s' hv
def bv (ws : List Str) : U := .tup (ws.map .str)
/-- a book: each entry has one of its words -/
def WOk (ws : List Str) : Prop := ws.length = 12 ∧ ∀ (j : Nat) (w : Str) (p : Str × List Str), ws[j]? = some w → EN[j]? = some p → w ∈ p.2
theorem WOk.mem {ws : List Str} (h : WOk ws) {w : Str} (hw : w ∈ ws) : ∃ p ∈ EN, w ∈ p.2 := by
  obtain ⟨j, hj, e⟩ := List.getElem_of_mem hw
  have hj2 : j < EN.length := by rw [en_len, ← h.1]; exact hj
  exact ⟨EN[j], List.getElem_mem hj2, h.2 j w _ (by rw [List.getElem?_eq_getElem hj, e]) (List.getElem?_eq_getElem hj2)⟩
theorem WOk.set {ws : List Str} {i : Nat} {w : Str} {p : Str × List Str} (h : WOk ws) (e : EN[i]? = some p) (hw : w ∈ p.2) : WOk (ws.set i w) := by
  refine ⟨by rw [List.length_set]; exact h.1, fun j v l' h1 h2 => ?_⟩
  rw [List.getElem?_set] at h1
  split at h1
  · rename_i hij
    subst hij
    split at h1
    · cases h1
      rw [e] at h2; cases h2; exact hw
    · cases h1
  · exact h.2 j v l' h1 h2
theorem set_parts {ws : List Str} {i : Nat} {w : Str} (hi : i < ws.length) : (ws.map U.str).take i ++ [.str w] ++ (ws.map U.str).drop (i + 1) = (ws.set i w).map U.str := by
  rw [List.set_eq_take_append_cons_drop, if_pos hi]
  simp
theorem cut_to {α : Type} (xs : List α) (i : Nat) : cutD xs none (some (i : Int)) = xs.take i := by
  unfold cutD
  rw [HT.sIx_none, HT.sIx_nat, List.drop_zero, Nat.sub_zero]
  exact List.take_eq_take_iff.mpr (by omega)
theorem cut_from {α : Type} (xs : List α) (i : Nat) : cutD xs (some ((i : Int) + 1)) none = xs.drop (i + 1) := by
  unfold cutD
  have e : ((i : Int) + 1) = ((i + 1 : Nat) : Int) := by omega
  rw [e, HT.sIx_none, HT.sIx_nat]
  by_cases h : i + 1 ≤ xs.length
  · rw [Nat.min_eq_left h, List.take_of_length_le (by rw [List.length_drop]; omega)]
  · rw [Nat.min_eq_right (by omega), List.drop_of_length_le (Nat.le_refl _), List.drop_of_length_le (by omega), List.take_nil]
theorem cut_one {α : Type} (xs : List α) (i : Nat) {x : α} (h : xs[i]? = some x) : cutD xs (some (i : Int)) (some ((i : Int) + 1)) = [x] := by
  unfold cutD
  have e : ((i : Int) + 1) = ((i + 1 : Nat) : Int) := by omega
  have hi := (List.getElem?_eq_some_iff.mp h).1
  rw [e, HT.sIx_nat, HT.sIx_nat, Nat.min_eq_left (by omega : i ≤ xs.length), Nat.min_eq_left (by omega : i + 1 ≤ xs.length)]
  rw [List.drop_eq_getElem_cons hi, show i + 1 - i = 1 by omega]
  rw [List.getElem?_eq_getElem hi] at h
  cases h
  rfl
theorem nice_b {ws : List Str} (h : WOk ws) : Nice 1 3000 (bv ws) := by
  have := nice_tup (n := 0) (c := 202) (us := ws.map .str) fun u hu => by
    obtain ⟨w, hw, rfl⟩ := List.mem_map.mp hu
    obtain ⟨p, hp, hw⟩ := h.mem hw
    obtain ⟨_, _, _, z⟩ := en_ok p hp
    obtain ⟨z1, z2, _⟩ := z w hw
    exact (nice_str z1).mono (Nat.le_refl _) (by omega)
  exact this.mono (Nat.le_refl _) (by rw [List.length_map, h.1]; decide)
theorem tgo2 : tgOwn (Tg.tup (Tgs.cons (Tg.name 1) (Tgs.cons (Tg.name 2) Tgs.nil))) [1, 2] = true := by kernel_rfl
theorem book_v (k : ∀ ws s', WOk ws → P false (bv ws) s') : Fd (VR' (n + 3) 10 [.bag] s) P := by
  refine V_def (fn := f10) (CVn (by decide)) pr10 rfl ?_
  simp! only [f10]
  refine entries_v ?_
  infer_instance
  refine ⟨tgo2, ?_⟩
  refine vlc_inv (fun i acc e s' => (∃ x y, e = [some (false, .bag), x, y]) ∧ ∃ ws : List Str, acc = ws.map .str ∧ ws.length = i ∧ ∀ (j : Nat) (w : Str) p, ws[j]? = some w → EN[j]? = some p → w ∈ p.2) ⟨⟨_, _, rfl⟩, [], rfl, rfl, fun j w l h => by simp at h⟩ ?_ ?_
  · rintro i x acc e s' hx ⟨⟨x1, y1, rfl⟩, ws, rfl, hl, hw⟩
    obtain ⟨⟨nm, l⟩, e1, rfl⟩ := ent_get hx
    obtain ⟨⟨z1, z2, _⟩, _⟩ := en_ok _ (List.mem_of_getElem? e1)
    unfold uL
    infer_instance
    simp only [] at z1 z2
    refine pick_v ⟨by simpa using z1, by simp; omega⟩ fun y hy s2 => ?_
    obtain ⟨w, hw2, rfl⟩ := List.mem_map.mp hy
    infer_instance
    have hi : i < 12 := (List.getElem?_eq_some_iff.mp e1).1
    refine ⟨by rw [List.length_map, hl]; exact Nat.lt_trans hi (by decide), ⟨_, _, rfl⟩, ws ++ [w], by simp, by simp [hl], fun j v l' h1 h2 => ?_⟩
    rw [List.getElem?_append] at h1
    split at h1
    · exact hw j v l' h1 h2
    · rename_i hj
      have : j = i := by
        have := (List.getElem?_eq_some_iff.mp h1).1
        simp at this; omega
      subst this
      rw [hl] at h1
      simp at h1
      subst h1
      rw [e1] at h2
      cases h2
      exact hw2
  · rintro acc e s' ⟨⟨x1, y1, rfl⟩, ws, rfl, hl, hw⟩
    infer_instance
    exact k ws s' ⟨by rw [hl, entL_len], hw⟩
end
end K

set_option Elab.async false
set_option linter.all false
set_option maxRecDepth 100000
set_option maxHeartbeats 4000000
/-! numbers of books, their neighbours: the plain law -/
namespace K
open PL PySem
def prodE : List (Str × List Str) → Nat
  | [] => 1
  | p :: ps => p.2.length * prodE ps
def vN : List (Str × List Str) → List Str → Nat → Nat
  | p :: ps, w :: ws, a => vN ps ws (a * p.2.length + p.2.idxOf w)
  | _, _, a => a
def numN (b : List Str) : Nat := vN EN b 0
theorem vN_acc : ∀ (ps : List (Str × List Str)) (ws : List Str) (a : Nat), ws.length = ps.length → vN ps ws a = a * prodE ps + vN ps ws 0
  | [], [], a, _ => by simp [vN, prodE]
  | p :: ps, w :: ws, a, h => by
    have hl : ws.length = ps.length := by simpa using h
    have e1 : vN (p :: ps) (w :: ws) a = vN ps ws (a * p.2.length + p.2.idxOf w) := rfl
    have e2 : vN (p :: ps) (w :: ws) 0 = vN ps ws (0 * p.2.length + p.2.idxOf w) := rfl
    have e3 : prodE (p :: ps) = p.2.length * prodE ps := rfl
    rw [e1, e2, vN_acc ps ws _ hl, vN_acc ps ws (0 * _ + _) hl, e3, Nat.add_mul, Nat.add_mul, Nat.zero_mul, Nat.zero_mul, Nat.mul_assoc]
    omega
  | [], _ :: _, _, h => by simp at h
  | _ :: _, [], _, h => by simp at h
theorem vN_cons {p : Str × List Str} {ps : List (Str × List Str)} {w : Str} {ws : List Str} (h : ws.length = ps.length) : vN (p :: ps) (w :: ws) 0 = p.2.idxOf w * prodE ps + vN ps ws 0 := by
  have e2 : vN (p :: ps) (w :: ws) 0 = vN ps ws (0 * p.2.length + p.2.idxOf w) := rfl
  rw [e2, Nat.zero_mul, Nat.zero_add, vN_acc ps ws _ h]
theorem vN_set : ∀ (ps : List (Str × List Str)) (ws : List Str) (i : Nat) (p : Str × List Str) (v w : Str), ws.length = ps.length → ps[i]? = some p → ws[i]? = some v →
    vN ps (ws.set i w) 0 + prodE (ps.drop (i + 1)) * p.2.idxOf v = vN ps ws 0 + prodE (ps.drop (i + 1)) * p.2.idxOf w
  | [], _, i, p, v, w, _, h, _ => by simp at h
  | _ :: _, [], i, p, v, w, h, _, _ => by simp at h
  | q :: ps, x :: ws, 0, p, v, w, h, e1, e2 => by
    have hl : ws.length = ps.length := by simpa using h
    cases e1; cases e2
    show vN (q :: ps) (w :: ws) 0 + prodE ps * _ = vN (q :: ps) (x :: ws) 0 + prodE ps * _
    rw [vN_cons hl, vN_cons hl, Nat.mul_comm (prodE ps), Nat.mul_comm (prodE ps)]
    omega
  | q :: ps, x :: ws, i + 1, p, v, w, h, e1, e2 => by
    have hl : ws.length = ps.length := by simpa using h
    have ih := vN_set ps ws i p v w hl (by simpa using e1) (by simpa using e2)
    show vN (q :: ps) (x :: ws.set i w) 0 + prodE (ps.drop (i + 1)) * _ = vN (q :: ps) (x :: ws) 0 + prodE (ps.drop (i + 1)) * _
    rw [vN_cons (by rw [List.length_set]; exact hl), vN_cons hl]
    omega
theorem vN_lt : ∀ (ps : List (Str × List Str)) (ws : List Str), ws.length = ps.length → (∀ (j : Nat) (w : Str) p, ws[j]? = some w → ps[j]? = some p → w ∈ p.2) → vN ps ws 0 < prodE ps
  | [], [], _, _ => by decide
  | p :: ps, w :: ws, h, k => by
    have hl : ws.length = ps.length := by simpa using h
    have ih := vN_lt ps ws hl fun j v q h1 h2 => k (j + 1) v q (by simpa using h1) (by simpa using h2)
    have hi := List.idxOf_lt_length_iff.mpr (k 0 w p rfl rfl)
    rw [vN_cons hl]
    have e3 : prodE (p :: ps) = p.2.length * prodE ps := rfl
    rw [e3]
    have := Nat.mul_le_mul_right (prodE ps) (Nat.succ_le_of_lt hi)
    rw [Nat.succ_mul] at this
    omega
  | [], _ :: _, h, _ => by simp at h
  | _ :: _, [], h, _ => by simp at h
theorem num_lt {b : List Str} (h : WOk b) : numN b < 69984 := by
  have := vN_lt EN b (by rw [h.1]; rfl) h.2
  have e : prodE EN = 69984 := by decide
  rw [e] at this
  exact this
def unitE (i : Nat) : Nat := prodE (EN.drop (i + 1))
def manyE (i : Nat) : Nat := match EN[i]? with | some p => p.2.length | none => 0
/-- the books beside a book, by the place -/
def nb (b : List Str) (i : Nat) : List (List Str) := match EN[i]?, b[i]? with
  | some p, some v => (p.2.filter fun w => !decide (w = v)).map fun w => b.set i w
  | _, _ => []
def allN (b : List Str) : List (List Str) := (List.range 12).flatMap (nb b)
theorem at12 {b : List Str} (h : WOk b) {i : Nat} (hi : i < 12) : ∃ p v, EN[i]? = some p ∧ b[i]? = some v ∧ v ∈ p.2 ∧ p ∈ EN := by
  have h1 : i < EN.length := hi
  have h2 : i < b.length := by rw [h.1]; exact hi
  exact ⟨_, _, List.getElem?_eq_getElem h1, List.getElem?_eq_getElem h2, h.2 i _ _ (List.getElem?_eq_getElem h2) (List.getElem?_eq_getElem h1), List.getElem_mem h1⟩
theorem mem_nb {b o : List Str} {i : Nat} (h : o ∈ nb b i) : ∃ p v w, EN[i]? = some p ∧ b[i]? = some v ∧ w ∈ p.2 ∧ w ≠ v ∧ o = b.set i w := by
  unfold nb at h
  split at h
  · rename_i p v e1 e2
    obtain ⟨w, hw, rfl⟩ := List.mem_map.mp h
    obtain ⟨h1, h2⟩ := List.mem_filter.mp hw
    simp only [Bool.not_eq_true', decide_eq_false_iff_not] at h2
    exact ⟨p, v, w, e1, e2, h1, h2, rfl⟩
  · cases h
theorem nb_eq {b : List Str} {i : Nat} {p : Str × List Str} {v : Str} (e1 : EN[i]? = some p) (e2 : b[i]? = some v) : nb b i = (p.2.filter fun w => !decide (w = v)).map fun w => b.set i w := by
  unfold nb; rw [e1, e2]
theorem nb_ok {b o : List Str} {i : Nat} (h : WOk b) (ho : o ∈ nb b i) : WOk o := by
  obtain ⟨p, v, w, e1, e2, h1, h2, rfl⟩ := mem_nb ho
  exact h.set e1 h1
theorem all_ok {b o : List Str} (h : WOk b) (ho : o ∈ allN b) : WOk o := by
  obtain ⟨i, _, hi⟩ := List.mem_flatMap.mp ho
  exact nb_ok h hi
theorem mem_all {b o : List Str} (ho : o ∈ allN b) : ∃ i p v w, i < 12 ∧ EN[i]? = some p ∧ b[i]? = some v ∧ w ∈ p.2 ∧ w ≠ v ∧ o = b.set i w := by
  obtain ⟨i, hi, h⟩ := List.mem_flatMap.mp ho
  obtain ⟨p, v, w, h⟩ := mem_nb h
  exact ⟨i, p, v, w, List.mem_range.mp hi, h⟩
theorem of_all {b : List Str} {i : Nat} {p : Str × List Str} {v w : Str} (hi : i < 12) (e1 : EN[i]? = some p) (e2 : b[i]? = some v) (hw : w ∈ p.2) (hn : w ≠ v) : b.set i w ∈ allN b := by
  refine List.mem_flatMap.mpr ⟨i, List.mem_range.mpr hi, ?_⟩
  rw [nb_eq e1 e2]
  exact List.mem_map.mpr ⟨w, List.mem_filter.mpr ⟨hw, by simp [hn]⟩, rfl⟩
/-- the number of a neighbour -/
theorem num_set {b : List Str} (h : WOk b) {i : Nat} {p : Str × List Str} {v w : Str} (e1 : EN[i]? = some p) (e2 : b[i]? = some v) : (numN (b.set i w) : Int) = (numN b : Int) + (unitE i : Int) * ((p.2.idxOf w : Int) - (p.2.idxOf v : Int)) := by
  have := vN_set EN b i p v w (by rw [h.1]; rfl) e1 e2
  have e : ((numN (b.set i w) : Nat) : Int) + ((unitE i * p.2.idxOf v : Nat) : Int) = ((numN b : Nat) : Int) + ((unitE i * p.2.idxOf w : Nat) : Int) := by
    rw [← Int.natCast_add, ← Int.natCast_add]; exact congrArg Int.ofNat this
  rw [Int.natCast_mul, Int.natCast_mul] at e
  rw [Int.mul_sub]
  omega
/-- differences at unlike places are unlike -/
theorem far_ne : ∀ i ∈ List.range 12, ∀ j ∈ List.range 12, i ≠ j → ∀ d ∈ [(-2 : Int), -1, 1, 2], ∀ e ∈ [(-2 : Int), -1, 1, 2], d.natAbs < manyE i → e.natAbs < manyE j → (unitE i : Int) * d ≠ (unitE j : Int) * e := by decide +kernel
theorem unit_pos : ∀ i ∈ List.range 12, 0 < unitE i := by decide +kernel
theorem idx_inj : ∀ {l : List Str} {a b : Str}, a ∈ l → b ∈ l → l.idxOf a = l.idxOf b → a = b := by
  intro l a b ha hb h
  have h1 := List.getElem_idxOf (List.idxOf_lt_length_iff.mpr ha)
  have h2 := List.getElem_idxOf (List.idxOf_lt_length_iff.mpr hb)
  have h3 : l[l.idxOf a]? = some a := by rw [List.getElem?_eq_getElem (List.idxOf_lt_length_iff.mpr ha), h1]
  have h4 : l[l.idxOf b]? = some b := by rw [List.getElem?_eq_getElem (List.idxOf_lt_length_iff.mpr hb), h2]
  rw [h, h4] at h3
  exact (Option.some.inj h3).symm
theorem dif_mem {p : Str × List Str} (hp : p ∈ EN) {v w : Str} (hv : v ∈ p.2) (hw : w ∈ p.2) (hn : w ≠ v) : ((p.2.idxOf w : Int) - (p.2.idxOf v : Int)) ∈ [(-2 : Int), -1, 1, 2] ∧ ((p.2.idxOf w : Int) - (p.2.idxOf v : Int)).natAbs < p.2.length := by
  have h3 := (en_ok p hp).1.2.1
  have h1 := List.idxOf_lt_length_iff.mpr hv
  have h2 := List.idxOf_lt_length_iff.mpr hw
  have hne : p.2.idxOf w ≠ p.2.idxOf v := fun z => hn (idx_inj hw hv z)
  refine ⟨?_, by omega⟩
  simp only [List.mem_cons, List.not_mem_nil, or_false]
  omega
theorem num_ne {b : List Str} (h : WOk b) {i j : Nat} {p q : Str × List Str} {v w v' w' : Str} (hi : i < 12) (hj : j < 12) (hij : i ≠ j) (e1 : EN[i]? = some p) (e2 : b[i]? = some v) (hw : w ∈ p.2) (hn : w ≠ v)
    (e1' : EN[j]? = some q) (e2' : b[j]? = some v') (hw' : w' ∈ q.2) (hn' : w' ≠ v') : numN (b.set i w) ≠ numN (b.set j w') := by
  intro z
  have z : (numN (b.set i w) : Int) = (numN (b.set j w') : Int) := by rw [z]
  rw [num_set h e1 e2, num_set h e1' e2'] at z
  obtain ⟨d1, d2⟩ := dif_mem (List.mem_of_getElem? e1) (h.2 i v p e2 e1) hw hn
  obtain ⟨d3, d4⟩ := dif_mem (List.mem_of_getElem? e1') (h.2 j v' q e2' e1') hw' hn'
  refine far_ne i (List.mem_range.mpr hi) j (List.mem_range.mpr hj) hij _ d1 _ d3 ?_ ?_ (by omega)
  · unfold manyE; rw [e1]; exact d2
  · unfold manyE; rw [e1']; exact d4
theorem num_same {b : List Str} (h : WOk b) {i : Nat} {p : Str × List Str} {v w w' : Str} (hi : i < 12) (e1 : EN[i]? = some p) (e2 : b[i]? = some v) (hw : w ∈ p.2) (hw' : w' ∈ p.2) (z : numN (b.set i w) = numN (b.set i w')) : w = w' := by
  have z : (numN (b.set i w) : Int) = (numN (b.set i w') : Int) := by rw [z]
  rw [num_set h e1 e2, num_set h e1 e2] at z
  have hu := unit_pos i (List.mem_range.mpr hi)
  have z2 : (unitE i : Int) * ((p.2.idxOf w : Int) - (p.2.idxOf v : Int)) = (unitE i : Int) * ((p.2.idxOf w' : Int) - (p.2.idxOf v : Int)) := by omega
  have z3 := Int.eq_of_mul_eq_mul_left (by omega) z2
  exact idx_inj hw hw' (by omega)
theorem num_inj {b o o' : List Str} (h : WOk b) (ho : o ∈ allN b) (ho' : o' ∈ allN b) (z : numN o = numN o') : o = o' := by
  obtain ⟨i, p, v, w, hi, e1, e2, hw, hn, rfl⟩ := mem_all ho
  obtain ⟨j, q, v', w', hj, e1', e2', hw', hn', rfl⟩ := mem_all ho'
  by_cases hij : i = j
  · subst hij
    rw [e1] at e1'; cases e1'
    rw [num_same h hi e1 e2 hw hw' z]
  · exact absurd z (num_ne h hi hj hij e1 e2 hw hn e1' e2' hw' hn')
theorem all_nodup {b : List Str} (h : WOk b) : ((allN b).map numN).Nodup := by
  unfold List.Nodup
  rw [List.pairwise_map]
  unfold allN
  rw [List.pairwise_flatMap]
  refine ⟨fun i hi => ?_, ?_⟩
  · have hi := List.mem_range.mp hi
    obtain ⟨p, v, e1, e2, _, hp⟩ := at12 h hi
    rw [nb_eq e1 e2, List.pairwise_map]
    refine List.Pairwise.imp_of_mem (fun {w w'} hw hw' hne z => hne ?_) ((en_ok p hp).2.2.1.filter _)
    exact num_same h hi e1 e2 (List.mem_filter.mp hw).1 (List.mem_filter.mp hw').1 z
  · refine List.Pairwise.imp_of_mem (fun {i j} hi hj hne x hx y hy z => ?_) List.nodup_range
    obtain ⟨p, v, w, e1, e2, hw, hn, rfl⟩ := mem_nb hx
    obtain ⟨q, v', w', e1', e2', hw', hn', rfl⟩ := mem_nb hy
    exact num_ne h (List.mem_range.mp hi) (List.mem_range.mp hj) hne e1 e2 hw hn e1' e2' hw' hn' z
theorem filt_len {v : Str} : ∀ {l : List Str}, l.Nodup → v ∈ l → (l.filter fun w => !decide (w = v)).length + 1 = l.length
  | [], _, h => by cases h
  | a :: l, hn, h => by
    obtain ⟨h1, h2⟩ := List.nodup_cons.mp hn
    by_cases e : a = v
    · subst e
      rw [List.filter_cons_of_neg (by simp), List.filter_eq_self.mpr fun x hx => by simp; rintro rfl; exact h1 hx]; rfl
    · have hm : v ∈ l := by
        rcases List.mem_cons.mp h with z | z
        · exact absurd z.symm e
        · exact z
      rw [List.filter_cons_of_pos (by simp [e]), List.length_cons, List.length_cons, filt_len h2 hm]
theorem all_len {b : List Str} (h : WOk b) : (allN b).length = 19 := by
  unfold allN
  rw [List.length_flatMap]
  have e : (List.range 12).map (fun i => (nb b i).length) = (List.range 12).map fun i => manyE i - 1 := by
    refine List.map_congr_left fun i hi => ?_
    obtain ⟨p, v, e1, e2, hv, hp⟩ := at12 h (List.mem_range.mp hi)
    have := filt_len (en_ok p hp).2.2.1 hv
    rw [nb_eq e1 e2, List.length_map]
    unfold manyE
    rw [e1]
    show _ = p.2.length - 1
    omega
  rw [e]; decide
def S1 (b : List Str) : List (Int × List Str) := (allN b).map fun o => ((numN o : Int), o)
def S2 (b : List Str) : List (Int × List Str) := ((List.range 12).reverse.flatMap (nb b)).map fun o => ((numN o : Int) - (numN b : Int), o)
def srt (b : List Str) : List (Int × List Str) := sortP (S1 b)
theorem srt_perm (b : List Str) : (srt b).Perm (S1 b) := sortP_perm _
theorem srt_mem {b : List Str} {x : Int × List Str} (h : x ∈ srt b) : x.2 ∈ allN b ∧ x.1 = (numN x.2 : Int) := by
  obtain ⟨o, ho, rfl⟩ := List.mem_map.mp ((srt_perm b).mem_iff.mp h)
  exact ⟨ho, rfl⟩
theorem mem_srt {b o : List Str} (h : o ∈ allN b) : ((numN o : Int), o) ∈ srt b := (srt_perm b).mem_iff.mpr (List.mem_map.mpr ⟨o, h, rfl⟩)
theorem srt_len {b : List Str} (h : WOk b) : (srt b).length = 19 := by rw [(srt_perm b).length_eq]; unfold S1; rw [List.length_map, all_len h]
theorem s2_perm (b : List Str) : (S2 b).Perm ((S1 b).map fun p => (p.1 - (numN b : Int), p.2)) := by
  unfold S1 S2
  rw [List.map_map]
  exact ((List.reverse_perm _).flatMap_right _).map _
theorem sort2 {b : List Str} (h : WOk b) : sortP (S2 b) = (srt b).map fun p => (p.1 - (numN b : Int), p.2) := by
  refine sorted_uniq (r := Prod.fst) ((sortP_perm _).trans ((s2_perm b).trans ((srt_perm b).symm.map _))) (sortP_pair _) ?_ fun x hx y hy e => ?_
  · rw [List.pairwise_map]
    exact (sortP_pair (S1 b)).imp fun h => by show _ - _ ≤ _ - _; omega
  · have hx' := (s2_perm b).mem_iff.mp ((sortP_perm _).mem_iff.mp hx)
    have hy' := (s2_perm b).mem_iff.mp ((sortP_perm _).mem_iff.mp hy)
    unfold S1 at hx' hy'
    rw [List.map_map] at hx' hy'
    obtain ⟨o, ho, rfl⟩ := List.mem_map.mp hx'
    obtain ⟨o', ho', rfl⟩ := List.mem_map.mp hy'
    have e : (numN o : Int) - (numN b : Int) = (numN o' : Int) - (numN b : Int) := e
    rw [num_inj h ho ho' (by omega)]
theorem s2_nodup {b : List Str} (h : WOk b) : ((S2 b).map (·.1)).Nodup := by
  have e : ((S2 b).map (·.1)).Perm ((allN b).map fun o => (numN o : Int) - (numN b : Int)) := by
    have := (s2_perm b).map (·.1)
    unfold S1 at this
    rw [List.map_map, List.map_map] at this
    exact this
  rw [e.nodup_iff]
  have := all_nodup h
  unfold List.Nodup at this ⊢
  rw [List.pairwise_map] at this ⊢
  exact this.imp fun hne z => hne (by omega)
theorem s1_nodup {b : List Str} (h : WOk b) : ((S1 b).map (·.1)).Nodup := by
  have := all_nodup h
  unfold S1
  rw [List.map_map]
  unfold List.Nodup at this ⊢
  rw [List.pairwise_map] at this ⊢
  exact this.imp fun hne z => hne (by have z : (numN _ : Int) = (numN _ : Int) := z; omega)
/-- a book is beside its neighbours -/
theorem back {b o : List Str} (h : WOk b) (ho : o ∈ allN b) : b ∈ allN o := by
  obtain ⟨i, p, v, w, hi, e1, e2, hw, hn, rfl⟩ := mem_all ho
  have hl : i < b.length := by rw [h.1]; exact hi
  have e3 : (b.set i w)[i]? = some w := List.getElem?_set_self hl
  have := of_all (b := b.set i w) hi e1 e3 (h.2 i v p e2 e1) (Ne.symm hn)
  have e4 : (b.set i w).set i v = b := by
    rw [List.set_set]
    rw [List.getElem?_eq_getElem hl] at e2
    cases e2
    exact List.set_getElem_self hl
  rw [e4] at this
  exact this
/-- the places at which a neighbour is another one -/
theorem spots {b : List Str} (h : WOk b) {i : Nat} {v w : Str} (hi : i < 12) (e2 : b[i]? = some v) (hn : w ≠ v) : ((List.range 12).filter fun j => !decide ((b.set i w)[j]? = b[j]?)) = [i] := by
  have hl : i < b.length := by rw [h.1]; exact hi
  have e : ∀ j ∈ List.range 12, (!decide ((b.set i w)[j]? = b[j]?)) = decide (j = i) := fun j hj => by
    by_cases hj2 : j = i
    · subst hj2
      rw [List.getElem?_set_self hl, e2]
      simp [hn]
    · rw [List.getElem?_set_ne (Ne.symm hj2)]
      simp [hj2]
  rw [List.filter_congr e]
  have f : ∀ i ∈ List.range 12, ((List.range 12).filter fun j => decide (j = i)) = [i] := by decide
  exact f i (List.mem_range.mpr hi)
end K

set_option Elab.async false
set_option linter.all false
set_option maxRecDepth 100000
set_option maxHeartbeats 4000000
/-! numbers of books, their neighbours: the walks -/
namespace K
open PL PySem
local macro_rules
  | `(tactic| simp! only [$xs,*]) => `(tactic| simp only [at0, at1, at2, at3, at4, at5, at6, at7, at8, at9, at10, at11, vb_add, vb_sub, vb_mul, vb_fdiv, vb_md, vb_pow, vb_adds, vb_addt, vb_addl, vb_mult, vb_mull, vl_lent, vl_lenl, vl_lens, vl_lene, vx_e, vn_e, sr_e, im_e, im_l, rw_e, rw_l, fl_s, fl_i, as_t, vl_abs, vl_int, vl_intb, vl_tupt, vl_tupl, vl_lstt, vl_lstl, vl_srt, vl_dz, vl_min, vl_max, vl_strI, vi_int_non, vi_int_bl, vi_int_int, vi_int_str, vi_int_tup, vi_int_lst, vi_int_dct, vi_int_rep, vi_bool_non, vi_bool_bl, vi_bool_int, vi_bool_str, vi_bool_tup, vi_bool_lst, vi_bool_dct, vi_bool_rep, vi_str_non, vi_str_bl, vi_str_int, vi_str_str, vi_str_tup, vi_str_lst, vi_str_dct, vi_str_rep, vi_tup_non, vi_tup_bl, vi_tup_int, vi_tup_str, vi_tup_tup, vi_tup_lst, vi_tup_dct, vi_tup_rep, vi_lst_non, vi_lst_bl, vi_lst_int, vi_lst_str, vi_lst_tup, vi_lst_lst, vi_lst_dct, vi_lst_rep, vi_dct_non, vi_dct_bl, vi_dct_int, vi_dct_str, vi_dct_tup, vi_dct_lst, vi_dct_dct, vi_dct_rep, vx_t, vx_l, vx_ds, vx_di, vs_tnn, vs_lnn, vs_snn, vs_tnj, vs_lnj, vs_snj, vs_tin, vs_lin, vs_sin, vs_tij, vs_lij, vs_sij, vr_l, vt_n, vt_b, vt_i, vt_s, vt_t, vt_l, vt_d, vc_lt, vc_le, vc_gt, vc_ge, vc_eq, vc_ne, vc_in, vc_nin, vn_l, vn_t, vc_is_non, vc_isn_non, vc_is_bl, vc_isn_bl, vc_is_int, vc_isn_int, vc_is_str, vc_isn_str, vc_is_tup, vc_isn_tup, vc_is_lst, vc_isn_lst, vc_is_dct, vc_isn_dct, vc_is_rep, vc_isn_rep, ve_non_non, ve_non_bl, ve_non_int, ve_non_str, ve_non_tup, ve_non_lst, ve_bl_non, ve_bl_bl, ve_bl_int, ve_bl_str, ve_bl_tup, ve_bl_lst, ve_int_non, ve_int_bl, ve_int_int, ve_int_str, ve_int_tup, ve_int_lst, ve_str_non, ve_str_bl, ve_str_int, ve_str_str, ve_str_tup, ve_str_lst, ve_tup_non, ve_tup_bl, ve_tup_int, ve_tup_str, ve_tup_tup, ve_tup_lst, ve_lst_non, ve_lst_bl, ve_lst_int, ve_lst_str, ve_lst_tup, ve_lst_lst, ve_rep_str, vm_app, vm_ext, vm_ins, vsm_join, vsm_split, vsm_upper, vw_l, sq_t, sq_l, sr_t, sr_l, sr_s, sr_r1, sr_r2, sr_r3, sr_et, sr_el, sr_ztt, sr_ztl, sr_zlt, sr_zll, V_var, V_cI, V_cB, V_cS, V_cN, V_gcon, V_gkd, V_ixl, V_ent, V_ixm, V_stup, V_stN, V_stF, V_stT, V_bin, V_neg, V_notE, V_and1, V_or1, V_and2, V_or2, V_cmp, V_cmp2, V_ife, V_tup, V_lst, V_dic, V_call, V_callK, V_blt, V_meth, V_smeth, asS_str, V_idx, V_sl, V_rev, V_nil, V_cons, V_bnil, V_bcons, ga_nil, ga_cons, endC, own_nil, own_val, own_var, flatR, flat, flats, frzB, V_val, V_vc, V_vc2, V_not, V_tand1, V_tor1, V_tand2, V_tor2, V_yes, V_name, V_tgt, V_tgsub, V_tgnil, V_tgcons, V_asg, V_asgC, V_lc, lcS_V, V_par, V_exp, V_retA, V_retN, V_if, V_for, forS_V, V_whl, V_brk, V_cnt, V_pass, V_snil, V_scons, ↓VThen_next, ↓VThen_ret, ↓VThen_brk, ↓VThen_cnt, ↓VBack_ret, ↓VBack_next, ↓VTurn_next, ↓VTurn_cnt, ↓VTurn_brk, ↓VTurn_ret, Vd_ok, Vd_bad, B_any, av_var, av_cI, av_cB, av_cS, av_cN, av_gcon, av_gkd, av_ixl, av_ent, av_ixm, av_stup, av_bin, av_neg, av_notE, av_and1, av_and2, av_or1, av_or2, av_cmp, av_cmp2, av_ife, av_tup, av_lst, av_dic, av_call, av_callK, av_blt, av_meth, av_smeth, av_idx, av_sl, av_rev, av_lc, get_val, get_var, slot_get, SlP_some, OwP_some, LstP_lst, IntP_int, OpP_some, OpP_none, OpP_ite, OpP_map, Fd_ok, setAllV, List.map_cons, List.map_nil, List.replicate_succ, List.replicate_zero, List.cons_append, List.nil_append, List.getElem?_cons_zero, List.getElem?_cons_succ, List.set_cons_zero, List.set_cons_succ, List.length_cons, List.length_nil, Option.map_some, Option.map_none, wipeV, restV, if_true, if_false, Bool.false_eq_true, Bool.true_eq_false, reduceIte, Bool.not_true, Bool.not_false, reduceCtorEq, decide_true, decide_false, Bool.or_false, Bool.false_or, Bool.and_true, Bool.true_and, Bool.and_false, Bool.false_and, Bool.true_or, Bool.or_true, Bool.and_self, Bool.or_self, Nat.reduceAdd, Nat.reduceSub, List.getD_cons_zero, List.getD_cons_succ, $xs,*])
local macro_rules
  | `(tactic| infer_instance) => `(tactic| simp only [at0, at1, at2, at3, at4, at5, at6, at7, at8, at9, at10, at11, vb_add, vb_sub, vb_mul, vb_fdiv, vb_md, vb_pow, vb_adds, vb_addt, vb_addl, vb_mult, vb_mull, vl_lent, vl_lenl, vl_lens, vl_lene, vx_e, vn_e, sr_e, im_e, im_l, rw_e, rw_l, fl_s, fl_i, as_t, vl_abs, vl_int, vl_intb, vl_tupt, vl_tupl, vl_lstt, vl_lstl, vl_srt, vl_dz, vl_min, vl_max, vl_strI, vi_int_non, vi_int_bl, vi_int_int, vi_int_str, vi_int_tup, vi_int_lst, vi_int_dct, vi_int_rep, vi_bool_non, vi_bool_bl, vi_bool_int, vi_bool_str, vi_bool_tup, vi_bool_lst, vi_bool_dct, vi_bool_rep, vi_str_non, vi_str_bl, vi_str_int, vi_str_str, vi_str_tup, vi_str_lst, vi_str_dct, vi_str_rep, vi_tup_non, vi_tup_bl, vi_tup_int, vi_tup_str, vi_tup_tup, vi_tup_lst, vi_tup_dct, vi_tup_rep, vi_lst_non, vi_lst_bl, vi_lst_int, vi_lst_str, vi_lst_tup, vi_lst_lst, vi_lst_dct, vi_lst_rep, vi_dct_non, vi_dct_bl, vi_dct_int, vi_dct_str, vi_dct_tup, vi_dct_lst, vi_dct_dct, vi_dct_rep, vx_t, vx_l, vx_ds, vx_di, vs_tnn, vs_lnn, vs_snn, vs_tnj, vs_lnj, vs_snj, vs_tin, vs_lin, vs_sin, vs_tij, vs_lij, vs_sij, vr_l, vt_n, vt_b, vt_i, vt_s, vt_t, vt_l, vt_d, vc_lt, vc_le, vc_gt, vc_ge, vc_eq, vc_ne, vc_in, vc_nin, vn_l, vn_t, vc_is_non, vc_isn_non, vc_is_bl, vc_isn_bl, vc_is_int, vc_isn_int, vc_is_str, vc_isn_str, vc_is_tup, vc_isn_tup, vc_is_lst, vc_isn_lst, vc_is_dct, vc_isn_dct, vc_is_rep, vc_isn_rep, ve_non_non, ve_non_bl, ve_non_int, ve_non_str, ve_non_tup, ve_non_lst, ve_bl_non, ve_bl_bl, ve_bl_int, ve_bl_str, ve_bl_tup, ve_bl_lst, ve_int_non, ve_int_bl, ve_int_int, ve_int_str, ve_int_tup, ve_int_lst, ve_str_non, ve_str_bl, ve_str_int, ve_str_str, ve_str_tup, ve_str_lst, ve_tup_non, ve_tup_bl, ve_tup_int, ve_tup_str, ve_tup_tup, ve_tup_lst, ve_lst_non, ve_lst_bl, ve_lst_int, ve_lst_str, ve_lst_tup, ve_lst_lst, ve_rep_str, vm_app, vm_ext, vm_ins, vsm_join, vsm_split, vsm_upper, vw_l, sq_t, sq_l, sr_t, sr_l, sr_s, sr_r1, sr_r2, sr_r3, sr_et, sr_el, sr_ztt, sr_ztl, sr_zlt, sr_zll, V_var, V_cI, V_cB, V_cS, V_cN, V_gcon, V_gkd, V_ixl, V_ent, V_ixm, V_stup, V_stN, V_stF, V_stT, V_bin, V_neg, V_notE, V_and1, V_or1, V_and2, V_or2, V_cmp, V_cmp2, V_ife, V_tup, V_lst, V_dic, V_call, V_callK, V_blt, V_meth, V_smeth, asS_str, V_idx, V_sl, V_rev, V_nil, V_cons, V_bnil, V_bcons, ga_nil, ga_cons, endC, own_nil, own_val, own_var, flatR, flat, flats, frzB, V_val, V_vc, V_vc2, V_not, V_tand1, V_tor1, V_tand2, V_tor2, V_yes, V_name, V_tgt, V_tgsub, V_tgnil, V_tgcons, V_asg, V_asgC, V_lc, lcS_V, V_par, V_exp, V_retA, V_retN, V_if, V_for, forS_V, V_whl, V_brk, V_cnt, V_pass, V_snil, V_scons, ↓VThen_next, ↓VThen_ret, ↓VThen_brk, ↓VThen_cnt, ↓VBack_ret, ↓VBack_next, ↓VTurn_next, ↓VTurn_cnt, ↓VTurn_brk, ↓VTurn_ret, Vd_ok, Vd_bad, B_any, av_var, av_cI, av_cB, av_cS, av_cN, av_gcon, av_gkd, av_ixl, av_ent, av_ixm, av_stup, av_bin, av_neg, av_notE, av_and1, av_and2, av_or1, av_or2, av_cmp, av_cmp2, av_ife, av_tup, av_lst, av_dic, av_call, av_callK, av_blt, av_meth, av_smeth, av_idx, av_sl, av_rev, av_lc, get_val, get_var, slot_get, SlP_some, OwP_some, LstP_lst, IntP_int, OpP_some, OpP_none, OpP_ite, OpP_map, Fd_ok, setAllV, List.map_cons, List.map_nil, List.replicate_succ, List.replicate_zero, List.cons_append, List.nil_append, List.getElem?_cons_zero, List.getElem?_cons_succ, List.set_cons_zero, List.set_cons_succ, List.length_cons, List.length_nil, Option.map_some, Option.map_none, wipeV, restV, if_true, if_false, Bool.false_eq_true, Bool.true_eq_false, reduceIte, Bool.not_true, Bool.not_false, reduceCtorEq, decide_true, decide_false, Bool.or_false, Bool.false_or, Bool.and_true, Bool.true_and, Bool.and_false, Bool.false_and, Bool.true_or, Bool.or_true, Bool.and_self, Bool.or_self, Nat.reduceAdd, Nat.reduceSub, List.getD_cons_zero, List.getD_cons_succ])
section
variable {n T : Nat} {s : JS} {P : Bool → U → JS → Prop}
theorem pairM_get : ∀ {α β : Type} (l : List α) (ws : List β) (f : α → U) (g : β → U) (i : Nat) (x : U), (pairU (l.map f) (ws.map g))[i]? = some x → ∃ p w, l[i]? = some p ∧ ws[i]? = some w ∧ x = .tup [f p, g w]
  | _, _, [], _, f, g, i, x, h => by simp [pairU] at h
  | _, _, _ :: _, [], f, g, i, x, h => by simp [pairU] at h
  | _, _, p :: l, w :: ws, f, g, 0, x, h => by cases h; exact ⟨p, w, rfl, rfl, rfl⟩
  | _, _, p :: l, w :: ws, f, g, i + 1, x, h => pairM_get l ws f g i x h
theorem pairM_len : ∀ {α β : Type} (l : List α) (ws : List β) (f : α → U) (g : β → U), l.length = ws.length → (pairU (l.map f) (ws.map g)).length = l.length
  | _, _, [], [], _, _, _ => rfl
  | _, _, p :: l, w :: ws, f, g, h => by
    show (pairU (l.map f) (ws.map g)).length + 1 = _
    rw [pairM_len l ws f g (by simpa using h)]; rfl
  | _, _, [], _ :: _, _, _, h => by simp at h
  | _, _, _ :: _, [], _, _, h => by simp at h
theorem ix_of {ts : List Str} {w : Str} (h : w ∈ ts) : ixU ts (.str w) = some (.int (ts.idxOf w : Nat)) := by
  show (if w ∈ ts then _ else _) = _
  rw [if_pos h]
theorem strs_map : ∀ l : List Str, strsU (l.map U.str) = some l
  | [] => rfl
  | x :: l => by
    show (strsU (l.map U.str)).map _ = _
    rw [strs_map l]; rfl
theorem asS_map : ∀ l : List Str, (l.map U.str).filterMap asS = l
  | [] => rfl
  | x :: l => by
    show x :: (l.map U.str).filterMap asS = _
    rw [asS_map l]
theorem eqv_str (a b : Str) : PyData.eqv (.str a) (.str b) = decide (a = b) := by first | rfl | (unfold PyData.eqv; by_cases h : a = b <;> simp [h])
theorem any_mem : ∀ {l : List Str} {w : Str}, w ∈ l → ((pyUs (l.map U.str)).any fun y => PyData.eqv y (pyU (.str w))) = true
  | a :: l, w, h => by
    show (PyData.eqv (.str a) (.str w) || (pyUs (l.map U.str)).any fun y => PyData.eqv y (pyU (.str w))) = true
    rcases List.mem_cons.mp h with rfl | h
    · rw [eqv_str]; simp
    · rw [any_mem h, Bool.or_true]
theorem in_ent {p : Str × List Str} (hp : p ∈ EN) {w : Str} (hw : w ∈ p.2) : (if vdctIn (.str w) (p.2.map U.str) = true then none else vinP (.str w) (p.2.map U.str)) = some true := by
  have ok := (en_ok p hp).2.2.2
  have ow : ∀ m x, x ∈ p.2 → okD m (.str x) = true := fun m x hx => by cases m <;> exact (ok x hx).1
  rw [if_neg (by show ¬(false = true); simp), in_v (n := 1) (m := 1) (ow 1 w hw) (okDs_of fun u hu => by
    obtain ⟨x, hx, rfl⟩ := List.mem_map.mp hu
    exact ow 1 x hx) (by decide) (by decide), any_mem hw]
theorem at_b {b : List Str} {i : Nat} {v : Str} (h : b[i]? = some v) : vidx.atU (b.map U.str) (i : Int) = some (.str v) := atU_nat (by rw [List.getElem?_map, h]; rfl)
theorem with_word_v {b : List Str} {i : Nat} {w : Str} (hb : b.length = 12) (hi : i < 12) (k : P false (bv (b.set i w)) s) : Fd (VR' (n + 1) 2 [bv b, .int (i : Int), .str w] s) P := by
  refine V_def (fn := f2) (CVn (by decide)) pr2 rfl ?_
  unfold bv at k ⊢
  rw [← set_parts (by omega : i < b.length)] at k
  simp! only [f2, cut_to, cut_from]
  refine ⟨trivial, sz (by simp; omega), ?_⟩
  rw [List.append_nil]
  rw [List.append_assoc] at k
  exact k
theorem vN_take : ∀ (i : Nat) (ps : List (Str × List Str)) (ws : List Str) (a : Nat) (p : Str × List Str) (w : Str), ps[i]? = some p → ws[i]? = some w → vN (ps.take (i + 1)) (ws.take (i + 1)) a = vN (ps.take i) (ws.take i) a * p.2.length + p.2.idxOf w
  | _, [], _, _, _, _, h, _ => by simp at h
  | _, _ :: _, [], _, _, _, _, h => by simp at h
  | 0, q :: ps, x :: ws, a, p, w, h1, h2 => by cases h1; cases h2; simp [vN]
  | i + 1, q :: ps, x :: ws, a, p, w, h1, h2 => by
    show vN (ps.take (i + 1)) (ws.take (i + 1)) _ = vN (ps.take i) (ws.take i) _ * _ + _
    exact vN_take i ps ws _ p w (by simpa using h1) (by simpa using h2)
theorem tgo23 : tgOwn (Tg.tup (Tgs.cons (Tg.name 2) (Tgs.cons (Tg.name 3) Tgs.nil))) [2, 3] = true := by kernel_rfl
theorem book_number_v {b : List Str} (hb : WOk b) (k : P false (.int (numN b : Nat)) s) : Fd (VR' (n + 2) 4 [bv b] s) P := by
  refine V_def (fn := f4) (CVn (by decide)) pr4 rfl ?_
  have hbl := hb.1
  unfold bv
  simp! only [f4]
  refine all_v ?_
  simp! only [allL_eq]
  refine vfor_inv (fun i e s' => s' = s ∧ ∃ x2 x3, e = [some (false, .tup (b.map .str)), some (false, .int (vN (EN.take i) (b.take i) 0 : Nat)), x2, x3]) ⟨rfl, _, _, rfl⟩ ?_ ?_
  · rintro i x e s' hx ⟨rfl, x2, x3, rfl⟩
    obtain ⟨p, w, e1, e2, rfl⟩ := pairM_get EN b uT U.str i x hx
    have hp := List.mem_of_getElem? e1
    have hw := hb.2 i w p e2 e1
    have h3 := (en_ok p hp).1.2.1
    have et : uT p = .tup [.str p.1, .ent p.2] := rfl
    rw [et, vN_take i EN b 0 p w e1 e2]
    simp! only [ix_of hw]
    exact ⟨small_r (small_of ⟨by omega, by omega⟩), trivial, trivial, _, _, rfl⟩
  · rintro e s' ⟨rfl, x2, x3, rfl⟩
    have el : (pairU (EN.map uT) (b.map U.str)).length = 12 := by rw [pairM_len EN b uT U.str (by rw [hbl]; rfl)]; rfl
    rw [el, List.take_of_length_le (by decide : EN.length ≤ 12), List.take_of_length_le (by omega)]
    infer_instance
    exact k
theorem book_error_v {b : List Str} (hb : WOk b) (k : P false .non s) : Fd (VR' (n + 2) 1 [bv b] s) P := by
  refine V_def (fn := f1) (CVn (by decide)) pr1 rfl ?_
  have hbl := hb.1
  unfold bv
  simp! only [f1]
  refine all_v ?_
  infer_instance
  rw [if_neg (by rw [List.length_map, allL_len, hbl]; decide)]
  refine all_v ?_
  simp! only [allL_eq]
  refine vfor_inv (fun i e s' => s' = s ∧ ∃ x2 x3, e = [some (false, .tup (b.map .str)), x2, x3]) ⟨rfl, _, _, rfl⟩ ?_ ?_
  · rintro i x e s' hx ⟨rfl, x2, x3, rfl⟩
    obtain ⟨p, w, e1, e2, rfl⟩ := pairM_get EN b uT U.str i x hx
    have hp := List.mem_of_getElem? e1
    have hw := hb.2 i w p e2 e1
    have et : uT p = .tup [.str p.1, .ent p.2] := rfl
    rw [et]
    simp! only [in_ent hp hw]
    first | exact ⟨trivial, _, _, rfl⟩ | exact ⟨rfl, _, _, rfl⟩
  · rintro e s' ⟨rfl, x2, x3, rfl⟩
    infer_instance
    exact k
theorem name_inj : ∀ i ∈ List.range 12, ∀ j ∈ List.range 12, (EN[i]?).map Prod.fst = (EN[j]?).map Prod.fst → i = j := by decide +kernel
theorem altered_v {b : List Str} {i : Nat} {p : Str × List Str} {w : Str} (hb : WOk b) (hi : i < 12) (e1 : EN[i]? = some p) (hw : w ∈ p.2) (k : P false (bv (b.set i w)) s) : Fd (VR' (n + 2) 3 [bv b, .str p.1, .str w] s) P := by
  refine V_def (fn := f3) (CVn (by decide)) pr3 rfl ?_
  have hbl := hb.1
  simp! only [f3]
  refine all_v ?_
  infer_instance
  refine vfor_inv (fun j e s' => s' = s ∧ j ≤ i ∧ ∃ x3 x4, e = [some (false, bv b), some (false, .str p.1), some (false, .str w), x3, x4]) ⟨rfl, Nat.zero_le _, _, _, rfl⟩ ?_ ?_
  · rintro j x e s' hx ⟨rfl, hj, x3, x4, rfl⟩
    obtain ⟨u, hu, rfl⟩ := numU_get0 hx
    obtain ⟨q, e2, rfl⟩ := all_get hu
    have et : uT q = .tup [.str q.1, .ent q.2] := rfl
    rw [et]
    infer_instance
    by_cases hji : j = i
    · subst hji
      rw [e1] at e2; cases e2
      rw [if_pos (by simp)]
      simp! only [in_ent (List.mem_of_getElem? e1) hw]
      refine with_word_v hbl hi ?_
      infer_instance
      exact k
    · rw [if_neg (by
        rw [decide_eq_true_eq]
        intro z
        have hj12 : j < 12 := by omega
        exact hji (name_inj j (List.mem_range.mpr hj12) i (List.mem_range.mpr hi) (by rw [e1, e2]; exact congrArg some z)))]
      first | exact ⟨trivial, by omega, _, _, rfl⟩ | exact ⟨rfl, by omega, _, _, rfl⟩
  · rintro e s' ⟨rfl, hj, x3, x4, rfl⟩
    have el : (PL.numU 0 allL).length = 12 := by rw [← allL_len]; exact numU_len
    rw [el] at hj
    omega
def eU (p : Int × List Str) : U := .tup [.int p.1, bv p.2]
theorem pairs_map : ∀ l : List (Int × List Str), pairsU (l.map eU) = some (l.map fun p => (p.1, bv p.2))
  | [] => rfl
  | p :: l => by
    show (pairsU (l.map eU)).map _ = _
    rw [pairs_map l]; rfl
theorem srt_v {l : List (Int × List Str)} (h0 : l ≠ []) (hl : l.length < 64) (hn : (l.map (·.1)).Nodup) : vsrt (.lst (l.map eU)) = some (true, .lst ((sortP l).map eU)) := by
  have hi : intsU (l.map eU) = none := by
    cases l with
    | nil => exact absurd rfl h0
    | cons p l => rfl
  unfold vsrt
  simp only [itemsU, hi]
  unfold vsrtP
  rw [pairs_map]
  simp only []
  rw [if_pos ⟨by rw [List.length_map]; exact hl, by rw [List.map_map]; exact hn⟩, sortP_map bv l, List.map_map]; rfl
def fW (b : List Str) (i : Nat) (v : Str) (u : U) : Option U := match u with
  | .str w => if w = v then none else some (bv (b.set i w))
  | _ => none
theorem fW_map {b : List Str} {i : Nat} {v : Str} : ∀ l : List Str, (l.map U.str).filterMap (fW b i v) = ((l.filter fun w => !decide (w = v)).map fun w => b.set i w).map bv
  | [] => rfl
  | w :: l => by
    rw [List.map_cons, List.filterMap_cons]
    have e : fW b i v (.str w) = if w = v then none else some (bv (b.set i w)) := rfl
    rw [e]
    by_cases h : w = v
    · rw [if_pos h, List.filter_cons_of_neg (by simp [h])]
      exact fW_map l
    · rw [if_neg h, List.filter_cons_of_pos (by simp [h])]
      show bv _ :: _ = _
      rw [fW_map l]; rfl
def fK (u : U) : Option U := match u with
  | .tup us => some (.tup [.int (numN (us.filterMap asS) : Nat), .tup us])
  | _ => none
theorem fK_bv (o : List Str) : fK (bv o) = some (eU ((numN o : Int), o)) := by
  show some (U.tup [.int (numN ((o.map U.str).filterMap asS) : Nat), .tup (o.map .str)]) = _
  rw [asS_map]; rfl
theorem fK_map : ∀ l : List (List Str), (l.map bv).filterMap fK = (l.map fun o => ((numN o : Int), o)).map eU
  | [] => rfl
  | o :: l => by
    rw [List.map_cons, List.filterMap_cons, fK_bv]
    show eU _ :: _ = _
    rw [fK_map l]; rfl
def fS (u : U) : Option U := match u with
  | .tup [_, o] => some o
  | _ => none
theorem fS_map : ∀ l : List (Int × List Str), (l.map eU).filterMap fS = l.map fun p => bv p.2
  | [] => rfl
  | o :: l => by
    show bv o.2 :: _ = _
    rw [fS_map l]; rfl
theorem tgo76 : tgOwn (Tg.tup (Tgs.cons (Tg.name 7) (Tgs.cons (Tg.name 6) Tgs.nil))) [7, 6] = true := by kernel_rfl
theorem s1_len {b : List Str} (h : WOk b) : (S1 b).length = 19 := by unfold S1; rw [List.length_map, all_len h]
theorem nb_len (b : List Str) (i : Nat) : (nb b i).length ≤ 3 := by
  unfold nb
  split
  · rename_i p v e1 e2
    rw [List.length_map]
    exact Nat.le_trans (List.length_filter_le _ _) (en_ok p (List.mem_of_getElem? e1)).1.2.1
  · exact Nat.zero_le _
theorem pre_len (b : List Str) (i : Nat) : ((List.range i).flatMap (nb b)).length ≤ 3 * i := by
  induction i with
  | zero => exact Nat.le_refl _
  | succ i ih =>
    have := nb_len b i
    rw [List.range_succ, List.flatMap_append, List.length_append]
    simp only [List.flatMap_cons, List.flatMap_nil, List.append_nil]
    omega
theorem neighbours_v {b : List Str} (hb : WOk b) (k : P false (.tup ((srt b).map fun p => bv p.2)) s) : Fd (VR' (n + 3) 5 [bv b] s) P := by
  refine V_def (fn := f5) (CVn (by decide)) pr5 rfl ?_
  have hbl := hb.1
  simp! only [f5]
  refine ⟨by decide, ?_⟩
  refine all_v ?_
  infer_instance
  refine vfor_inv (fun i e s' => s' = s ∧ ∃ x2 x3 x4 x5 x6 x7, e = [some (false, bv b), some (true, .lst ((((List.range i).flatMap (nb b)).map fun o => ((numN o : Int), o)).map eU)), x2, x3, x4, x5, x6, x7]) ⟨rfl, _, _, _, _, _, _, rfl⟩ ?_ ?_
  · rintro i x e s' hx ⟨rfl, x2, x3, x4, x5, x6, x7, rfl⟩
    obtain ⟨u, hu, rfl⟩ := numU_get0 hx
    obtain ⟨p, e1, rfl⟩ := all_get hu
    have hi : i < 12 := (List.getElem?_eq_some_iff.mp e1).1
    obtain ⟨p', v, e1', e2, hv, hp⟩ := at12 hb hi
    rw [e1] at e1'; cases e1'
    have h3 := (en_ok p hp).1.2.1
    have et : uT p = .tup [.str p.1, .ent p.2] := rfl
    have eb : bv b = .tup (b.map .str) := rfl
    rw [et]
    infer_instance
    refine ⟨by decide, ?_⟩
    rw [eb]
    refine vlc_map (fW b i v) (fun e => ∃ x5, e = [some (false, .tup (b.map .str)), some (true, .lst ((((List.range i).flatMap (nb b)).map fun o => ((numN o : Int), o)).map eU)), some (false, .int (i : Int)), some (false, .tup [.str p.1, .ent p.2]), x4, x5, x6, x7]) ⟨_, rfl⟩ (by rw [List.length_map]; exact sz (by omega)) ?_ ?_
    · rintro y e hy ⟨x5, rfl⟩
      obtain ⟨w, hw, rfl⟩ := List.mem_map.mp hy
      have ef : fW b i v (.str w) = if w = v then none else some (bv (b.set i w)) := rfl
      rw [ef]
      infer_instance
      refine OpP_of (at_b e2) ?_
      infer_instance
      by_cases hc : w = v
      · rw [if_pos hc, if_neg (by simp [hc])]
        exact ⟨rfl, ⟨_, rfl⟩, trivial⟩
      · rw [if_neg hc, if_pos (by simp [hc])]
        refine with_word_v hbl hi ?_
        infer_instance
        exact ⟨trivial, ⟨_, rfl⟩, trivial⟩
    · rintro e ⟨y5, rfl⟩
      rw [fW_map, ← nb_eq e1 e2]
      infer_instance
      have hnl := nb_len b i
      have hfl := pre_len b i
      refine ⟨by decide, ?_⟩
      refine vlc_map fK (fun e => ∃ x6, e = [some (false, .tup (b.map .str)), some (true, .lst ((((List.range i).flatMap (nb b)).map fun o => ((numN o : Int), o)).map eU)), some (false, .int (i : Int)), some (false, .tup [.str p.1, .ent p.2]), some (false, .lst ((nb b i).map bv)), x5, x6, x7]) ⟨_, rfl⟩ (by rw [List.length_map]; exact sz (by omega)) ?_ ?_
      · rintro y e hy ⟨x6, rfl⟩
        obtain ⟨o, ho, rfl⟩ := List.mem_map.mp hy
        rw [fK_bv]
        infer_instance
        refine book_number_v (nb_ok hb ho) ?_
        infer_instance
        exact ⟨by decide, rfl, ⟨_, rfl⟩, trivial⟩
      · rintro e ⟨x6, rfl⟩
        rw [fK_map]
        infer_instance
        refine ⟨sz (by simp only [List.length_map]; omega), ?_⟩
        rw [List.range_succ, List.flatMap_append, List.map_append, List.map_append]
        simp only [List.flatMap_cons, List.flatMap_nil, List.append_nil]
        exact ⟨trivial, _, _, _, _, _, _, rfl⟩
  · rintro e s' ⟨rfl, x2, x3, x4, x5, x6, x7, rfl⟩
    have el : (PL.numU 0 allL).length = 12 := by rw [← allL_len]; exact numU_len
    rw [el]
    have es : ((List.range 12).flatMap (nb b)).map (fun o => ((numN o : Int), o)) = S1 b := rfl
    have h0 : S1 b ≠ [] := fun z => by have := s1_len hb; rw [z] at this; cases this
    rw [es]
    simp only [at0, at1, at2, at3, at4, at5, at6, at7, at8, at9, at10, at11, vb_add, vb_sub, vb_mul, vb_fdiv, vb_md, vb_pow, vb_adds, vb_addt, vb_addl, vb_mult, vb_mull, vl_lent, vl_lenl, vl_lens, vl_lene, vx_e, vn_e, sr_e, im_e, im_l, rw_e, rw_l, fl_s, fl_i, as_t, vl_abs, vl_int, vl_intb, vl_tupt, vl_tupl, vl_lstt, vl_lstl, vl_srt, vl_dz, vl_min, vl_max, vl_strI, vi_int_non, vi_int_bl, vi_int_int, vi_int_str, vi_int_tup, vi_int_lst, vi_int_dct, vi_int_rep, vi_bool_non, vi_bool_bl, vi_bool_int, vi_bool_str, vi_bool_tup, vi_bool_lst, vi_bool_dct, vi_bool_rep, vi_str_non, vi_str_bl, vi_str_int, vi_str_str, vi_str_tup, vi_str_lst, vi_str_dct, vi_str_rep, vi_tup_non, vi_tup_bl, vi_tup_int, vi_tup_str, vi_tup_tup, vi_tup_lst, vi_tup_dct, vi_tup_rep, vi_lst_non, vi_lst_bl, vi_lst_int, vi_lst_str, vi_lst_tup, vi_lst_lst, vi_lst_dct, vi_lst_rep, vi_dct_non, vi_dct_bl, vi_dct_int, vi_dct_str, vi_dct_tup, vi_dct_lst, vi_dct_dct, vi_dct_rep, vx_t, vx_l, vx_ds, vx_di, vs_tnn, vs_lnn, vs_snn, vs_tnj, vs_lnj, vs_snj, vs_tin, vs_lin, vs_sin, vs_tij, vs_lij, vs_sij, vr_l, vt_n, vt_b, vt_i, vt_s, vt_t, vt_l, vt_d, vc_lt, vc_le, vc_gt, vc_ge, vc_eq, vc_ne, vc_in, vc_nin, vn_l, vn_t, vc_is_non, vc_isn_non, vc_is_bl, vc_isn_bl, vc_is_int, vc_isn_int, vc_is_str, vc_isn_str, vc_is_tup, vc_isn_tup, vc_is_lst, vc_isn_lst, vc_is_dct, vc_isn_dct, vc_is_rep, vc_isn_rep, ve_non_non, ve_non_bl, ve_non_int, ve_non_str, ve_non_tup, ve_non_lst, ve_bl_non, ve_bl_bl, ve_bl_int, ve_bl_str, ve_bl_tup, ve_bl_lst, ve_int_non, ve_int_bl, ve_int_int, ve_int_str, ve_int_tup, ve_int_lst, ve_str_non, ve_str_bl, ve_str_int, ve_str_str, ve_str_tup, ve_str_lst, ve_tup_non, ve_tup_bl, ve_tup_int, ve_tup_str, ve_tup_tup, ve_tup_lst, ve_lst_non, ve_lst_bl, ve_lst_int, ve_lst_str, ve_lst_tup, ve_lst_lst, ve_rep_str, vm_app, vm_ext, vm_ins, vsm_join, vsm_split, vsm_upper, vw_l, sq_t, sq_l, sr_t, sr_l, sr_s, sr_r1, sr_r2, sr_r3, sr_et, sr_el, sr_ztt, sr_ztl, sr_zlt, sr_zll, V_var, V_cI, V_cB, V_cS, V_cN, V_gcon, V_gkd, V_ixl, V_ent, V_ixm, V_stup, V_stN, V_stF, V_stT, V_bin, V_neg, V_notE, V_and1, V_or1, V_and2, V_or2, V_cmp, V_cmp2, V_ife, V_tup, V_lst, V_dic, V_call, V_callK, V_blt, V_meth, V_smeth, asS_str, V_idx, V_sl, V_rev, V_nil, V_cons, V_bnil, V_bcons, ga_nil, ga_cons, endC, own_nil, own_val, own_var, flatR, flat, flats, frzB, V_val, V_vc, V_vc2, V_not, V_tand1, V_tor1, V_tand2, V_tor2, V_yes, V_name, V_tgt, V_tgsub, V_tgnil, V_tgcons, V_asg, V_asgC, V_lc, lcS_V, V_par, V_exp, V_retA, V_retN, V_if, V_for, forS_V, V_whl, V_brk, V_cnt, V_pass, V_snil, V_scons, ↓VThen_next, ↓VThen_ret, ↓VThen_brk, ↓VThen_cnt, ↓VBack_ret, ↓VBack_next, ↓VTurn_next, ↓VTurn_cnt, ↓VTurn_brk, ↓VTurn_ret, Vd_ok, Vd_bad, B_any, av_var, av_cI, av_cB, av_cS, av_cN, av_gcon, av_gkd, av_ixl, av_ent, av_ixm, av_stup, av_bin, av_neg, av_notE, av_and1, av_and2, av_or1, av_or2, av_cmp, av_cmp2, av_ife, av_tup, av_lst, av_dic, av_call, av_callK, av_blt, av_meth, av_smeth, av_idx, av_sl, av_rev, av_lc, get_val, get_var, slot_get, SlP_some, OwP_some, LstP_lst, IntP_int, OpP_some, OpP_none, OpP_ite, OpP_map, Fd_ok, setAllV, List.map_cons, List.map_nil, List.replicate_succ, List.replicate_zero, List.cons_append, List.nil_append, List.getElem?_cons_zero, List.getElem?_cons_succ, List.set_cons_zero, List.set_cons_succ, List.length_cons, List.length_nil, Option.map_some, Option.map_none, wipeV, restV, if_true, if_false, Bool.false_eq_true, Bool.true_eq_false, reduceIte, Bool.not_true, Bool.not_false, reduceCtorEq, decide_true, decide_false, Bool.or_false, Bool.false_or, Bool.and_true, Bool.true_and, Bool.and_false, Bool.false_and, Bool.true_or, Bool.or_true, Bool.and_self, Bool.or_self, Nat.reduceAdd, Nat.reduceSub, List.getD_cons_zero, List.getD_cons_succ, srt_v h0 (by rw [s1_len hb]; decide) (s1_nodup hb)]
    refine ⟨tgo76, ?_⟩
    refine vlc_map fS (fun e => ∃ y6 y7, e = [some (false, bv b), some (true, .lst ((S1 b).map eU)), x2, x3, x4, x5, y6, y7]) ⟨_, _, rfl⟩ (by rw [List.length_map, (sortP_perm _).length_eq, s1_len hb]; decide) ?_ ?_
    · rintro y e hy ⟨y6, y7, rfl⟩
      obtain ⟨o, ho, rfl⟩ := List.mem_map.mp hy
      have ee : eU o = .tup [.int o.1, bv o.2] := rfl
      rw [ee]
      infer_instance
      first | exact ⟨rfl, ⟨_, _, rfl⟩, trivial⟩ | exact ⟨trivial, ⟨_, _, rfl⟩, trivial⟩
    · rintro e ⟨y6, y7, rfl⟩
      rw [fS_map]
      infer_instance
      exact k
def plc (t : Nat) : List Nat := (List.range 12).reverse.take t
theorem plc_succ {t : Nat} (h : t < 12) : plc (t + 1) = plc t ++ [11 - t] := by
  have f : ∀ t ∈ List.range 12, plc (t + 1) = plc t ++ [11 - t] := by decide
  exact f t (List.mem_range.mpr h)
def lowL (b : List Str) (t : Nat) : List (Int × List Str) := ((plc t).flatMap (nb b)).map fun o => ((numN o : Int) - (numN b : Int), o)
def dN (b : List Str) (t : Nat) : Nat := vN (EN.drop (12 - t)) (b.drop (12 - t)) 0
def dU (t : Nat) : Nat := prodE (EN.drop (12 - t))
theorem low_len (b : List Str) (t : Nat) : (lowL b t).length ≤ 3 * t := by
  unfold lowL
  rw [List.length_map, List.length_flatMap]
  have : ∀ l : List Nat, (l.map fun i => (nb b i).length).sum ≤ 3 * l.length := fun l => by
    induction l with
    | nil => exact Nat.le_refl _
    | cons i l ih =>
      have := nb_len b i
      rw [List.map_cons, List.sum_cons, List.length_cons]; omega
  refine Nat.le_trans (this _) ?_
  have : (plc t).length ≤ t := by unfold plc; rw [List.length_take]; omega
  omega
theorem drop_at {α : Type} {l : List α} {i : Nat} {x : α} (h : l[i]? = some x) : l.drop i = x :: l.drop (i + 1) := by
  obtain ⟨h1, h2⟩ := List.getElem?_eq_some_iff.mp h
  rw [List.drop_eq_getElem_cons h1, h2]
theorem dN_succ {b : List Str} (h : WOk b) {t : Nat} (ht : t < 12) {p : Str × List Str} {v : Str} (e1 : EN[11 - t]? = some p) (e2 : b[11 - t]? = some v) : dN b (t + 1) = dN b t + dU t * p.2.idxOf v ∧ dU (t + 1) = dU t * p.2.length ∧ dU t = unitE (11 - t) := by
  have i1 : 12 - (t + 1) = 11 - t := by omega
  have i2 : 11 - t + 1 = 12 - t := by omega
  unfold dN dU unitE
  rw [i1, drop_at e1, drop_at e2, i2]
  refine ⟨?_, Nat.mul_comm _ _, rfl⟩
  rw [vN_cons (by rw [List.length_drop, List.length_drop, h.1]; rfl), Nat.mul_comm (prodE _)]
  omega
theorem dU_le : ∀ t ∈ List.range 13, dU t ≤ 69984 := by decide +kernel
theorem tgo78 : tgOwn (Tg.tup (Tgs.cons (Tg.name 7) (Tgs.cons (Tg.name 8) Tgs.nil))) [7, 8] = true := by kernel_rfl
theorem tgo910 : tgOwn (Tg.tup (Tgs.cons (Tg.name 9) (Tgs.cons (Tg.name 10) Tgs.nil))) [9, 10] = true := by kernel_rfl
theorem ent_at {i : Nat} {p : Str × List Str} (h : EN[i]? = some p) : vidx.atU entL (i : Int) = some (.tup [.str p.1, .lst (p.2.map .str)]) := atU_nat (by rw [entL_eq, List.getElem?_map, h]; rfl)
theorem idx_nodup {l : List Str} {j : Nat} {w : Str} (hn : l.Nodup) (h : l[j]? = some w) : l.idxOf w = j := by
  obtain ⟨h1, h2⟩ := List.getElem?_eq_some_iff.mp h
  rw [← h2]; exact List.Nodup.idxOf_getElem hn j h1
def fF (c : Nat) (u : U) : Option U := match u with
  | .tup [.int k, o] => some (.tup [.int ((c : Int) + k), o])
  | _ => none
theorem fF_map (c : Nat) : ∀ l : List (Int × List Str), (l.map eU).filterMap (fF c) = (l.map fun p => ((c : Int) + p.1, p.2)).map eU
  | [] => rfl
  | o :: l => by
    have e : fF c (eU o) = some (eU ((c : Int) + o.1, o.2)) := rfl
    rw [List.map_cons, List.filterMap_cons, e]
    show eU _ :: _ = _
    rw [fF_map c l]; rfl
theorem near_v {b : List Str} (hb : WOk b) (k : P true (.lst ((srt b).map eU)) s) : Fd (VR' (n + 2) 11 [bv b] s) P := by
  refine V_def (fn := f11) (CVn (by decide)) pr11 rfl ?_
  have hbl := hb.1
  have eb : bv b = .tup (b.map .str) := rfl
  rw [eb]
  simp! only [f11]
  repeat refine ⟨by decide, ?_⟩
  refine vfor_inv (fun t e s' => s' = s ∧ ∃ x4 x5 x6 x7 x8 x9 x10, e = [some (false, .tup (b.map .str)), some (false, .int (dN b t : Nat)), some (true, .lst ((lowL b t).map eU)), some (false, .int (dU t : Nat)), x4, x5, x6, x7, x8, x9, x10]) ⟨rfl, _, _, _, _, _, _, _, by first | rfl | skip⟩ ?_ ?_
  · rintro t x e s' hx ⟨rfl, x4, x5, x6, x7, x8, x9, x10, rfl⟩
    obtain ⟨ht, rfl⟩ := rangeU_get hx
    have ht : t < 12 := ht
    have ei : (11 : Int) + (t : Int) * (-1) = ((11 - t : Nat) : Int) := by omega
    rw [ei]
    obtain ⟨i, hi⟩ : ∃ i, i = 11 - t := ⟨_, rfl⟩
    have hi12 : i < 12 := by omega
    obtain ⟨p, v, e1, e2, hv, hp⟩ := at12 hb hi12
    obtain ⟨d1, d2, d3⟩ := dN_succ hb ht (hi ▸ e1) (hi ▸ e2)
    have hul := dU_le t (List.mem_range.mpr (by omega))
    have h3 := (en_ok p hp).1.2.1
    have hnd := (en_ok p hp).2.2.1
    rw [← hi]
    infer_instance
    refine entries_v ?_
    infer_instance
    refine OpP_of (ent_at e1) ?_
    infer_instance
    refine ⟨trivial, OpP_of (at_b e2) ?_⟩
    simp! only [strs_map, ix_of hv]
    refine ⟨small_l (small_of ⟨by omega, by omega⟩), ?_⟩
    have en : ((dN b t : Nat) : Int) + ((dU t : Nat) : Int) * ((p.2.idxOf v : Nat) : Int) = ((dN b (t + 1) : Nat) : Int) := by rw [d1, Int.natCast_add, Int.natCast_mul]
    rw [en]
    obtain ⟨gr, hgr⟩ : ∃ gr : List Str → List (Int × List Str), gr = fun l => (l.filter fun w => !decide (w = v)).map fun w => ((numN (b.set i w) : Int) - (numN b : Int), b.set i w) := ⟨_, rfl⟩
    have hgl : ∀ j, (gr (p.2.take j)).length ≤ 3 := fun j => by
      rw [hgr]
      simp only [List.length_map]
      refine Nat.le_trans (List.length_filter_le _ _) ?_
      rw [List.length_take]; omega
    have hll := low_len b t
    refine vfor_inv (fun j e s => s = s' ∧ ∃ o5 x7 x8, e = [some (false, .tup (b.map .str)), some (false, .int (dN b (t + 1) : Nat)), some (true, .lst ((lowL b t ++ gr (p.2.take j)).map eU)), some (false, .int (dU t : Nat)), some (false, .int (i : Int)), some (o5, .lst (p.2.map .str)), some (false, .int (p.2.idxOf v : Nat)), x7, x8, x9, x10]) ⟨rfl, _, _, _, by rw [hgr]; simp only [List.take_zero, List.filter_nil, List.map_nil, List.append_nil]; rfl⟩ ?_ ?_
    · rintro j y e s2 hy ⟨rfl, o5, x7, x8, rfl⟩
      obtain ⟨u, hu, rfl⟩ := numU_get0 hy
      rw [List.getElem?_map] at hu
      obtain ⟨w, hw, rfl⟩ := Option.map_eq_some_iff.mp hu
      have hwm := List.mem_of_getElem? hw
      have hij := idx_nodup hnd hw
      have et : p.2.take (j + 1) = p.2.take j ++ [w] := by rw [List.take_succ, hw]; rfl
      have hns := num_set (w := w) hb e1 e2
      have hj3 : j < 3 := by have := (List.getElem?_eq_some_iff.mp hw).1; omega
      have hiv : p.2.idxOf v < 3 := by have := List.idxOf_lt_length_iff.mpr hv; omega
      have hg1 := hgl j
      infer_instance
      by_cases hc : w = v
      · have hjv : j = p.2.idxOf v := by rw [← hc, hij]
        have eg : gr (p.2.take (j + 1)) = gr (p.2.take j) := by
          rw [et, hgr]
          simp only [List.filter_append, List.map_append]
          rw [List.filter_cons_of_neg (by simp [hc])]
          simp
        rw [if_neg (by simp [hjv]), eg]
        first | exact ⟨trivial, _, _, _, rfl⟩ | exact ⟨rfl, _, _, _, rfl⟩
      · have hjv : j ≠ p.2.idxOf v := fun z => hc (idx_inj hwm hv (by rw [hij, z]))
        have eg : gr (p.2.take (j + 1)) = gr (p.2.take j) ++ [((numN (b.set i w) : Int) - (numN b : Int), b.set i w)] := by
          rw [et, hgr]
          simp only [List.filter_append, List.map_append]
          rw [List.filter_cons_of_pos (by simp [hc])]
          simp
        rw [if_pos (by simp; omega), eg, ← List.append_assoc]
        have ek : (dU t : Int) * ((j : Int) - (p.2.idxOf v : Int)) = (numN (b.set i w) : Int) - (numN b : Int) := by
          rw [hns, d3, ← hi, hij]; omega
        have ee : [((numN (b.set i w) : Int) - (numN b : Int), b.set i w)].map eU = [.tup [.int ((numN (b.set i w) : Int) - (numN b : Int)), .tup ((b.map U.str).take i ++ [.str w] ++ (b.map U.str).drop (i + 1))]] := by
          rw [set_parts (by omega)]; rfl
        rw [cut_to, cut_from, ek]
        have e9 : (lowL b t ++ gr (p.2.take j) ++ [((numN (b.set i w) : Int) - (numN b : Int), b.set i w)]).map eU = (lowL b t ++ gr (p.2.take j)).map eU ++ [.tup [.int ((numN (b.set i w) : Int) - (numN b : Int)), .tup ((b.map U.str).take i ++ [.str w] ++ (b.map U.str).drop (i + 1))]] := by rw [List.map_append (l₁ := lowL b t ++ gr (p.2.take j)), ee]
        rw [e9]
        exact ⟨small_l (small_of ⟨by omega, by omega⟩), by decide, sz (by simp; omega), sz (by simp; omega), by decide, szl (by simp; omega), trivial, _, _, _, rfl⟩
    · rintro e s2 ⟨rfl, o5, x7, x8, rfl⟩
      have el : (PL.numU 0 (p.2.map U.str)).length = p.2.length := by rw [numU_len, List.length_map]
      have eg : lowL b t ++ gr (p.2.take p.2.length) = lowL b (t + 1) := by
        rw [List.take_length, hgr]
        unfold lowL
        rw [plc_succ ht, List.flatMap_append, List.map_append, ← hi]
        simp only [List.flatMap_cons, List.flatMap_nil, List.append_nil]
        rw [nb_eq e1 e2, List.map_map]; rfl
      rw [el, eg]
      have eu : ((dU t : Nat) : Int) * ((p.2.length : Nat) : Int) = ((dU (t + 1) : Nat) : Int) := by rw [d2, Int.natCast_mul]
      simp! only [List.length_map, eu]
      exact ⟨small_l (small_of ⟨by omega, by omega⟩), trivial, _, _, _, _, _, _, _, rfl⟩
  · rintro e s' ⟨rfl, x4, x5, x6, x7, x8, x9, x10, rfl⟩
    have el : (rangeU 11 (-1) (Int.toNat (11 - -1))).length = 12 := by rw [rangeU_len]; decide
    rw [el]
    have e1 : dN b 12 = numN b := rfl
    have e2 : lowL b 12 = S2 b := rfl
    have h0 : S2 b ≠ [] := fun z => by have := (s2_perm b).length_eq; rw [z, List.length_map, s1_len hb] at this; cases this
    have hl : (S2 b).length = 19 := by rw [(s2_perm b).length_eq, List.length_map, s1_len hb]
    rw [e1, e2]
    simp only [at0, at1, at2, at3, at4, at5, at6, at7, at8, at9, at10, at11, vb_add, vb_sub, vb_mul, vb_fdiv, vb_md, vb_pow, vb_adds, vb_addt, vb_addl, vb_mult, vb_mull, vl_lent, vl_lenl, vl_lens, vl_lene, vx_e, vn_e, sr_e, im_e, im_l, rw_e, rw_l, fl_s, fl_i, as_t, vl_abs, vl_int, vl_intb, vl_tupt, vl_tupl, vl_lstt, vl_lstl, vl_srt, vl_dz, vl_min, vl_max, vl_strI, vi_int_non, vi_int_bl, vi_int_int, vi_int_str, vi_int_tup, vi_int_lst, vi_int_dct, vi_int_rep, vi_bool_non, vi_bool_bl, vi_bool_int, vi_bool_str, vi_bool_tup, vi_bool_lst, vi_bool_dct, vi_bool_rep, vi_str_non, vi_str_bl, vi_str_int, vi_str_str, vi_str_tup, vi_str_lst, vi_str_dct, vi_str_rep, vi_tup_non, vi_tup_bl, vi_tup_int, vi_tup_str, vi_tup_tup, vi_tup_lst, vi_tup_dct, vi_tup_rep, vi_lst_non, vi_lst_bl, vi_lst_int, vi_lst_str, vi_lst_tup, vi_lst_lst, vi_lst_dct, vi_lst_rep, vi_dct_non, vi_dct_bl, vi_dct_int, vi_dct_str, vi_dct_tup, vi_dct_lst, vi_dct_dct, vi_dct_rep, vx_t, vx_l, vx_ds, vx_di, vs_tnn, vs_lnn, vs_snn, vs_tnj, vs_lnj, vs_snj, vs_tin, vs_lin, vs_sin, vs_tij, vs_lij, vs_sij, vr_l, vt_n, vt_b, vt_i, vt_s, vt_t, vt_l, vt_d, vc_lt, vc_le, vc_gt, vc_ge, vc_eq, vc_ne, vc_in, vc_nin, vn_l, vn_t, vc_is_non, vc_isn_non, vc_is_bl, vc_isn_bl, vc_is_int, vc_isn_int, vc_is_str, vc_isn_str, vc_is_tup, vc_isn_tup, vc_is_lst, vc_isn_lst, vc_is_dct, vc_isn_dct, vc_is_rep, vc_isn_rep, ve_non_non, ve_non_bl, ve_non_int, ve_non_str, ve_non_tup, ve_non_lst, ve_bl_non, ve_bl_bl, ve_bl_int, ve_bl_str, ve_bl_tup, ve_bl_lst, ve_int_non, ve_int_bl, ve_int_int, ve_int_str, ve_int_tup, ve_int_lst, ve_str_non, ve_str_bl, ve_str_int, ve_str_str, ve_str_tup, ve_str_lst, ve_tup_non, ve_tup_bl, ve_tup_int, ve_tup_str, ve_tup_tup, ve_tup_lst, ve_lst_non, ve_lst_bl, ve_lst_int, ve_lst_str, ve_lst_tup, ve_lst_lst, ve_rep_str, vm_app, vm_ext, vm_ins, vsm_join, vsm_split, vsm_upper, vw_l, sq_t, sq_l, sr_t, sr_l, sr_s, sr_r1, sr_r2, sr_r3, sr_et, sr_el, sr_ztt, sr_ztl, sr_zlt, sr_zll, V_var, V_cI, V_cB, V_cS, V_cN, V_gcon, V_gkd, V_ixl, V_ent, V_ixm, V_stup, V_stN, V_stF, V_stT, V_bin, V_neg, V_notE, V_and1, V_or1, V_and2, V_or2, V_cmp, V_cmp2, V_ife, V_tup, V_lst, V_dic, V_call, V_callK, V_blt, V_meth, V_smeth, asS_str, V_idx, V_sl, V_rev, V_nil, V_cons, V_bnil, V_bcons, ga_nil, ga_cons, endC, own_nil, own_val, own_var, flatR, flat, flats, frzB, V_val, V_vc, V_vc2, V_not, V_tand1, V_tor1, V_tand2, V_tor2, V_yes, V_name, V_tgt, V_tgsub, V_tgnil, V_tgcons, V_asg, V_asgC, V_lc, lcS_V, V_par, V_exp, V_retA, V_retN, V_if, V_for, forS_V, V_whl, V_brk, V_cnt, V_pass, V_snil, V_scons, ↓VThen_next, ↓VThen_ret, ↓VThen_brk, ↓VThen_cnt, ↓VBack_ret, ↓VBack_next, ↓VTurn_next, ↓VTurn_cnt, ↓VTurn_brk, ↓VTurn_ret, Vd_ok, Vd_bad, B_any, av_var, av_cI, av_cB, av_cS, av_cN, av_gcon, av_gkd, av_ixl, av_ent, av_ixm, av_stup, av_bin, av_neg, av_notE, av_and1, av_and2, av_or1, av_or2, av_cmp, av_cmp2, av_ife, av_tup, av_lst, av_dic, av_call, av_callK, av_blt, av_meth, av_smeth, av_idx, av_sl, av_rev, av_lc, get_val, get_var, slot_get, SlP_some, OwP_some, LstP_lst, IntP_int, OpP_some, OpP_none, OpP_ite, OpP_map, Fd_ok, setAllV, List.map_cons, List.map_nil, List.replicate_succ, List.replicate_zero, List.cons_append, List.nil_append, List.getElem?_cons_zero, List.getElem?_cons_succ, List.set_cons_zero, List.set_cons_succ, List.length_cons, List.length_nil, Option.map_some, Option.map_none, wipeV, restV, if_true, if_false, Bool.false_eq_true, Bool.true_eq_false, reduceIte, Bool.not_true, Bool.not_false, reduceCtorEq, decide_true, decide_false, Bool.or_false, Bool.false_or, Bool.and_true, Bool.true_and, Bool.and_false, Bool.false_and, Bool.true_or, Bool.or_true, Bool.and_self, Bool.or_self, Nat.reduceAdd, Nat.reduceSub, List.getD_cons_zero, List.getD_cons_succ, srt_v h0 (by rw [hl]; decide) (s2_nodup hb)]
    refine ⟨tgo910, ?_⟩
    refine vlc_map (fF (numN b)) (fun e => ∃ y9 y10, e = [some (false, .tup (b.map .str)), some (false, .int (numN b : Nat)), some (true, .lst ((S2 b).map eU)), some (false, .int (dU 12 : Nat)), x4, x5, x6, x7, x8, y9, y10]) ⟨_, _, rfl⟩ (by rw [List.length_map, (sortP_perm _).length_eq, hl]; decide) ?_ ?_
    · rintro y e hy ⟨y9, y10, rfl⟩
      obtain ⟨o, ho, rfl⟩ := List.mem_map.mp hy
      have ee : eU o = .tup [.int o.1, bv o.2] := rfl
      have ef : fF (numN b) (.tup [.int o.1, bv o.2]) = some (.tup [.int ((numN b : Int) + o.1), bv o.2]) := rfl
      rw [ee, ef]
      infer_instance
      exact ⟨by decide, trivial, ⟨_, _, rfl⟩, trivial⟩
    · rintro e ⟨y9, y10, rfl⟩
      rw [fF_map, sort2 hb, List.map_map (l := srt b)]
      have ec : (srt b).map ((fun p => ((numN b : Int) + p.1, p.2)) ∘ fun p => (p.1 - (numN b : Int), p.2)) = srt b := by
        refine (List.map_congr_left fun p _ => ?_).trans (List.map_id _)
        show ((numN b : Int) + (p.1 - (numN b : Int)), p.2) = p
        rw [show (numN b : Int) + (p.1 - (numN b : Int)) = p.1 by omega]
      rw [ec]
      infer_instance
      exact k
end
end K

set_option Elab.async false
set_option linter.all false
set_option maxRecDepth 100000
set_option maxHeartbeats 4000000
/-! the law -/
namespace K
open PL PySem
local macro_rules
  | `(tactic| simp! only [$xs,*]) => `(tactic| simp only [at0, at1, at2, at3, at4, at5, at6, at7, at8, at9, at10, at11, vb_add, vb_sub, vb_mul, vb_fdiv, vb_md, vb_pow, vb_adds, vb_addt, vb_addl, vb_mult, vb_mull, vl_lent, vl_lenl, vl_lens, vl_lene, vx_e, vn_e, sr_e, im_e, im_l, rw_e, rw_l, fl_s, fl_i, as_t, vl_abs, vl_int, vl_intb, vl_tupt, vl_tupl, vl_lstt, vl_lstl, vl_srt, vl_dz, vl_min, vl_max, vl_strI, vi_int_non, vi_int_bl, vi_int_int, vi_int_str, vi_int_tup, vi_int_lst, vi_int_dct, vi_int_rep, vi_bool_non, vi_bool_bl, vi_bool_int, vi_bool_str, vi_bool_tup, vi_bool_lst, vi_bool_dct, vi_bool_rep, vi_str_non, vi_str_bl, vi_str_int, vi_str_str, vi_str_tup, vi_str_lst, vi_str_dct, vi_str_rep, vi_tup_non, vi_tup_bl, vi_tup_int, vi_tup_str, vi_tup_tup, vi_tup_lst, vi_tup_dct, vi_tup_rep, vi_lst_non, vi_lst_bl, vi_lst_int, vi_lst_str, vi_lst_tup, vi_lst_lst, vi_lst_dct, vi_lst_rep, vi_dct_non, vi_dct_bl, vi_dct_int, vi_dct_str, vi_dct_tup, vi_dct_lst, vi_dct_dct, vi_dct_rep, vx_t, vx_l, vx_ds, vx_di, vs_tnn, vs_lnn, vs_snn, vs_tnj, vs_lnj, vs_snj, vs_tin, vs_lin, vs_sin, vs_tij, vs_lij, vs_sij, vr_l, vt_n, vt_b, vt_i, vt_s, vt_t, vt_l, vt_d, vc_lt, vc_le, vc_gt, vc_ge, vc_eq, vc_ne, vc_in, vc_nin, vn_l, vn_t, vc_is_non, vc_isn_non, vc_is_bl, vc_isn_bl, vc_is_int, vc_isn_int, vc_is_str, vc_isn_str, vc_is_tup, vc_isn_tup, vc_is_lst, vc_isn_lst, vc_is_dct, vc_isn_dct, vc_is_rep, vc_isn_rep, ve_non_non, ve_non_bl, ve_non_int, ve_non_str, ve_non_tup, ve_non_lst, ve_bl_non, ve_bl_bl, ve_bl_int, ve_bl_str, ve_bl_tup, ve_bl_lst, ve_int_non, ve_int_bl, ve_int_int, ve_int_str, ve_int_tup, ve_int_lst, ve_str_non, ve_str_bl, ve_str_int, ve_str_str, ve_str_tup, ve_str_lst, ve_tup_non, ve_tup_bl, ve_tup_int, ve_tup_str, ve_tup_tup, ve_tup_lst, ve_lst_non, ve_lst_bl, ve_lst_int, ve_lst_str, ve_lst_tup, ve_lst_lst, ve_rep_str, vm_app, vm_ext, vm_ins, vsm_join, vsm_split, vsm_upper, vw_l, sq_t, sq_l, sr_t, sr_l, sr_s, sr_r1, sr_r2, sr_r3, sr_et, sr_el, sr_ztt, sr_ztl, sr_zlt, sr_zll, V_var, V_cI, V_cB, V_cS, V_cN, V_gcon, V_gkd, V_ixl, V_ent, V_ixm, V_stup, V_stN, V_stF, V_stT, V_bin, V_neg, V_notE, V_and1, V_or1, V_and2, V_or2, V_cmp, V_cmp2, V_ife, V_tup, V_lst, V_dic, V_call, V_callK, V_blt, V_meth, V_smeth, asS_str, V_idx, V_sl, V_rev, V_nil, V_cons, V_bnil, V_bcons, ga_nil, ga_cons, endC, own_nil, own_val, own_var, flatR, flat, flats, frzB, V_val, V_vc, V_vc2, V_not, V_tand1, V_tor1, V_tand2, V_tor2, V_yes, V_name, V_tgt, V_tgsub, V_tgnil, V_tgcons, V_asg, V_asgC, V_lc, lcS_V, V_par, V_exp, V_retA, V_retN, V_if, V_for, forS_V, V_whl, V_brk, V_cnt, V_pass, V_snil, V_scons, ↓VThen_next, ↓VThen_ret, ↓VThen_brk, ↓VThen_cnt, ↓VBack_ret, ↓VBack_next, ↓VTurn_next, ↓VTurn_cnt, ↓VTurn_brk, ↓VTurn_ret, Vd_ok, Vd_bad, B_any, av_var, av_cI, av_cB, av_cS, av_cN, av_gcon, av_gkd, av_ixl, av_ent, av_ixm, av_stup, av_bin, av_neg, av_notE, av_and1, av_and2, av_or1, av_or2, av_cmp, av_cmp2, av_ife, av_tup, av_lst, av_dic, av_call, av_callK, av_blt, av_meth, av_smeth, av_idx, av_sl, av_rev, av_lc, get_val, get_var, slot_get, SlP_some, OwP_some, LstP_lst, IntP_int, OpP_some, OpP_none, OpP_ite, OpP_map, Fd_ok, setAllV, List.map_cons, List.map_nil, List.replicate_succ, List.replicate_zero, List.cons_append, List.nil_append, List.getElem?_cons_zero, List.getElem?_cons_succ, List.set_cons_zero, List.set_cons_succ, List.length_cons, List.length_nil, Option.map_some, Option.map_none, wipeV, restV, if_true, if_false, Bool.false_eq_true, Bool.true_eq_false, reduceIte, Bool.not_true, Bool.not_false, reduceCtorEq, decide_true, decide_false, Bool.or_false, Bool.false_or, Bool.and_true, Bool.true_and, Bool.and_false, Bool.false_and, Bool.true_or, Bool.or_true, Bool.and_self, Bool.or_self, Nat.reduceAdd, Nat.reduceSub, List.getD_cons_zero, List.getD_cons_succ, $xs,*])
local macro_rules
  | `(tactic| infer_instance) => `(tactic| simp only [at0, at1, at2, at3, at4, at5, at6, at7, at8, at9, at10, at11, vb_add, vb_sub, vb_mul, vb_fdiv, vb_md, vb_pow, vb_adds, vb_addt, vb_addl, vb_mult, vb_mull, vl_lent, vl_lenl, vl_lens, vl_lene, vx_e, vn_e, sr_e, im_e, im_l, rw_e, rw_l, fl_s, fl_i, as_t, vl_abs, vl_int, vl_intb, vl_tupt, vl_tupl, vl_lstt, vl_lstl, vl_srt, vl_dz, vl_min, vl_max, vl_strI, vi_int_non, vi_int_bl, vi_int_int, vi_int_str, vi_int_tup, vi_int_lst, vi_int_dct, vi_int_rep, vi_bool_non, vi_bool_bl, vi_bool_int, vi_bool_str, vi_bool_tup, vi_bool_lst, vi_bool_dct, vi_bool_rep, vi_str_non, vi_str_bl, vi_str_int, vi_str_str, vi_str_tup, vi_str_lst, vi_str_dct, vi_str_rep, vi_tup_non, vi_tup_bl, vi_tup_int, vi_tup_str, vi_tup_tup, vi_tup_lst, vi_tup_dct, vi_tup_rep, vi_lst_non, vi_lst_bl, vi_lst_int, vi_lst_str, vi_lst_tup, vi_lst_lst, vi_lst_dct, vi_lst_rep, vi_dct_non, vi_dct_bl, vi_dct_int, vi_dct_str, vi_dct_tup, vi_dct_lst, vi_dct_dct, vi_dct_rep, vx_t, vx_l, vx_ds, vx_di, vs_tnn, vs_lnn, vs_snn, vs_tnj, vs_lnj, vs_snj, vs_tin, vs_lin, vs_sin, vs_tij, vs_lij, vs_sij, vr_l, vt_n, vt_b, vt_i, vt_s, vt_t, vt_l, vt_d, vc_lt, vc_le, vc_gt, vc_ge, vc_eq, vc_ne, vc_in, vc_nin, vn_l, vn_t, vc_is_non, vc_isn_non, vc_is_bl, vc_isn_bl, vc_is_int, vc_isn_int, vc_is_str, vc_isn_str, vc_is_tup, vc_isn_tup, vc_is_lst, vc_isn_lst, vc_is_dct, vc_isn_dct, vc_is_rep, vc_isn_rep, ve_non_non, ve_non_bl, ve_non_int, ve_non_str, ve_non_tup, ve_non_lst, ve_bl_non, ve_bl_bl, ve_bl_int, ve_bl_str, ve_bl_tup, ve_bl_lst, ve_int_non, ve_int_bl, ve_int_int, ve_int_str, ve_int_tup, ve_int_lst, ve_str_non, ve_str_bl, ve_str_int, ve_str_str, ve_str_tup, ve_str_lst, ve_tup_non, ve_tup_bl, ve_tup_int, ve_tup_str, ve_tup_tup, ve_tup_lst, ve_lst_non, ve_lst_bl, ve_lst_int, ve_lst_str, ve_lst_tup, ve_lst_lst, ve_rep_str, vm_app, vm_ext, vm_ins, vsm_join, vsm_split, vsm_upper, vw_l, sq_t, sq_l, sr_t, sr_l, sr_s, sr_r1, sr_r2, sr_r3, sr_et, sr_el, sr_ztt, sr_ztl, sr_zlt, sr_zll, V_var, V_cI, V_cB, V_cS, V_cN, V_gcon, V_gkd, V_ixl, V_ent, V_ixm, V_stup, V_stN, V_stF, V_stT, V_bin, V_neg, V_notE, V_and1, V_or1, V_and2, V_or2, V_cmp, V_cmp2, V_ife, V_tup, V_lst, V_dic, V_call, V_callK, V_blt, V_meth, V_smeth, asS_str, V_idx, V_sl, V_rev, V_nil, V_cons, V_bnil, V_bcons, ga_nil, ga_cons, endC, own_nil, own_val, own_var, flatR, flat, flats, frzB, V_val, V_vc, V_vc2, V_not, V_tand1, V_tor1, V_tand2, V_tor2, V_yes, V_name, V_tgt, V_tgsub, V_tgnil, V_tgcons, V_asg, V_asgC, V_lc, lcS_V, V_par, V_exp, V_retA, V_retN, V_if, V_for, forS_V, V_whl, V_brk, V_cnt, V_pass, V_snil, V_scons, ↓VThen_next, ↓VThen_ret, ↓VThen_brk, ↓VThen_cnt, ↓VBack_ret, ↓VBack_next, ↓VTurn_next, ↓VTurn_cnt, ↓VTurn_brk, ↓VTurn_ret, Vd_ok, Vd_bad, B_any, av_var, av_cI, av_cB, av_cS, av_cN, av_gcon, av_gkd, av_ixl, av_ent, av_ixm, av_stup, av_bin, av_neg, av_notE, av_and1, av_and2, av_or1, av_or2, av_cmp, av_cmp2, av_ife, av_tup, av_lst, av_dic, av_call, av_callK, av_blt, av_meth, av_smeth, av_idx, av_sl, av_rev, av_lc, get_val, get_var, slot_get, SlP_some, OwP_some, LstP_lst, IntP_int, OpP_some, OpP_none, OpP_ite, OpP_map, Fd_ok, setAllV, List.map_cons, List.map_nil, List.replicate_succ, List.replicate_zero, List.cons_append, List.nil_append, List.getElem?_cons_zero, List.getElem?_cons_succ, List.set_cons_zero, List.set_cons_succ, List.length_cons, List.length_nil, Option.map_some, Option.map_none, wipeV, restV, if_true, if_false, Bool.false_eq_true, Bool.true_eq_false, reduceIte, Bool.not_true, Bool.not_false, reduceCtorEq, decide_true, decide_false, Bool.or_false, Bool.false_or, Bool.and_true, Bool.true_and, Bool.and_false, Bool.false_and, Bool.true_or, Bool.or_true, Bool.and_self, Bool.or_self, Nat.reduceAdd, Nat.reduceSub, List.getD_cons_zero, List.getD_cons_succ])
section
variable {n T : Nat} {s : JS} {P : Bool → U → JS → Prop}
def nearT (b : List Str) : List U := (srt b).map fun p => bv p.2
theorem nice_near {b : List Str} (h : WOk b) : Nice 2 60000 (.tup (nearT b)) := by
  have := nice_tup (n := 1) (c := 3000) (us := nearT b) fun u hu => by
    obtain ⟨p, hp, rfl⟩ := List.mem_map.mp hu
    exact nice_b (all_ok h (srt_mem hp).1)
  refine this.mono (Nat.le_refl _) ?_
  unfold nearT
  rw [List.length_map, srt_len h]; decide
theorem rep_b {b : List Str} (h : WOk b) : vblt .repr [bv b] = some (false, .rep (pyU (bv b))) := repr_v (nice_b h) (by decide) (by decide)
theorem eq_b {b : List Str} (h : WOk b) : veq (.rep (pyU (bv b))) (.rep (pyU (bv b))) = some true := eq_rep (nice_b h).1
theorem rep_n {b : List Str} (h : WOk b) : vblt .repr [.tup (nearT b)] = some (false, .rep (pyU (.tup (nearT b)))) := repr_v (nice_near h) (by decide) (by decide)
theorem eq_n {b : List Str} (h : WOk b) : veq (.rep (pyU (.tup (nearT b)))) (.rep (pyU (.tup (nearT b)))) = some true := eq_rep (nice_near h).1
theorem rep_i {k : Nat} (h : k < 69984) : vblt .repr [.int (k : Int)] = some (false, .rep (.int (k : Int))) := repr_v (n := 1) (nice_nat (by omega)) (by decide) (by decide)
theorem eq_i {k : Nat} (h : k < 69984) : veq (.rep (.int (k : Int))) (.rep (.int (k : Int))) = some true := eq_rep (n := 1) (u := .int (k : Int)) (nice_nat (n := 1) (v := k) (by omega)).1
theorem tgo67 : tgOwn (Tg.tup (Tgs.cons (Tg.name 6) (Tgs.cons (Tg.name 7) Tgs.nil))) [6, 7] = true := by kernel_rfl
theorem are_right_v {b : List Str} {c : Bool} (hb : WOk b) (k : P false (.bl true) s) : Fd (VR' (n + 4) 12 [bv b, .bl c] s) P := by
  have r1 := rep_b hb
  have e1 := eq_b hb
  have r2 := rep_n hb
  have e2 := eq_n hb
  have en : (srt b).map (fun p => bv p.2) = nearT b := rfl
  have hnl : (nearT b).length = 19 := by unfold nearT; rw [List.length_map, srt_len hb]
  refine V_def (fn := f12) (CVn (by decide)) pr12 rfl ?_
  simp only [f12]
  refine V_step (I := fun e s' => s' = s ∧ e = [some (false, bv b), some (false, .bl c), some (true, .lst ((srt b).map eU)), some (false, .rep (pyU (bv b))), none, none, none, none]) ?_ ?_
  · infer_instance
    refine near_v (n := n + 1) hb ?_
    infer_instance
    refine OpP_of r1 ?_
    infer_instance
    exact ⟨⟨trivial, by decide⟩, trivial, trivial⟩
  rintro e s1 ⟨rfl, rfl⟩
  refine V_step (I := fun e s' => s' = s1 ∧ e = [some (false, bv b), some (false, .bl c), some (true, .lst ((srt b).map eU)), some (false, .rep (pyU (bv b))), some (false, .tup (nearT b)), none, none, none]) ?_ ?_
  · cases c
    · infer_instance
      refine neighbours_v hb ?_
      simp! only [en]
      first | trivial | exact ⟨trivial, rfl⟩ | exact ⟨rfl, rfl⟩
    · infer_instance
      refine neighbours_v hb ?_
      simp! only [en]
      first | trivial | exact ⟨trivial, rfl⟩ | exact ⟨rfl, rfl⟩
  rintro e s2 ⟨rfl, rfl⟩
  refine V_step (I := fun e s' => s' = s2 ∧ ∃ o2 x6 x7, e = [some (false, bv b), some (false, .bl c), some (o2, .lst ((srt b).map eU)), some (false, .rep (pyU (bv b))), some (false, .tup (nearT b)), some (false, .rep (pyU (.tup (nearT b)))), x6, x7]) ?_ ?_
  · infer_instance
    refine ⟨tgo67, ?_⟩
    refine vlc_map fS (fun e => ∃ o2 y6 y7, e = [some (false, bv b), some (false, .bl c), some (o2, .lst ((srt b).map eU)), some (false, .rep (pyU (bv b))), some (false, .tup (nearT b)), none, y6, y7]) ⟨_, _, _, rfl⟩ (by rw [List.length_map, srt_len hb]; decide) ?_ ?_
    · rintro y e hy ⟨o2, y6, y7, rfl⟩
      obtain ⟨o, ho, rfl⟩ := List.mem_map.mp hy
      have ee : eU o = .tup [.int o.1, bv o.2] := rfl
      rw [ee]
      infer_instance
      first | exact ⟨rfl, ⟨_, _, _, rfl⟩, trivial⟩ | exact ⟨trivial, ⟨_, _, _, rfl⟩, trivial⟩
    · rintro e ⟨o2, y6, y7, rfl⟩
      rw [fS_map, en]
      infer_instance
      refine OpP_of r2 ?_
      infer_instance
      first | exact ⟨trivial, _, _, _, rfl⟩ | exact ⟨rfl, _, _, _, rfl⟩
  rintro e s3 ⟨rfl, o2, x6, x7, rfl⟩
  refine V_step (I := fun e s' => s' = s3 ∧ e = [some (false, bv b), some (false, .bl c), some (o2, .lst ((srt b).map eU)), some (false, .rep (pyU (bv b))), some (false, .tup (nearT b)), some (false, .rep (pyU (.tup (nearT b)))), x6, x7]) ?_ ?_
  · infer_instance
    refine OpP_of r2 ?_
    simp! only [e2, hnl]
    rw [if_neg (by decide)]
    refine neighbours_v hb ?_
    simp! only [en]
    refine OpP_of r2 ?_
    simp! only [e2]
    refine OpP_of r1 ?_
    simp! only [e1]
    first | trivial | exact ⟨trivial, rfl⟩ | exact ⟨rfl, rfl⟩
  rintro e s4 ⟨rfl, rfl⟩
  infer_instance
  refine vfor_inv (fun i e s => s = s4 ∧ ∃ o2 x6 x7, e = [some (false, bv b), some (false, .bl c), some (o2, .lst ((srt b).map eU)), some (false, .rep (pyU (bv b))), some (false, .tup (nearT b)), some (false, .rep (pyU (.tup (nearT b)))), x6, x7]) ⟨rfl, _, _, _, rfl⟩ ?_ ?_
  · rintro i x e s5 hx ⟨rfl, o2, x6, x7, rfl⟩
    rw [List.getElem?_map] at hx
    obtain ⟨o, ho, rfl⟩ := Option.map_eq_some_iff.mp hx
    obtain ⟨m1, m2⟩ := srt_mem (List.mem_of_getElem? ho)
    have hok := all_ok hb m1
    have hlt := num_lt hok
    have ee : eU o = .tup [.int (numN o.2 : Nat), bv o.2] := by unfold eU; rw [m2]
    rw [ee]
    infer_instance
    refine book_error_v (n := n + 1) hok ?_
    infer_instance
    refine book_number_v (n := n + 1) hok ?_
    infer_instance
    refine OpP_of (rep_i hlt) ?_
    infer_instance
    refine OpP_of (rep_i hlt) ?_
    simp! only [eq_i hlt]
    first | exact ⟨trivial, _, _, _, rfl⟩ | exact ⟨rfl, _, _, _, rfl⟩
  · rintro e s5 ⟨rfl, o2, x6, x7, rfl⟩
    infer_instance
    exact k
theorem mem_pyUs : ∀ {us : List U} {u : U}, u ∈ us → pyU u ∈ pyUs us
  | v :: us, u, h => by
    rw [pyUs]
    rcases List.mem_cons.mp h with rfl | h
    · exact List.mem_cons_self
    · exact List.mem_cons_of_mem _ (mem_pyUs h)
theorem noB_strs : ∀ l : List Str, noBs (l.map U.str) = true
  | [] => rfl
  | x :: l => by show (true && noBs (l.map U.str)) = true; rw [noB_strs l]; rfl
theorem in_near {b o : List Str} (hb : WOk b) (ho : o ∈ allN b) : vinP (bv b) (nearT o) = some true := by
  have hok := all_ok hb ho
  rw [in_v (n := 1) (m := 1) (nice_b hb).1 (okDs_of fun u hu => by
    obtain ⟨p, hp, rfl⟩ := List.mem_map.mp hu
    exact (nice_b (all_ok hok (srt_mem hp).1)).1) (by decide) (by decide)]
  congr 1
  rw [List.any_eq_true]
  refine ⟨pyU (bv b), mem_pyUs (List.mem_map.mpr ⟨_, mem_srt (back hb ho), rfl⟩), ?_⟩
  have nb : noB (bv b) = true := noB_strs b
  exact (eqv_same (bv b) (bv b) nb nb).mpr rfl
theorem flat_b (ws : List Str) : flat (bv ws) = true := by
  show flats (ws.map U.str) = true
  refine flats_of fun u hu => ?_
  obtain ⟨w, _, rfl⟩ := List.mem_map.mp hu
  rfl
theorem law_v : Vd (vSs (VR' 13) GV f13.body.tl (none :: some (false, .bag) :: List.replicate 8 none) s) (VBack fun _ u _ => u = .bl true) := by
  simp! only [f13, Ss.tl]
  refine ⟨big62_of (by omega), ?_⟩
  refine vfor_inv (fun i e s' => ∃ x2 x3 x4 x5 x6 x7 x8 x9, e = [none, some (false, .bag), x2, x3, x4, x5, x6, x7, x8, x9]) ⟨_, _, _, _, _, _, _, _, rfl⟩ ?_ ?_
  · rintro i x e s1 hx ⟨x2, x3, x4, x5, x6, x7, x8, x9, rfl⟩
    obtain ⟨hi, rfl⟩ := rangeU0_get hx
    infer_instance
    refine book_v (n := 10) fun b s2 hb => ?_
    infer_instance
    refine are_right_v (n := 9) hb ?_
    infer_instance
    refine neighbours_v (n := 10) hb ?_
    have en : (srt b).map (fun p => bv p.2) = nearT b := rfl
    rw [en]
    have hnl : (nearT b).length = 19 := by unfold nearT; rw [List.length_map, srt_len hb]
    infer_instance
    refine ⟨big62_of (by omega), ?_⟩
    refine vfor_inv (fun j e s' => ∃ x5 x6 x7 x8 x9, e = [none, some (false, .bag), some (false, .int (i : Int)), some (false, bv b), some (true, .lst (nearT b)), x5, x6, x7, x8, x9]) ⟨_, _, _, _, _, rfl⟩ ?_ ?_
    · rintro j x e s3 hx ⟨x5, x6, x7, x8, x9, rfl⟩
      obtain ⟨hj, rfl⟩ := rangeU0_get hx
      infer_instance
      refine pick_v (n := 11) ⟨(fun z => by rw [z] at hnl; cases hnl), by omega⟩ fun y hy s4 => ?_
      obtain ⟨q, hq, rfl⟩ := List.mem_map.mp hy
      have hm := (srt_mem hq).1
      have hok := all_ok hb hm
      have hin := in_near hb hm
      have hr := rep_b hok
      have he := eq_b hok
      obtain ⟨k, p, v, w, hk, e1, e2, hw, hn, ho⟩ := mem_all hm
      have hsp := spots hb hk e2 hn
      rw [← ho] at hsp
      have ev : ∀ m : Nat, m < 12 → vidx (bv q.2) (.int (m : Int)) = some (.str (q.2.getD m ⟨#[]⟩)) := fun m hm => atU_nat (by
        rw [List.getElem?_map, List.getD_eq_getElem?_getD, List.getElem?_eq_getElem (by rw [hok.1]; exact hm)]; rfl)
      have eb : ∀ m : Nat, m < 12 → vidx (bv b) (.int (m : Int)) = some (.str (b.getD m ⟨#[]⟩)) := fun m hm => atU_nat (by
        rw [List.getElem?_map, List.getD_eq_getElem?_getD, List.getElem?_eq_getElem (by rw [hb.1]; exact hm)]; rfl)
      have hfl := flat_b q.2
      generalize hqo : q.2 = o at *
      simp! only [hfl]
      refine are_right_v (n := 9) hok ?_
      infer_instance
      refine neighbours_v (n := 10) hok ?_
      have en2 : (srt o).map (fun p => bv p.2) = nearT o := rfl
      rw [en2]
      simp! only [hin]
      refine ⟨by decide, big62_of (by omega), ?_⟩
      have gd : ∀ (l l' : List Str) (m : Nat), l.length = 12 → l'.length = 12 → m < 12 → decide (l.getD m ⟨#[]⟩ = l'.getD m ⟨#[]⟩) = decide (l[m]? = l'[m]?) := fun l l' m h1 h2 h3 => by
        rw [List.getD_eq_getElem?_getD, List.getD_eq_getElem?_getD, List.getElem?_eq_getElem (by omega : m < l.length), List.getElem?_eq_getElem (by omega : m < l'.length)]
        simp
      refine vlc_inv (fun m acc e s' => s' = s4 ∧ acc = (((List.range m).filter fun m => !decide (o[m]? = b[m]?)).map fun m => U.int (m : Nat)) ∧ ∃ x8, e = [none, some (false, .bag), some (false, .int (i : Int)), some (false, bv b), some (true, .lst (nearT b)), some (false, .int (j : Int)), some (false, bv o), x7, x8, x9]) ⟨rfl, rfl, _, rfl⟩ ?_ ?_
      · rintro m y acc e s5 hy ⟨rfl, rfl, x8, rfl⟩
        obtain ⟨hm12, rfl⟩ := rangeU0_get hy
        have hm12 : m < 12 := hm12
        have hle : ((List.range m).filter fun m => !decide (o[m]? = b[m]?)).length ≤ m := Nat.le_trans (List.length_filter_le _ _) (by rw [List.length_range]; omega)
        simp! only [ev m hm12, eb m hm12, gd o b m hok.1 hb.1 hm12]
        rw [List.range_succ, List.filter_append, List.map_append]
        cases hd : decide (o[m]? = b[m]?) with
        | true =>
          infer_instance
          refine ⟨trivial, ?_, _, rfl⟩
          simp [hd]
        | false =>
          infer_instance
          refine ⟨szl (by rw [List.length_map]; omega), trivial, ?_, _, rfl⟩
          simp [hd]
      · rintro acc e s5 ⟨rfl, rfl, x8, rfl⟩
        have e12 : (rangeU 0 1 (Int.toNat 12)).length = 12 := by rw [rangeU_len]; decide
        rw [e12, hsp]
        infer_instance
        refine entries_v ?_
        infer_instance
        refine OpP_of (ent_at e1) ?_
        simp! only [ev k hk]
        have ew : o.getD k ⟨#[]⟩ = w := by
          rw [ho, List.getD_eq_getElem?_getD, List.getElem?_set_self (by rw [hb.1]; exact hk)]; rfl
        rw [ew]
        refine altered_v (n := 11) hb hk e1 hw ?_
        rw [← ho]
        infer_instance
        refine OpP_of hr ?_
        infer_instance
        refine OpP_of hr ?_
        simp! only [he]
        exact ⟨_, _, _, _, _, rfl⟩
    · rintro e s3 ⟨x5, x6, x7, x8, x9, rfl⟩
      exact ⟨_, _, _, _, _, _, _, _, rfl⟩
  · rintro e s1 ⟨x2, x3, x4, x5, x6, x7, x8, x9, rfl⟩
    infer_instance
theorem law_run (ns : List Int) (hn : ns.length ≤ 63) : ∃ st, runC prog cons (fun _ => none) 14 13 [scriptD ns] [] = .ok (.bl true) st := by
  refine vs_law (k := 13) (fb := 6) (CV := CV) (GV := GV) (rest := f13.body.tl) pr13 (fun W => con_ok) (fun j => True) ?_ fun s hs => law_v
  exact deck_spec (n := 12) hn fun r f j st' hd hR => ⟨WJ r f, j, rfl, hR, trivial, CV_ok hd⟩
end
end K

open PySem PySem.W PySem.Calls PyProof.Rows
theorem PySem.Challenge.cw_keptmarks_k13_whole_neighbours_of_books_holds : PySem.Challenge.rw_keptmarks_k13_whole_neighbours_of_books.Holds := by
  w_on; o_law
  refine HandSHeadRun.head_any (r := OpenLaw.row PySem.Challenge.rw_keptmarks_k13_whole_neighbours_of_books) (q := view (OpenLaw.row PySem.Challenge.rw_keptmarks_k13_whole_neighbours_of_books).prog [18]) (H := K.hk) (ob := K.ob) (M := 1160) (loose := K.loose) (d := HandSHeadRun.topDef (OpenLaw.row PySem.Challenge.rw_keptmarks_k13_whole_neighbours_of_books).prog 18) (kwd := []) K.ob_eq
    (by kernel_rfl) (fun s => by kernel_rfl) K.run_top (by kernel_rfl) (by kernel_rfl) (by kernel_rfl) (by rfl) (by first | assumption | decide +kernel) (by decide +kernel) ⟨rfl, rfl, rfl, rfl, rfl, by decide +kernel⟩ ?hw ?hc
  case hw => w_witness2
  case hc =>
    refine PL.walk_PLC (l := PySem.Challenge.rw_keptmarks_k13_whole_neighbours_of_books) (n := 63) (k := 14) (kc := 8) (x := "script") (B := K.tab) (Pf := K.prog) (G := K.cons) (C := fun _ => none) (i := 13) rfl (by decide) (by kernel_rfl) ⟨rfl, by decide, by decide⟩ (by kernel_rfl) ?F (fun _ _ h => by cases h) K.law_run
    intro w mg h Y G
    obtain ⟨K0, KX, c, cs⟩ := Y
    exact ⟨K0, KX, K.mods KX G c c.d cs⟩
