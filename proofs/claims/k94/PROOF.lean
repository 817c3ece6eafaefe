import PyProof.Rows.All
import Wide.All
import OpenK.AllK
import Wide.FinOn
import KE.KStateDown
import Lean
import PyProof.P3Statements
import PyProof.ReprReads
import HandS.ForMost
import HandS.ForExc
import HandS.TupAny
import HandS.Wide
import HandS.Deep
import HandS.SortInts
import HandS.TupMul
import KE.DataEq
import HandS.SortRule
import HandS.IsInst
import HandS.Flow
import HandS.Strs
import HandS.CallRecv
import HandS.SetFor
import HandS.DictComp
import HandS.Conv
import HandS.ExcIs
import HandS.RaiseMore
import HandS.Ends
import HandS.HeadHook2
import HandS.HeadEnd
import HandS.Head2
import PyProof.ReprBulk
import PySem.Challenge.RW_gatewarden_k94_whole_programs_relinked
set_option Elab.async false
section S_GEv
set_option linter.all false
/-! GEv: a small language (values, expressions, statements) and what it does, as plain functions. -/
namespace G
open PySem

/-- values: data (lists are never written once they are data), addresses of cells, exceptions -/
inductive D where
  | non | bl (b : Bool) | int (i : Int) | str (s : List Nat) | tup (xs : List D) | lst (xs : List D) | loc (n : Nat) | exc (c : Nat) (x : D)
  deriving Inhabited

mutual
/-- Python's == on data -/
def D.eqv : D → D → Bool
  | .non, .non => true
  | .bl a, .bl b => a == b
  | .bl a, .int j => (if a then 1 else 0) == j
  | .int i, .bl b => i == (if b then 1 else 0)
  | .int i, .int j => i == j
  | .str x, .str y => x == y
  | .lst xs, .lst ys => D.eqvL xs ys
  | .tup xs, .tup ys => D.eqvL xs ys
  | _, _ => false
def D.eqvL : List D → List D → Bool
  | [], [] => true
  | x :: xs, y :: ys => D.eqv x y && D.eqvL xs ys
  | [], _ :: _ => false
  | _ :: _, [] => false
end
mutual
def D.dep : D → Nat
  | .lst xs => D.depL xs + 1
  | .tup xs => D.depL xs + 1
  | _ => 0
def D.depL : List D → Nat
  | [] => 0
  | x :: xs => max (D.dep x) (D.depL xs)
end
-- as the library's data
mutual
def D.py : D → PyData
  | .non => .none
  | .bl b => .bool b
  | .int i => .int i
  | .str s => .str ⟨s.toArray⟩
  | .tup xs => .tuple (D.pyL xs)
  | .lst xs => .list (D.pyL xs)
  | .loc _ => .none
  | .exc _ _ => .none
def D.pyL : List D → List PyData
  | [] => []
  | x :: xs => D.py x :: D.pyL xs
end
/-- no address, no exception at the top -/
def D.pur : D → Bool
  | .loc _ => false
  | .exc _ _ => false
  | _ => true

inductive Cell where
  | lst (xs : List D)
  | lsx (xs : List D)
  | dki (kvs : List (Int × D))
  | dead
  deriving Inhabited

inductive Sl where
  | nil | v (d : D) | own (xs : List D)
  deriving Inhabited

inductive Rs (α : Type) where
  | ok (a : α) (S : List Cell)
  | exc (c : Nat) (x : D) (S : List Cell)
  | stk

def Rs.bind {α β : Type} : Rs α → (α → List Cell → Rs β) → Rs β
  | .ok a S, f => f a S
  | .exc c x S, _ => .exc c x S
  | .stk, _ => .stk
def Rs.of {α : Type} (S : List Cell) : Option α → Rs α
  | some a => .ok a S
  | none => .stk

inductive Op2 where | add | sub | mul | fdiv | mod
  deriving DecidableEq
inductive Cm where | eq | ne | lt | le | gt | ge | isin | notin | isn | isnot
  deriving DecidableEq
inductive Ty where | int | bool | str | tup | lst
  deriving DecidableEq
inductive Bf where | len | int | str | list | tuple | all | any | sum | max2 | min2 | abs | sorted | isa (t : Ty) | repr | lenset | sortset
  deriving DecidableEq
inductive Mf where | index | join | split
  deriving DecidableEq

/-- targets -/
inductive Tg where
  | s (i : Nat)
  | t (ts : List Tg)
  deriving Inhabited

mutual
/-- expressions -/
inductive E where
  | k (d : D) | v (i : Nat) | b (i : Nat) | g (n : Nat)
  | tup (es : List E) | lst (es : List E) | mk (es : List E)
  | bin (o : Op2) (a b : E) | neg (a : E) | cmp (o : Cm) (a b : E) | chn (o o' : Cm) (a b c : E)
  | and (es : List E) | or (es : List E) | not (a : B) | ite (c : B) (a b : E)
  | ix (a i : E) | sl (a : E) (lo hi : Option E)
  | cal (f : Nat) (es : List E) | ixc (f : Nat) (e : E) | blt (f : Bf) (es : List E) | mth (m : Mf) (o : E) (es : List E)
  | comp (tg : Tg) (it : I) (elt : E) (cond : List B)
  | mkx (es : List E) | ixx (a i : E) | dgx (a i : E) | lenx (a : E) | dcp (tg : Tg) (it : I) (ke ve : E) | dps (e : E) | rgx (t : Bool) (es : List E)
/-- tests -/
inductive B where
  | tr (e : E) | and (bs : List B) | or (bs : List B) | not (b : B)
/-- what a for walks -/
inductive I where
  | e (e : E) | rng (es : List E)
end
instance : Inhabited E := ⟨.v 0⟩
instance : Inhabited B := ⟨.tr (.v 0)⟩
instance : Inhabited I := ⟨.rng []⟩

/-- what a handler hands back: isx: isinstance of the error, as the table says -/
inductive Hx where
  | k (d : D) | fld | tup (xs : List Hx) | ite (ts : List (Bool × Bool × Nat)) (a b : Hx)
  deriving Inhabited
inductive T where
  | set (i : Nat) (e : E) | setO (i : Nat) (e : E) | unp (tg : Tg) (e : E) | frz (i : Nat)
  | app (o e : E) | ext (o e : E) | sub (o i e : E) | aug (i : Nat) (o : Op2) (e : E)
  | exp (e : E) | ife (c : B) (a b : List T) | for_ (tg : Tg) (it : I) (b : List T) | whl (c : B) (b : List T)
  | ret (e : E) | ret0 | cnt | brk | pas
  | appx (o e : E) | subx (o i e : E) | forc (tg : Tg) (e : E) (b : List T) | rse (c : Nat) (e : E) | tryr (e : E) (c : Nat) (i : Nat) (h : Hx)

structure Cx where
  call : Nat → List D → List Cell → Rs D
  glob : Nat → Option D
  wf : Nat
  cst : Nat → Option (List (List Nat))
/-- is the class of the error c one of the class j -/
abbrev Subs := List ((Nat × Nat) × Bool)

/-! ### values -/
def lim : Nat := 16777216
def ixN (n : Nat) (i : Int) : Option Nat := if 0 ≤ i then (if i < n then some i.toNat else none) else if -(n : Int) ≤ i then some (i + n).toNat else none
def atI {α : Type} (xs : List α) (i : Int) : Option α := (ixN xs.length i).bind fun j => xs[j]?
def sIx (n d : Nat) : Option Int → Nat
  | none => d
  | some v => if v < 0 then (v + n).toNat else min v.toNat n
def cut {α : Type} (xs : List α) (lo hi : Option Int) : List α := (xs.drop (sIx xs.length 0 lo)).take (sIx xs.length xs.length hi - sIx xs.length 0 lo)

def dr (S : List Cell) : D → D
  | .loc n => match S[n]? with
    | some (.lst xs) => .lst xs
    | _ => .loc n
  | d => d

def pIx : D → D → Option D
  | .lst xs, .int i => atI xs i
  | .tup xs, .int i => atI xs i
  | .str s, .int i => (atI s i).map fun c => .str [c]
  | _, _ => none
def pSl : D → Option Int → Option Int → Option D
  | .lst xs, lo, hi => some (.lst (cut xs lo hi))
  | .tup xs, lo, hi => some (.tup (cut xs lo hi))
  | .str s, lo, hi => some (.str (cut s lo hi))
  | _, _, _ => none
def smallI (i : Int) : Bool := decide (-(2 ^ 64) < i) && decide (i < 2 ^ 64)
def pBin : Op2 → D → D → Option D
  | .add, .int i, .int j => some (.int (i + j))
  | .add, .str x, .str y => if x.length + y.length ≤ lim then some (.str (x ++ y)) else none
  | .add, .tup x, .tup y => if x.length + y.length ≤ lim then some (.tup (x ++ y)) else none
  | .add, .lst x, .lst y => if x.length + y.length ≤ lim then some (.lst (x ++ y)) else none
  | .sub, .int i, .int j => some (.int (i - j))
  | .mul, .int i, .int j => if smallI i || smallI j then some (.int (i * j)) else none
  | .mul, .tup x, .int j => if decide (-1000 ≤ j) && decide (j ≤ 1000) && decide (x.length ≤ 1000) then some (.tup (List.replicate j.toNat x).flatten) else none
  | .mul, .lst x, .int j => if decide (-1000 ≤ j) && decide (j ≤ 1000) && decide (x.length ≤ 1000) then some (.lst (List.replicate j.toNat x).flatten) else none
  | .fdiv, .int i, .int j => if 0 < j ∧ j.natAbs < 2 ^ 63 then some (.int (i / j)) else none
  | .mod, .int i, .int j => if 0 < j then some (.int (i % j)) else none
  | _, _, _ => none
def D.eqOk (a b : D) : Bool := a.pur && b.pur && (decide (a.dep ≤ 60) || decide (b.dep ≤ 60))
def pIn (a b : D) : Option Bool := match b with
  | .str y => match a with
    | .str [c] => some (y.contains c)
    | _ => none
  | .lst ys => if a.pur && (decide (a.dep ≤ 60) || decide (D.depL ys ≤ 60)) then some (ys.any fun y => D.eqv y a) else none
  | .tup ys => if a.pur && (decide (a.dep ≤ 60) || decide (D.depL ys ≤ 60)) then some (ys.any fun y => D.eqv y a) else none
  | _ => none
def D.flat : D → Bool
  | .non => true
  | .bl _ => true
  | .int _ => true
  | .str _ => true
  | _ => false
def D.isNon : D → Bool
  | .non => true
  | _ => false
def pCmp : Cm → D → D → Option Bool
  | .eq, a, b => if D.eqOk a b then some (D.eqv a b) else none
  | .ne, a, b => if D.eqOk a b then some (!D.eqv a b) else none
  | .lt, .int i, .int j => some (decide (i < j))
  | .le, .int i, .int j => some (decide (i ≤ j))
  | .gt, .int i, .int j => some (decide (j < i))
  | .ge, .int i, .int j => some (decide (j ≤ i))
  | .isin, a, b => pIn a b
  | .notin, a, b => (pIn a b).map (!·)
  | .isn, a, .non => some a.isNon
  | .isnot, a, .non => some (!a.isNon)
  | _, _, _ => none
def truthy : D → Option Bool
  | .non => some false
  | .bl b => some b
  | .int i => some (i != 0)
  | .str s => some (!s.isEmpty)
  | .lst xs => some (!xs.isEmpty)
  | .tup xs => some (!xs.isEmpty)
  | _ => none
def isT : Ty → D → Option Bool
  | _, .loc _ => none
  | _, .exc _ _ => none
  | .int, .int _ => some true
  | .int, .bl _ => some true
  | .bool, .bl _ => some true
  | .str, .str _ => some true
  | .tup, .tup _ => some true
  | .lst, .lst _ => some true
  | _, _ => some false
def asInts : List D → Option (List Int)
  | [] => some []
  | .int i :: r => (asInts r).map (i :: ·)
  | _ :: _ => none
def asBls : List D → Option (List Bool)
  | [] => some []
  | .bl i :: r => (asBls r).map (i :: ·)
  | _ :: _ => none
def asStrs : List D → Option (List (List Nat))
  | [] => some []
  | .str i :: r => (asStrs r).map (i :: ·)
  | _ :: _ => none
def asPairs : List D → Option (List (Int × Int))
  | [] => some []
  | .tup [.int i, .int j] :: r => (asPairs r).map ((i, j) :: ·)
  | _ :: _ => none
def insB {α : Type} (le : α → α → Bool) (x : α) : List α → List α
  | [] => [x]
  | y :: r => if le x y then x :: y :: r else y :: insB le x r
def srtB {α : Type} (le : α → α → Bool) (xs : List α) : List α := xs.foldr (insB le) []
def leI (a b : Int) : Bool := decide (a ≤ b)
def srtI (xs : List Int) : List Int := srtB leI xs
def leP (a b : Int × Int) : Bool := decide (a.1 < b.1) || (decide (a.1 = b.1) && decide (a.2 ≤ b.2))
def srtP (xs : List (Int × Int)) : List (Int × Int) := srtB leP xs
def ddup {α : Type} [DecidableEq α] : List α → List α
  | [] => []
  | x :: r => if x ∈ ddup r then ddup r else x :: ddup r
def setLim : Nat := 1000
def pB : Bf → List D → Option D
  | .len, [.str s] => some (.int s.length)
  | .len, [.lst s] => some (.int s.length)
  | .len, [.tup s] => some (.int s.length)
  | .int, [.int i] => some (.int i)
  | .int, [.bl b] => some (.int (if b then 1 else 0))
  | .list, [.lst xs] => some (.lst xs)
  | .list, [.tup xs] => some (.lst xs)
  | .tuple, [.lst xs] => some (.tup xs)
  | .tuple, [.tup xs] => some (.tup xs)
  | .all, [.lst xs] => (asBls xs).map fun bs => .bl (bs.all id)
  | .any, [.lst xs] => (asBls xs).map fun bs => .bl (bs.any id)
  | .sum, [.lst xs] => (asInts xs).map fun ns => .int ns.sum
  | .max2, [.int i, .int j] => some (.int (if j > i then j else i))
  | .min2, [.int i, .int j] => some (.int (if j < i then j else i))
  | .abs, [.int i] => some (.int (if i < 0 then -i else i))
  | .isa t, [d] => (isT t d).map .bl
  | .lenset, [.lst xs] => if xs.length ≤ setLim then match asStrs xs with
      | some ss => some (.int (ddup ss).length)
      | none => (asInts xs).map fun ns => .int (ddup ns).length
    else none
  | .lenset, [.tup xs] => if xs.length ≤ setLim then (asInts xs).map fun ns => .int (ddup ns).length else none
  | .sortset, [.lst xs] => if xs.length ≤ setLim then (asInts xs).map fun ns => .lst ((srtI (ddup ns)).map .int) else none
  | .sorted, [.tup xs] => if xs.length ≤ lim then (asInts xs).map fun ns => .lst ((srtI ns).map .int) else none
  | .sorted, [.lst xs] => if xs.length ≤ lim then match asPairs xs with
      | some ps => some (.lst ((srtP ps).map fun p => .tup [.int p.1, .int p.2]))
      | none => (asInts xs).map fun ns => .lst ((srtI ns).map .int)
    else none
  | .repr, [d] => if d.pur && d.py.showable && decide (d.dep ≤ 60) && decide (d.py.shown.length ≤ lim) then some (.str d.py.shown.cps.toList) else none
  | _, _ => none
def placeOf (s : List Nat) (xs : List D) : Option D := (asStrs xs).bind fun ss => if s ∈ ss then some (.int (ss.idxOf s)) else none
def placeC (ss : List (List Nat)) : D → Option D
  | .str s => if s ∈ ss then some (.int (ss.idxOf s)) else none
  | _ => none
def recvOk : Mf → D → Bool
  | .index, .lst _ => true
  | .join, .str _ => true
  | .split, .str _ => true
  | _, _ => false
def pM : Mf → D → List D → Option D
  | .index, .lst xs, [.str s] => placeOf s xs
  | _, _, _ => none
def upto (i : Int) : Nat → List D
  | 0 => []
  | n + 1 => .int i :: upto (i + 1) n
def rngOk (i : Int) : Bool := decide (-(2 ^ 62) ≤ i) && decide (i < 2 ^ 62)
def pRng : List D → Option (List D)
  | [.int j] => if rngOk j then some (upto 0 j.toNat) else none
  | [.int i, .int j] => if rngOk i && rngOk j then some (upto i (j - i).toNat) else none
  | _ => none
/-- what a for walks -/
def items : D → Option (List D)
  | .lst xs => some xs
  | .tup xs => some xs
  | .str s => some (s.map fun c => .str [c])
  | _ => none

mutual
def tgSet : Tg → D → List Sl → Option (List Sl)
  | .s i, d, sl => some (sl.set i (.v d))
  | .t ts, .tup ds, sl => tgSetL ts ds sl
  | .t _, _, _ => none
def tgSetL : List Tg → List D → List Sl → Option (List Sl)
  | [], [], sl => some sl
  | t :: ts, d :: ds, sl => (tgSet t d sl).bind fun sl => tgSetL ts ds sl
  | _, _, _ => none
end

def cellIx (S : List Cell) : D → D → Option D
  | .loc n, .int i => match S[n]? with
    | some (.lsx xs) => atI xs i
    | _ => none
  | _, _ => none
def dgt (kvs : List (Int × D)) (k : Int) : Option D := (kvs.find? fun p => decide (p.1 = k)).map (·.2)
def cellDg (S : List Cell) : D → D → Option D
  | .loc n, .int i => match S[n]? with
    | some (.dki kvs) => dgt kvs i
    | _ => none
  | _, _ => none
def cellLen (S : List Cell) : D → Option D
  | .loc n => match S[n]? with
    | some (.lsx xs) => some (.int xs.length)
    | _ => none
  | _ => none
/-- a dict with the value y under k -/
def dput (kvs : List (Int × D)) (k : Int) (y : D) : List (Int × D) := if (kvs.any fun p => decide (p.1 = k)) = true then kvs.map fun p => if p.1 = k then (p.1, y) else p else kvs ++ [(k, y)]
def dcpL (f : D → List Cell → Rs (Int × D)) : List D → List Cell → List (Int × D) → Rs (List (Int × D))
  | [], S, acc => .ok acc S
  | d :: ds, S, acc => match f d S with
    | .ok (k, y) S => if acc.length < lim then dcpL f ds S (dput acc k y) else .stk
    | _ => .stk
def pairK : D → Option (Int × D)
  | .tup [.int i, d] => some (i, d)
  | _ => none
def pairsK : List D → Option (List (Int × D))
  | [] => some []
  | d :: ds => (pairK d).bind fun p => (pairsK ds).map (p :: ·)
def mergeI (acc : List (Int × D)) (ps : List (Int × D)) : List (Int × D) := ps.foldl (fun acc p => dput acc p.1 p.2) acc
def rgx (t : Bool) : List D → Option D
  | [.int j] => if rngOk j && decide (j.toNat ≤ lim) then some (if t then .tup (upto 0 j.toNat) else .lst (upto 0 j.toNat)) else none
  | [.int i, .int j] => if rngOk i && rngOk j && decide ((j - i).toNat ≤ lim) then some (if t then .tup (upto i (j - i).toNat) else .lst (upto i (j - i).toNat)) else none
  | _ => none

/-! ### expressions -/
def compL (f : D → List Cell → Rs (Option D)) : List D → List Cell → List D → Rs (List D)
  | [], S, acc => .ok acc S
  | d :: ds, S, acc => match f d S with
    | .ok none S => compL f ds S acc
    | .ok (some y) S => if acc.length < lim then compL f ds S (acc ++ [y]) else .stk
    | _ => .stk

mutual
def evE (C : Cx) : E → List Sl → List Cell → Rs D
  | .k d, _, S => .ok d S
  | .v i, sl, S => match sl[i]? with
    | some (.v d) => .ok d S
    | _ => .stk
  | .b i, sl, S => match sl[i]? with
    | some (.v d) => .ok d S
    | some (.own xs) => .ok (.lst xs) S
    | _ => .stk
  | .g n, _, S => .of S (C.glob n)
  | .tup es, sl, S => (evL C es sl S).bind fun ds S => if ds.all D.pur then .ok (.tup ds) S else .stk
  | .lst es, sl, S => (evL C es sl S).bind fun ds S => if ds.all D.pur then .ok (.lst ds) S else .stk
  | .mk es, sl, S => (evL C es sl S).bind fun ds S => if ds.all D.pur then .ok (.loc S.length) (S ++ [.lst ds]) else .stk
  | .bin o a b, sl, S => (evE C a sl S).bind fun x S => (evE C b sl S).bind fun y S => .of S (pBin o (dr S x) (dr S y))
  | .neg a, sl, S => (evE C a sl S).bind fun x S => match x with
    | .int i => .ok (.int (-i)) S
    | _ => .stk
  | .cmp o a b, sl, S => (evE C a sl S).bind fun x S => (evE C b sl S).bind fun y S => .of S ((pCmp o (dr S x) (dr S y)).map .bl)
  | .chn o o' a b c, sl, S => (evE C a sl S).bind fun x S => (evE C b sl S).bind fun y S => match pCmp o (dr S x) (dr S y) with
    | some true => (evE C c sl S).bind fun z S => .of S ((pCmp o' (dr S y) (dr S z)).map .bl)
    | some false => .ok (.bl false) S
    | none => .stk
  | .and es, sl, S => evAnd C es sl S
  | .or es, sl, S => evOr C es sl S
  | .not a, sl, S => (evT C a sl S).bind fun b S => .ok (.bl (!b)) S
  | .ite c a b, sl, S => (evT C c sl S).bind fun t S => if t then evE C a sl S else evE C b sl S
  | .ix a i, sl, S => (evE C a sl S).bind fun x S => (evE C i sl S).bind fun y S => .of S (pIx (dr S x) y)
  | .sl a lo hi, sl, S => (evE C a sl S).bind fun x S => (evO C lo sl S).bind fun l S => (evO C hi sl S).bind fun h S => .of S (pSl (dr S x) l h)
  | .cal f es, sl, S => (evL C es sl S).bind fun ds S => C.call f ds S
  | .blt f es, sl, S => (evL C es sl S).bind fun ds S => .of S (pB f (ds.map (dr S)))
  | .ixc f e, sl, S => match C.cst f with
    | some ss => (evE C e sl S).bind fun y S => .of S (placeC ss y)
    | none => .stk
  | .mth m o es, sl, S => (evE C o sl S).bind fun x S => if recvOk m x then (evL C es sl S).bind fun ds S => .of S (pM m x ds) else .stk
  | .comp tg it elt cond, sl, S => (evI C it sl S).bind fun ds S =>
    (compL (fun d S => match tgSet tg d sl with
      | none => .stk
      | some sl' => (evCs C cond sl' S).bind fun t S => if t then (evE C elt sl' S).bind fun y S => if y.pur then .ok (some y) S else .stk else .ok none S) ds S []).bind fun ys S => .ok (.lst ys) S
  | .mkx es, sl, S => (evL C es sl S).bind fun ds S => .ok (.loc S.length) (S ++ [.lsx ds])
  | .ixx a i, sl, S => (evE C a sl S).bind fun x S => (evE C i sl S).bind fun y S => .of S (cellIx S x y)
  | .dgx a i, sl, S => (evE C a sl S).bind fun x S => (evE C i sl S).bind fun y S => .of S (cellDg S x y)
  | .lenx a, sl, S => (evE C a sl S).bind fun x S => .of S (cellLen S x)
  | .dcp tg it ke ve, sl, S => (evI C it sl S).bind fun ds S =>
    (dcpL (fun d S => match tgSet tg d sl with
      | none => .stk
      | some sl' => (evE C ke sl' S).bind fun k S => (evE C ve sl' S).bind fun y S => match k with
        | .int k => if y.pur then .ok (k, y) S else .stk
        | _ => .stk) ds S []).bind fun kvs S => .ok (.loc S.length) (S ++ [.dki kvs])
  | .dps e, sl, S => (evE C e sl S).bind fun d S => match d with
    | .lst ds => (match pairsK ds with
      | some ps => .ok (.loc S.length) (S ++ [.dki (mergeI [] ps)])
      | none => .stk)
    | _ => .stk
  | .rgx t es, sl, S => (evL C es sl S).bind fun ds S => .of S (rgx t ds)
/-- the truth of an expression -/
def evT (C : Cx) : B → List Sl → List Cell → Rs Bool
  | .tr e, sl, S => (evE C e sl S).bind fun d S => .of S (truthy (dr S d))
  | .and es, sl, S => evAndT C es sl S
  | .or es, sl, S => evOrT C es sl S
  | .not a, sl, S => (evT C a sl S).bind fun b S => .ok (!b) S
def evAnd (C : Cx) : List E → List Sl → List Cell → Rs D
  | [], _, _ => .stk
  | e :: es, sl, S => (evE C e sl S).bind fun d S => match es with
    | [] => .ok d S
    | _ :: _ => match truthy (dr S d) with
      | some true => evAnd C es sl S
      | some false => .ok d S
      | none => .stk
def evOr (C : Cx) : List E → List Sl → List Cell → Rs D
  | [], _, _ => .stk
  | e :: es, sl, S => (evE C e sl S).bind fun d S => match es with
    | [] => .ok d S
    | _ :: _ => match truthy (dr S d) with
      | some false => evOr C es sl S
      | some true => .ok d S
      | none => .stk
def evAndT (C : Cx) : List B → List Sl → List Cell → Rs Bool
  | [], _, S => .ok true S
  | e :: es, sl, S => (evT C e sl S).bind fun b S => if b then evAndT C es sl S else .ok false S
def evOrT (C : Cx) : List B → List Sl → List Cell → Rs Bool
  | [], _, S => .ok false S
  | e :: es, sl, S => (evT C e sl S).bind fun b S => if b then .ok true S else evOrT C es sl S
def evCs (C : Cx) : List B → List Sl → List Cell → Rs Bool
  | [], _, S => .ok true S
  | e :: _, sl, S => evT C e sl S
def evL (C : Cx) : List E → List Sl → List Cell → Rs (List D)
  | [], _, S => .ok [] S
  | e :: es, sl, S => (evE C e sl S).bind fun d S => (evL C es sl S).bind fun ds S => .ok (d :: ds) S
def evO (C : Cx) : Option E → List Sl → List Cell → Rs (Option Int)
  | none, _, S => .ok none S
  | some e, sl, S => (evE C e sl S).bind fun d S => match d with
    | .int i => .ok (some i) S
    | _ => .stk
/-- the items of what a for or a comprehension walks -/
def evI (C : Cx) : I → List Sl → List Cell → Rs (List D)
  | .rng es, sl, S => (evL C es sl S).bind fun ds S => .of S (pRng ds)
  | .e e, sl, S => (evE C e sl S).bind fun d S => .of S (items d)
end

/-! ### statements -/
inductive Fl where
  | nx (sl : List Sl) (S : List Cell)
  | ret (d : D) (S : List Cell)
  | brk (sl : List Sl) (S : List Cell)
  | cnt (sl : List Sl) (S : List Cell)
  | exc (c : Nat) (x : D) (sl : List Sl) (S : List Cell)
  | stk
def Rs.fl {α : Type} (sl : List Sl) : Rs α → (α → List Cell → Fl) → Fl
  | .ok a S, f => f a S
  | .exc c x S, _ => .exc c x sl S
  | .stk, _ => .stk
def forL (f : D → List Sl → List Cell → Fl) : List D → List Sl → List Cell → Fl
  | [], sl, S => .nx sl S
  | d :: ds, sl, S => match f d sl S with
    | .nx sl S => forL f ds sl S
    | .cnt sl S => forL f ds sl S
    | .brk sl S => .nx sl S
    | .ret d S => .ret d S
    | .exc c x sl S => .exc c x sl S
    | .stk => .stk
def whlL (c : List Sl → List Cell → Rs Bool) (f : List Sl → List Cell → Fl) : Nat → List Sl → List Cell → Fl
  | 0, _, _ => .stk
  | n + 1, sl, S => (c sl S).fl sl fun b S => if b then match f sl S with
    | .nx sl S => whlL c f n sl S
    | .cnt sl S => whlL c f n sl S
    | .brk sl S => .nx sl S
    | .ret d S => .ret d S
    | .exc c x sl S => .exc c x sl S
    | .stk => .stk
    else .nx sl S
def pAug : Op2 → D → D → Option D
  | .add, .int i, .int j => some (.int (i + j))
  | .sub, .int i, .int j => some (.int (i - j))
  | .mul, .int i, .int j => if smallI i || smallI j then some (.int (i * j)) else none
  | _, _, _ => none
/-- a list stands there -/
def lstAt (o : E) (sl : List Sl) (S : List Cell) : Bool := match o with
  | .b i => match sl[i]? with
    | some (.own _) => true
    | some (.v (.loc n)) => match S[n]? with
      | some (.lst _) => true
      | _ => false
    | _ => false
  | _ => false
/-- a list cell or an own list, changed -/
def chg (o : E) (f : List D → Option (List D)) (C : Cx) (sl : List Sl) (S : List Cell) : Fl := match o with
  | .b i => match sl[i]? with
    | some (.own xs) => match f xs with
      | some ys => .nx (sl.set i (.own ys)) S
      | none => .stk
    | some (.v (.loc n)) => match S[n]? with
      | some (.lst xs) => match f xs with
        | some ys => .nx sl (S.set n (.lst ys))
        | none => .stk
      | _ => .stk
    | _ => .stk
  | _ => .stk
/-- a list cell, changed -/
def chgx (f : List D → Option (List D)) (sl : List Sl) (S : List Cell) : D → Fl
  | .loc n => match S[n]? with
    | some (.lsx xs) => (match f xs with
      | some ys => .nx sl (S.set n (.lsx ys))
      | none => .stk)
    | some (.lst xs) => (match f xs with
      | some ys => if ys.all D.pur then .nx sl (S.set n (.lst ys)) else .stk
      | none => .stk)
    | _ => .stk
  | _ => .stk
def isLoc (S : List Cell) : D → Bool
  | .loc n => match S[n]? with
    | some (.lsx _) => true
    | some (.lst _) => true
    | _ => false
  | _ => false
/-- what a list cell holds now -/
def cellAt (S : List Cell) (i n : Nat) : Option (Option D) := match S[n]? with
  | some (.lsx xs) => some xs[i]?
  | some (.lst xs) => some xs[i]?
  | _ => none
/-- the list at the cell n, walked while it stands -/
def forCL (f : D → List Sl → List Cell → Fl) (n : Nat) : Nat → Nat → List Sl → List Cell → Fl
  | 0, _, _, _ => .stk
  | m + 1, i, sl, S => match cellAt S i n with
    | none => .stk
    | some none => .nx sl S
    | some (some d) => match f d sl S with
      | .nx sl S => forCL f n m (i + 1) sl S
      | .cnt sl S => forCL f n m (i + 1) sl S
      | .brk sl S => .nx sl S
      | .ret d S => .ret d S
      | .exc c x sl S => .exc c x sl S
      | .stk => .stk
mutual
def evH (x : D) : Hx → D
  | .k d => d
  | .fld => x
  | .tup xs => .tup (evHs x xs)
  | .ite ts a b => if ts.all (fun p => p.2.1 != p.1) then evH x a else evH x b
def evHs (x : D) : List Hx → List D
  | [] => []
  | h :: hs => evH x h :: evHs x hs
end
mutual
def evS (C : Cx) : T → List Sl → List Cell → Fl
  | .set i e, sl, S => (evE C e sl S).fl sl fun d S => .nx (sl.set i (.v d)) S
  | .setO i e, sl, S => (evE C e sl S).fl sl fun d S => match d with
    | .lst xs => .nx (sl.set i (.own xs)) S
    | _ => .stk
  | .unp tg e, sl, S => (evE C e sl S).fl sl fun d S => match tgSet tg d sl with
    | some sl => .nx sl S
    | none => .stk
  | .frz i, sl, S => match sl[i]? with
    | some (.own xs) => .nx (sl.set i (.v (.lst xs))) S
    | some (.v _) => .nx sl S
    | _ => .stk
  | .app o e, sl, S => if lstAt o sl S then (evE C e sl S).fl sl fun d S => if d.pur then chg o (fun xs => if xs.length < lim then some (xs ++ [d]) else none) C sl S else .stk else .stk
  | .ext o e, sl, S => if lstAt o sl S then (evE C e sl S).fl sl fun d S => match d with
    | .lst ys => chg o (fun xs => if xs.length + ys.length ≤ lim then some (xs ++ ys) else none) C sl S
    | _ => .stk
    else .stk
  | .sub o i e, sl, S => (evE C e sl S).fl sl fun d S => if lstAt o sl S then (evE C i sl S).fl sl fun j S => match j with
    | .int j => if d.pur then chg o (fun xs => (ixN xs.length j).map fun k => xs.set k d) C sl S else .stk
    | _ => .stk
    else .stk
  | .aug i o e, sl, S => match sl[i]? with
    | some (.v x) => (evE C e sl S).fl sl fun y S => match pAug o x y with
      | some z => .nx (sl.set i (.v z)) S
      | none => .stk
    | _ => .stk
  | .exp e, sl, S => (evE C e sl S).fl sl fun _ S => .nx sl S
  | .ife c a b, sl, S => (evT C c sl S).fl sl fun t S => if t then evB C a sl S else evB C b sl S
  | .for_ tg it b, sl, S => (evI C it sl S).fl sl fun ds S => forL (fun d sl S => match tgSet tg d sl with
    | some sl => evB C b sl S
    | none => .stk) ds sl S
  | .whl c b, sl, S => whlL (fun sl S => evT C c sl S) (fun sl S => evB C b sl S) C.wf sl S
  | .ret e, sl, S => (evE C e sl S).fl sl fun d S => .ret d S
  | .ret0, _, S => .ret .non S
  | .cnt, sl, S => .cnt sl S
  | .brk, sl, S => .brk sl S
  | .pas, sl, S => .nx sl S
  | .appx o e, sl, S => (evE C o sl S).fl sl fun x S => if isLoc S x then (evE C e sl S).fl sl fun d S => chgx (fun xs => if xs.length < lim then some (xs ++ [d]) else none) sl S x else .stk
  | .subx o i e, sl, S => (evE C e sl S).fl sl fun d S => (evE C o sl S).fl sl fun x S => (evE C i sl S).fl sl fun j S => match j with
    | .int j => chgx (fun xs => (ixN xs.length j).map fun k => xs.set k d) sl S x
    | _ => .stk
  | .forc tg e b, sl, S => (evE C e sl S).fl sl fun x S => match x with
    | .loc n => if isLoc S (.loc n) then forCL (fun d sl S => match tgSet tg d sl with
      | some sl => evB C b sl S
      | none => .stk) n C.wf 0 sl S else .stk
    | _ => .stk
  | .rse c e, sl, S => (evE C e sl S).fl sl fun x S => .exc c x sl S
  | .tryr e c i h, sl, S => match evE C e sl S with
    | .ok d S => .ret d S
    | .exc c' x S => if c' = c then .ret (evH x h) S else .stk
    | .stk => .stk
def evB (C : Cx) : List T → List Sl → List Cell → Fl
  | [], sl, S => .nx sl S
  | t :: ts, sl, S => match evS C t sl S with
    | .nx sl S => evB C ts sl S
    | .ret d S => .ret d S
    | .brk sl S => .brk sl S
    | .cnt sl S => .cnt sl S
    | .exc c x sl S => .exc c x sl S
    | .stk => .stk
end

/-! ### defs -/
structure Fn where
  arity : Nat
  slots : Nat
  body : List T
  deriving Inhabited
def slots0 (f : Fn) (ds : List D) : List Sl := ds.map Sl.v ++ List.replicate (f.slots - ds.length) .nil
def Fl.out : Fl → Rs D
  | .nx _ S => .ok .non S
  | .ret d S => .ok d S
  | .exc c x _ S => .exc c x S
  | _ => .stk
/-- the def f, called, with so much fuel -/
def evF (fns : Nat → Option Fn) (glob : Nat → Option D) (cst : Nat → Option (List (List Nat))) (wf : Nat) : Nat → Nat → List D → List Cell → Rs D
  | 0, _, _, _ => .stk
  | n + 1, f, ds, S => match fns f with
    | none => .stk
    | some fn => if ds.length = fn.arity then (evB ⟨evF fns glob cst wf n, glob, wf, if n = 0 then fun _ => none else cst⟩ fn.body (slots0 fn ds) S).out else .stk
end G
end S_GEv
section S_GRel
set_option linter.all false
set_option maxRecDepth 100000
/-! GRel: how values of the small language lie in the heap. -/
namespace G
open PySem PySem.Spec PyProof.Rows L2

abbrev Fg := PySem.W.Frag

mutual
inductive Rp (K : Fg) (F : Hp) (r : List Addr) : V → D → Prop
  | non : Rp K F r .non .non
  | bl (b : Bool) : Rp K F r (.bl b) (.bl b)
  | int (i : Int) : Rp K F r (.int i) (.int i)
  | str (s : List Nat) (h : s.length ≤ lim) : Rp K F r (.str ⟨s.toArray⟩) (.str s)
  | tup {a : Addr} {xs : List V} {ds : List D} (h : SqT K F a xs) (t : RpL K F r xs ds) : Rp K F r (.ref a) (.tup ds)
  | lst {a : Addr} {xs : List V} {ds : List D} (h : SqL K F a xs) (t : RpL K F r xs ds) : Rp K F r (.ref a) (.lst ds)
  | loc {n : Nat} {a : Addr} (h : r[n]? = some a) : Rp K F r (.ref a) (.loc n)
inductive RpL (K : Fg) (F : Hp) (r : List Addr) : List V → List D → Prop
  | nil : RpL K F r [] []
  | cons {v : V} {d : D} {xs : List V} {ds : List D} (h : Rp K F r v d) (p : d.pur = true) (t : RpL K F r xs ds) : RpL K F r (v :: xs) (d :: ds)
end

theorem SqL.up {K : Fg} {F F' : Hp} {a : Addr} {xs : List V} (e : ∀ b o, F b = some o → F' b = some o) (h : SqL K F a xs) : SqL K F' a xs := by
  rcases h with (h | ⟨o, h⟩) | h
  · exact .inl (.inl (e _ _ h))
  · exact .inl (.inr ⟨o, e _ _ h⟩)
  · exact .inr h
theorem SqT.up {K : Fg} {F F' : Hp} {a : Addr} {xs : List V} (e : ∀ b o, F b = some o → F' b = some o) (h : SqT K F a xs) : SqT K F' a xs := by
  rcases h with (h | ⟨o, h⟩) | h
  · exact .inl (.inl (e _ _ h))
  · exact .inl (.inr ⟨o, e _ _ h⟩)
  · exact .inr h

/-- what the addresses of the cells keep -/
def Pre (r r' : List Addr) : Prop := ∃ t, r' = r ++ t
theorem Pre.refl (r : List Addr) : Pre r r := ⟨[], by simp⟩
theorem Pre.at {r r' : List Addr} (p : Pre r r') {n : Nat} {a : Addr} (h : r[n]? = some a) : r'[n]? = some a := by
  obtain ⟨t, e⟩ := p
  obtain ⟨hl, _⟩ := List.getElem?_eq_some_iff.mp h
  rw [e, List.getElem?_append_left hl]
  exact h

section
variable {K : Fg} {F F' : Hp} {r r' : List Addr}
mutual
theorem Rp.up (e : ∀ b o, F b = some o → F' b = some o) (p : Pre r r') : ∀ {v : V} {d : D}, Rp K F r v d → Rp K F' r' v d
  | _, _, .non => .non
  | _, _, .bl b => .bl b
  | _, _, .int i => .int i
  | _, _, .str s h => .str s h
  | _, _, .tup h t => .tup (SqT.up e h) (RpL.up e p t)
  | _, _, .lst h t => .lst (SqL.up e h) (RpL.up e p t)
  | _, _, .loc h => .loc (p.at h)
theorem RpL.up (e : ∀ b o, F b = some o → F' b = some o) (p : Pre r r') : ∀ {xs : List V} {ds : List D}, RpL K F r xs ds → RpL K F' r' xs ds
  | _, _, .nil => .nil
  | _, _, .cons h q t => .cons (Rp.up e p h) q (RpL.up e p t)
end
theorem RpL.len : ∀ {xs : List V} {ds : List D}, RpL K F r xs ds → xs.length = ds.length
  | _, _, .nil => rfl
  | _, _, .cons _ _ t => congrArg (· + 1) (RpL.len t)
theorem RpL.get : ∀ {xs : List V} {ds : List D} {i : Nat} {d : D}, RpL K F r xs ds → ds[i]? = some d → ∃ v, xs[i]? = some v ∧ Rp K F r v d ∧ d.pur = true
  | _, _, i, _, .nil, h => by simp at h
  | _, _, 0, _, .cons q p t, h => by
    simp at h
    subst h
    exact ⟨_, rfl, q, p⟩
  | _, _, i + 1, _, .cons q p t, h => by
    obtain ⟨v, e, z⟩ := RpL.get (i := i) t (by simpa using h)
    exact ⟨v, by simpa using e, z⟩
theorem RpL.app : ∀ {xs ys : List V} {ds es : List D}, RpL K F r xs ds → RpL K F r ys es → RpL K F r (xs ++ ys) (ds ++ es)
  | _, _, _, _, .nil, s => s
  | _, _, _, _, .cons h p t, s => .cons h p (RpL.app t s)
theorem RpL.take : ∀ {xs : List V} {ds : List D} (n : Nat), RpL K F r xs ds → RpL K F r (xs.take n) (ds.take n)
  | _, _, 0, _ => by simp; exact .nil
  | _, _, n + 1, .nil => .nil
  | _, _, n + 1, .cons h p t => .cons h p (RpL.take n t)
theorem RpL.drop : ∀ {xs : List V} {ds : List D} (n : Nat), RpL K F r xs ds → RpL K F r (xs.drop n) (ds.drop n)
  | _, _, 0, h => h
  | _, _, n + 1, .nil => .nil
  | _, _, n + 1, .cons h p t => RpL.drop n t
theorem RpL.set {v : V} {d : D} (h : Rp K F r v d) (p : d.pur = true) : ∀ {xs : List V} {ds : List D} (n : Nat), RpL K F r xs ds → RpL K F r (xs.set n v) (ds.set n d)
  | _, _, _, .nil => .nil
  | _, _, 0, .cons _ _ t => .cons h p t
  | _, _, n + 1, .cons q q' t => .cons q q' (RpL.set h p n t)
theorem RpL.one {v : V} {d : D} (h : Rp K F r v d) (p : d.pur = true) : RpL K F r [v] [d] := .cons h p .nil
end

/-- items that may be cells -/
abbrev RpM (K : Fg) (F : Hp) (r : List Addr) : List V → List D → Prop := Paired (Rp K F r)
theorem RpM.up {K : Fg} {F F' : Hp} {r r' : List Addr} (e : ∀ b o, F b = some o → F' b = some o) (p : Pre r r') : ∀ {xs : List V} {ds : List D}, RpM K F r xs ds → RpM K F' r' xs ds
  | _, _, .nil => .nil
  | _, _, .cons h t => .cons (Rp.up e p h) (RpM.up e p t)
theorem RpM.len {K : Fg} {F : Hp} {r : List Addr} : ∀ {xs : List V} {ds : List D}, RpM K F r xs ds → xs.length = ds.length
  | _, _, .nil => rfl
  | _, _, .cons _ t => congrArg (· + 1) (RpM.len t)
theorem RpM.get {K : Fg} {F : Hp} {r : List Addr} : ∀ {xs : List V} {ds : List D} {i : Nat} {d : D}, RpM K F r xs ds → ds[i]? = some d → ∃ v, xs[i]? = some v ∧ Rp K F r v d
  | _, _, i, _, .nil, h => by simp at h
  | _, _, 0, _, .cons q t, h => by
    simp at h
    subst h
    exact ⟨_, rfl, q⟩
  | _, _, i + 1, _, .cons q t, h => by
    obtain ⟨v, e, z⟩ := RpM.get (i := i) t (by simpa using h)
    exact ⟨v, by simpa using e, z⟩
theorem RpM.app {K : Fg} {F : Hp} {r : List Addr} {v : V} {d : D} (h : Rp K F r v d) : ∀ {xs : List V} {ds : List D}, RpM K F r xs ds → RpM K F r (xs ++ [v]) (ds ++ [d])
  | _, _, .nil => .cons h .nil
  | _, _, .cons q t => .cons q (RpM.app h t)
theorem RpM.set {K : Fg} {F : Hp} {r : List Addr} {v : V} {d : D} (h : Rp K F r v d) : ∀ {xs : List V} {ds : List D} (n : Nat), RpM K F r xs ds → RpM K F r (xs.set n v) (ds.set n d)
  | _, _, _, .nil => .nil
  | _, _, 0, .cons _ t => .cons h t
  | _, _, n + 1, .cons q t => .cons q (RpM.set h n t)
theorem RpM.pure {K : Fg} {F : Hp} {r : List Addr} : ∀ {xs : List V} {ds : List D}, RpM K F r xs ds → ds.all D.pur = true → RpL K F r xs ds
  | _, _, .nil, _ => .nil
  | _, _, .cons h t, p => by
    rw [List.all_cons, Bool.and_eq_true] at p
    exact .cons h p.1 (RpM.pure t p.2)
theorem RpL.m {K : Fg} {F : Hp} {r : List Addr} : ∀ {xs : List V} {ds : List D}, RpL K F r xs ds → RpM K F r xs ds
  | _, _, .nil => .nil
  | _, _, .cons h _ t => .cons h (RpL.m t)
abbrev RpK (K : Fg) (F : Hp) (r : List Addr) : List (Key × V) → List (Int × D) → Prop := Paired fun p q => p.1 = .inl q.1 ∧ Rp K F r p.2 q.2
theorem RpK.up {K : Fg} {F F' : Hp} {r r' : List Addr} (e : ∀ b o, F b = some o → F' b = some o) (p : Pre r r') : ∀ {xs : List (Key × V)} {ds : List (Int × D)}, RpK K F r xs ds → RpK K F' r' xs ds
  | _, _, .nil => .nil
  | _, _, .cons h t => .cons ⟨h.1, Rp.up e p h.2⟩ (RpK.up e p t)
/-- a cell's object -/
def CellOk (K : Fg) (F H : Hp) (r : List Addr) (a : Addr) : Cell → Prop
  | .lst ds => ∃ xs, H a = some (.lst xs) ∧ RpL K F r xs ds
  | .lsx ds => ∃ xs, H a = some (.lst xs) ∧ RpM K F r xs ds
  | .dki kvs => ∃ ks, H a = some (.dK ks) ∧ RpK K F r ks kvs
  | .dead => ∃ o, H a = some o
/-- F: what stays as it is; r: where the cells stand -/
structure Rel (K : Fg) (F H : Hp) (r : List Addr) (S : List Cell) : Prop where
  sub : ∀ a o, F a = some o → H a = some o
  len : r.length = S.length
  inj : ∀ (i j : Nat) (a : Addr), r[i]? = some a → r[j]? = some a → i = j
  nf : ∀ (i : Nat) (a : Addr), r[i]? = some a → F a = none
  cell : ∀ (i : Nat) (a : Addr) (c : Cell), r[i]? = some a → S[i]? = some c → CellOk K F H r a c
/-- the slots -/
structure SlOk (K : Fg) (F H : Hp) (r : List Addr) (σ : L2.St) (sl : List Sl) : Prop where
  len : sl.length = σ.length
  v : ∀ (i : Nat) (d : D), sl[i]? = some (.v d) → ∃ x : V, σ[i]? = some (some x) ∧ Rp K F r x d
  own : ∀ (i : Nat) (ds : List D), sl[i]? = some (.own ds) → ∃ (a : Addr) (xs : List V), σ[i]? = some (some (.ref a)) ∧ H a = some (.lst xs) ∧ F a = none ∧ a ∉ r ∧ RpL K F r xs ds
  ap : ∀ (i j : Nat) (ds es : List D) (a : Addr), sl[i]? = some (.own ds) → sl[j]? = some (.own es) → σ[i]? = some (some (.ref a)) → σ[j]? = some (some (.ref a)) → i = j
/-- what a step keeps -/
structure Ext (F H : Hp) (r : List Addr) (F' H' : Hp) (r' : List Addr) : Prop where
  f : ∀ a o, F a = some o → F' a = some o
  fn : ∀ a o, F' a = some o → F a = none → H a = none
  h : ∀ a o, H a = some o → a ∉ r → H' a = some o
  t : ∀ a o, H a = some o → ∃ o', H' a = some o'
  p : ∃ t, r' = r ++ t ∧ ∀ a ∈ t, H a = none

section
variable {K : Fg} {F F' F'' H H' H'' : Hp} {r r' r'' : List Addr} {S : List Cell} {σ : L2.St} {sl : List Sl}
theorem Ext.refl : Ext F H r F H r := by
  refine ⟨fun _ _ h => h, fun _ _ h n => ?_, fun _ _ h _ => h, fun _ o h => ⟨o, h⟩, [], by simp, fun a h => ?_⟩
  · rw [n] at h
    cases h
  · cases h
theorem Ext.pre (e : Ext F H r F' H' r') : Pre r r' := let ⟨t, h, _⟩ := e.p; ⟨t, h⟩
theorem Ext.free (e : Ext F H r F' H' r') {a : Addr} (h : H' a = none) : H a = none := by
  cases q : H a with
  | none => rfl
  | some o =>
    obtain ⟨o', z⟩ := e.t a o q
    rw [h] at z
    cases z
theorem Ext.trans (e : Ext F H r F' H' r') (e2 : Ext F' H' r' F'' H'' r'') : Ext F H r F'' H'' r'' := by
  obtain ⟨t, rt, nt⟩ := e.p
  obtain ⟨t2, rt2, nt2⟩ := e2.p
  refine ⟨fun a o h => e2.f a o (e.f a o h), fun a o h n => ?_, fun a o h n => ?_, fun a o h => ?_, t ++ t2, by rw [rt2, rt, List.append_assoc], fun a h => ?_⟩
  · cases q : F' a with
    | none => exact e.free (e2.fn a o h q)
    | some o' => exact e.fn a o' q n
  · refine e2.h a o (e.h a o h n) ?_
    rw [rt]
    intro z
    rcases List.mem_append.mp z with z | z
    · exact n z
    · rw [nt a z] at h
      cases h
  · obtain ⟨o', z⟩ := e.t a o h
    exact e2.t a o' z
  · rcases List.mem_append.mp h with z | z
    · exact nt a z
    · exact e.free (nt2 a z)
theorem mem_r {r : List Addr} {i : Nat} {a : Addr} (h : r[i]? = some a) : a ∈ r := List.mem_of_getElem? h
/-- an address of our own -/
structure Mine (F H : Hp) (r : List Addr) (a : Addr) (xs : List V) : Prop where
  h : H a = some (.lst xs)
  f : F a = none
  r : a ∉ r
theorem Mine.ext {a : Addr} {xs : List V} (m : Mine F H r a xs) (e : Ext F H r F' H' r') : Mine F' H' r' a xs := by
  refine ⟨e.h a _ m.h m.r, ?_, ?_⟩
  · cases q : F' a with
    | none => rfl
    | some o =>
      have z := e.fn a o q m.f
      rw [m.h] at z
      cases z
  · obtain ⟨t, rt, nt⟩ := e.p
    rw [rt]
    intro z
    rcases List.mem_append.mp z with z | z
    · exact m.r z
    · have q := nt a z
      rw [m.h] at q
      cases q
theorem SlOk.ext (s : SlOk K F H r σ sl) (e : Ext F H r F' H' r') : SlOk K F' H' r' σ sl := by
  refine ⟨s.len, fun i d h => ?_, fun i ds h => ?_, s.ap⟩
  · obtain ⟨x, h1, h2⟩ := s.v i d h
    exact ⟨x, h1, h2.up e.f e.pre⟩
  · obtain ⟨a, xs, h1, h2, h3, h4, h5⟩ := s.own i ds h
    have m := (Mine.mk h2 h3 h4).ext e
    exact ⟨a, xs, h1, m.h, m.f, m.r, h5.up e.f e.pre⟩
theorem Rel.sql (R : Rel K F H r S) {a : Addr} {xs : List V} (h : SqL K F a xs) : SqL K H a xs := SqL.up R.sub h
theorem Rel.sqt (R : Rel K F H r S) {a : Addr} {xs : List V} (h : SqT K F a xs) : SqT K H a xs := SqT.up R.sub h

/-- a new object that stays as it is -/
theorem Ext.new (R : Rel K F H r S) {p : Addr} {o : HO} (hp : H p = none) : Ext F H r (upd F p o) (upd H p o) r := by
  have ne : ∀ a o', F a = some o' → a ≠ p := fun a o' h z => by
    have q := R.sub a o' h
    rw [z, hp] at q
    cases q
  refine ⟨fun a o' h => ?_, fun a o' h n => ?_, fun a o' h _ => ?_, fun a o' h => ?_, [], by simp, fun a h => nomatch h⟩
  · rw [upd_ne (ne a o' h)]
    exact h
  · by_cases z : a = p
    · subst z
      exact hp
    · rw [upd_ne z, n] at h
      cases h
  · rw [upd_ne (ne_of_none h hp)]
    exact h
  · exact ⟨o', by rw [upd_ne (ne_of_none h hp)]; exact h⟩
theorem CellOk.ext {a : Addr} {c : Cell} (h : CellOk K F H r a c) (e : Ext F H r F' H' r') (k : H' a = H a) : CellOk K F' H' r' a c := by
  cases c with
  | lst ds =>
    obtain ⟨xs, h1, h2⟩ := h
    exact ⟨xs, by rw [k]; exact h1, h2.up e.f e.pre⟩
  | lsx ds =>
    obtain ⟨xs, h1, h2⟩ := h
    exact ⟨xs, by rw [k]; exact h1, RpM.up e.f e.pre h2⟩
  | dki ds =>
    obtain ⟨xs, h1, h2⟩ := h
    exact ⟨xs, by rw [k]; exact h1, RpK.up e.f e.pre h2⟩
  | dead =>
    obtain ⟨o, h1⟩ := h
    exact ⟨o, by rw [k]; exact h1⟩
theorem CellOk.there {a : Addr} {c : Cell} (h : CellOk K F H r a c) : ∃ o, H a = some o := by
  cases c with
  | lst ds =>
    obtain ⟨xs, h1, h2⟩ := h
    exact ⟨_, h1⟩
  | lsx ds =>
    obtain ⟨xs, h1, h2⟩ := h
    exact ⟨_, h1⟩
  | dki ds =>
    obtain ⟨xs, h1, h2⟩ := h
    exact ⟨_, h1⟩
  | dead => exact h
theorem Rel.at (R : Rel K F H r S) {i : Nat} {a : Addr} (h : r[i]? = some a) : ∃ c, S[i]? = some c ∧ CellOk K F H r a c := by
  obtain ⟨hl, _⟩ := List.getElem?_eq_some_iff.mp h
  have hs : i < S.length := by rw [← R.len]; exact hl
  exact ⟨S[i], List.getElem?_eq_getElem hs, R.cell i a _ h (List.getElem?_eq_getElem hs)⟩
theorem Rel.there (R : Rel K F H r S) {a : Addr} (h : a ∈ r) : ∃ o, H a = some o := by
  obtain ⟨i, q⟩ := List.mem_iff_getElem?.mp h
  obtain ⟨c, _, z⟩ := R.at q
  exact z.there
theorem Rel.new (R : Rel K F H r S) {p : Addr} {o : HO} (hp : H p = none) : Rel K (upd F p o) (upd H p o) r S := by
  have ne : ∀ a, a ∈ r → a ≠ p := fun a h z => by
    obtain ⟨o', q⟩ := R.there h
    rw [z, hp] at q
    cases q
  have e : Ext F H r (upd F p o) (upd H p o) r := Ext.new R hp
  refine ⟨fun a o' h => ?_, R.len, R.inj, fun i a h => ?_, fun i a c h1 h2 => ?_⟩
  · by_cases z : a = p
    · subst z
      rw [upd_same] at h ⊢
      exact h
    · rw [upd_ne z] at h ⊢
      exact R.sub a o' h
  · rw [upd_ne (ne a (mem_r h))]
    exact R.nf i a h
  · exact (R.cell i a c h1 h2).ext e (upd_ne (ne a (mem_r h1)))
end
end G
end S_GRel
section S_GRep
set_option linter.all false
set_option maxRecDepth 100000
set_option maxHeartbeats 2000000
/-! GRep: a tuple or a list, times an int. -/
namespace G
open PySem PySem.Spec PyProof.Rows L2
theorem tuple_mul1 (l : Addr) (items : Array Value) (n : Nat) (dd : Option Addr) (sl : Array (Option Value)) (x : Int) (u : Tok) (c0 : (decide (x < -(2 ^ 63)) || decide (x ≥ 2 ^ 63)) = false) (c1 : (items.isEmpty || x == 1) = true) :
    Meets (Builtin.«tuple.__mul__» ⟨[.ref l, .int x u], []⟩) (fun _ R s => s.heap.get? l = some { cls := .type "tuple", dict := dd, data := .seq items n, slots := sl } ∧ R (.ok (.ret (Value.ref l))) s) :=
  .of_wp fun prog w A R s h => by
    obtain ⟨hp, g, d, tk, os⟩ := s
    obtain ⟨hl, h⟩ := h
    have f1 := AutoSeq1.idx_int
    wp_walk using wpAny_loadPart' hl
    repeat (first
      | (refine wpAny_ite_false (decide_eq_false (by rw [c0]; exact Bool.false_ne_true)) ?_; wp_walk using wpAny_loadPart' hl)
      | (refine wpAny_ite_true (decide_eq_true c1) ?_; wp_walk using wpAny_loadPart' hl))
    exact ⟨_, rfl, h⟩
theorem tuple_mul0 (l : Addr) (items : Array Value) (n : Nat) (dd : Option Addr) (sl : Array (Option Value)) (x : Int) (u : Tok) (c0 : (decide (x < -(2 ^ 63)) || decide (x ≥ 2 ^ 63)) = false) (c1 : (items.isEmpty || x == 1) = false) (c2 : (decide (x ≤ 0) || items.isEmpty) = true) :
    Meets (Builtin.«tuple.__mul__» ⟨[.ref l, .int x u], []⟩) (fun _ R s => s.heap.get? l = some { cls := .type "tuple", dict := dd, data := .seq items n, slots := sl } ∧ R (.ok (.ret (Value.ref s.heap.objs.size))) { s with heap := s.heap.push { cls := Value.type "tuple", data := Data.seq #[] }, toks := s.toks }) :=
  .of_wp fun prog w A R s h => by
    obtain ⟨hp, g, d, tk, os⟩ := s
    obtain ⟨hl, h⟩ := h
    have f1 := AutoSeq1.idx_int
    wp_walk using wpAny_loadPart' hl
    repeat (first
      | (refine wpAny_ite_false (decide_eq_false (by rw [c0]; exact Bool.false_ne_true)) ?_; wp_walk using wpAny_loadPart' hl)
      | (refine wpAny_ite_false (decide_eq_false (by rw [c1]; exact Bool.false_ne_true)) ?_; wp_walk using wpAny_loadPart' hl)
      | (refine wpAny_ite_true (decide_eq_true c2) ?_; wp_walk using wpAny_loadPart' hl)
      | (refine wpAny_ite_false (decide_eq_false (by simp [sizeLine_eq])) ?_; wp_walk using wpAny_loadPart' hl))
    exact ⟨_, rfl, h⟩
theorem int_rmul_listW (a : Int) (t : Tok) (l : Addr) (items : Array Value) (n : Nat) (dd : Option Addr) (sl : Array (Option Value)) :
    Meets (Builtin.«int.__rmul__» ⟨[.int a t, .ref l], []⟩) (fun _ R s => s.heap.get? l = some { cls := .type "list", dict := dd, data := .seq items n, slots := sl } ∧ R (.ok (.ret Value.notImplemented)) s) :=
  .of_wp fun prog w A R s h => by obtain ⟨hp, g, d, tk, os⟩ := s; obtain ⟨hl, h⟩ := h; wp_walk using wpAny_loadPart' hl; exact ⟨_, rfl, h⟩
theorem list_mulW (l : Addr) (items : Array Value) (n : Nat) (dd : Option Addr) (sl : Array (Option Value)) (x : Int) (u : Tok) (hc0 : ¬(!Builtin.List.listFitsIndex x) = true) (hc1 : ¬items.size * x.toNat > (2 ^ 63 - 1) / 8) (hc2 : ¬Builtin.List.listTooLong (items.size * x.toNat) = true) (hsz : (List.foldl (fun x1 x2 => x1 ++ x2) #[] (List.replicate (if items.isEmpty = true then 0 else x.toNat) items)).size ≤ sizeLine) :
    Meets (Builtin.«list.__mul__» ⟨[.ref l, .int x u], []⟩) (fun _ R s => s.heap.get? l = some { cls := .type "list", dict := dd, data := .seq items n, slots := sl } ∧ R (.ok (.ret (Value.ref s.heap.objs.size))) { s with heap := s.heap.push { cls := Value.type "list", data := Data.seq (List.foldl (fun x1 x2 => x1 ++ x2) #[] (List.replicate (if items.isEmpty = true then 0 else x.toNat) items)) }, toks := s.toks }) :=
  .of_wp fun prog w A R s h => by
    obtain ⟨hp, g, d, tk, os⟩ := s; obtain ⟨hl, h⟩ := h
    have f1 := AutoSeq1.idx_int
    wp_walk using wpAny_loadPart' hl; refine wpAny_ite_false (decide_eq_false (Nat.not_lt.mpr hsz)) ?_; wp_walk using wpAny_loadPart' hl; exact ⟨_, rfl, h⟩
section
variable {X : L2.Cx}
/-- all whole numbers up to a thousand -/
theorem op_repA : OpR X (binaryOp .Mult) (fun x y H Q => ∃ l k xs, x = .ref l ∧ y = .int k ∧ SqT X.K H l xs ∧ -(2 ^ 62) ≤ k ∧ k ≤ 1000 ∧ xs.length ≤ 1000 ∧ ((xs = [] ∨ k = 1) → Q (.ref l) H) ∧ ∀ p, H p = none → Q (.ref p) (upd H p (.tup (List.replicate k.toNat xs).flatten))) := by
  intro pins s σ H x y v u Q I rx ry h
  obtain ⟨l, k, xs, ex, ey, hT, h1, h2, hz, q1, q2⟩ := h
  by_cases c : xs = [] ∨ k = 1
  · subst ex ey
    cases rx
    obtain ⟨t, rfl⟩ := ry
    obtain ⟨its, r, ⟨⟨cls, dd, data, sl⟩, ho, hc, n, hd⟩, hs⟩ := I.tuple hT
    simp only at hc hd
    subst hc hd
    have c0 : (decide (k < -(2 ^ 63)) || decide (k ≥ 2 ^ 63)) = false := by
      rw [decide_eq_false (by omega), decide_eq_false (by omega)] <;> rfl
    have c1 : (its.toArray.isEmpty || k == 1) = true := by
      rcases c with c | c
      · subst c
        cases r
        rfl
      · subst c
        simp
    exact wpAny_binaryOp_repeat_ref (T := "tuple") (U := "int") (by decide) ⟨_, ho, rfl⟩ (fun s' => typeIs_int s' k t) noFill_tuple_mul F.fills_int_mul F.slot_int_rmul repeat_tuple F.slot_int_index.lookup
      (call_meets F.slot_int_rmul (typeIs_int s k t) F.entry_int_rmul (F.args_int_rmul_2 _ _) (int_rmul_tuple k t l its.toArray n dd sl)
        ⟨ho, rfl, ⟨_, ho, rfl⟩, call_meets F.slot_tuple_mul ⟨_, ho, rfl⟩ F.entry_tuple_mul (F.args_tuple_mul_2 _ _) (tuple_mul1 l its.toArray n dd sl k t c0 c1) ⟨ho, ⟨.ref l, H, I, rfl, q1 c⟩⟩⟩)
  · have hne : xs ≠ [] := fun z => c (.inl z)
    have hk1 : k ≠ 1 := fun z => c (.inr z)
    by_cases hk : 2 ≤ k
    · exact op_repT pins s σ H x y v u Q I rx ry ⟨l, k, xs, ex, ey, hT, hne, hk, h2, hz, q2⟩
    · have hk0 : k ≤ 0 := by omega
      subst ex ey
      cases rx
      obtain ⟨t, rfl⟩ := ry
      obtain ⟨its, r, ⟨⟨cls, dd, data, sl⟩, ho, hc, n, hd⟩, hs⟩ := I.tuple hT
      simp only at hc hd
      subst hc hd
      have c0 : (decide (k < -(2 ^ 63)) || decide (k ≥ 2 ^ 63)) = false := by
        rw [decide_eq_false (by omega), decide_eq_false (by omega)] <;> rfl
      have hi : its.toArray.isEmpty = false := by
        cases r with
        | nil => exact absurd rfl hne
        | cons _ _ => rfl
      have c1 : (its.toArray.isEmpty || k == 1) = false := by
        rw [hi, Bool.false_or]
        exact beq_eq_false_iff_ne.mpr hk1
      have c2 : (decide (k ≤ 0) || its.toArray.isEmpty) = true := by
        rw [decide_eq_true hk0]
        rfl
      refine wpAny_binaryOp_repeat_ref (T := "tuple") (U := "int") (by decide) ⟨_, ho, rfl⟩ (fun s' => typeIs_int s' k t) noFill_tuple_mul F.fills_int_mul F.slot_int_rmul repeat_tuple F.slot_int_index.lookup
        (call_meets F.slot_int_rmul (typeIs_int s k t) F.entry_int_rmul (F.args_int_rmul_2 _ _) (int_rmul_tuple k t l its.toArray n dd sl)
          ⟨ho, rfl, ⟨_, ho, rfl⟩, call_meets F.slot_tuple_mul ⟨_, ho, rfl⟩ F.entry_tuple_mul (F.args_tuple_mul_2 _ _) (tuple_mul0 l its.toArray n dd sl k t c0 c1 c2) ⟨ho, ?_⟩⟩)
      have ek : k.toNat = 0 := by omega
      rw [ek] at q2
      exact ⟨.ref s.heap.objs.size, _, I.laid (t' := s.toks) (o := .tup []) (fun b ob q => Heap.get?_push_of_some _ q) (Nat.le_refl _) ⟨Nat.zero_le _, [], .nil, IsTup.new _ _⟩, rfl, q2 _ (I.hok.fresh (Nat.le_refl _))⟩
theorem op_repS : OpR X (binaryOp .Mult) (fun x y H Q => ∃ l k xs, x = .ref l ∧ y = .int k ∧ SqL X.K H l xs ∧ -(2 ^ 63) ≤ k ∧ k < 2 ^ 63 ∧ xs.length * k.toNat ≤ sizeLine ∧ ∀ p, H p = none → Q (.ref p) (upd H p (.lst (List.replicate k.toNat xs).flatten))) := by
  intro pins s σ H x y v u Q I rx ry h
  obtain ⟨l, k, xs, rfl, rfl, hH, h1, h2, hz, q⟩ := h
  cases rx
  obtain ⟨t, rfl⟩ := ry
  obtain ⟨its, r, ⟨o, n, ho, hc, hn, hd⟩, hl0⟩ := I.list hH
  obtain ⟨cls, dd, data, sl⟩ := o
  simp only at hc hd hn
  subst hc hd
  have hl := r.length
  have hlen : its.toArray.size * k.toNat ≤ sizeLine := by rw [List.size_toArray, ← hl]; exact hz
  have hcap : ¬ its.toArray.size * k.toNat > (2 ^ 63 - 1) / 8 := by
    have : (sizeLine : Nat) ≤ (2 ^ 63 - 1) / 8 := by decide
    omega
  have hfit : ¬ (!Builtin.List.listFitsIndex k) = true := by
    rw [fitsIndex_both h1 h2]
    exact Bool.false_ne_true
  have hlong : ¬ Builtin.List.listTooLong (its.toArray.size * k.toNat) = true := by
    rw [notLongL hlen]
    exact Bool.false_ne_true
  have hnew : List.foldl (fun x1 x2 => x1 ++ x2) #[] (List.replicate (if its.toArray.isEmpty = true then 0 else k.toNat) its.toArray) = (List.replicate k.toNat its).flatten.toArray := by
    have f0 : ∀ m : Nat, List.foldl (fun x1 x2 => x1 ++ x2) #[] (List.replicate m its.toArray) = (List.replicate m its).flatten.toArray := fun m => by
      have := foldl_rep its m []
      rw [List.nil_append] at this
      exact this
    rw [f0]
    cases its with
    | nil => simp
    | cons a r' => rw [if_neg (by simp)]
  refine wpAny_binaryOp_repeat_ref (T := "list") (U := "int") (by decide) ⟨_, ho, rfl⟩ (fun s' => typeIs_int s' k t) noFill_list_mul F.fills_int_mul F.slot_int_rmul repeat_list F.slot_int_index.lookup
    (call_meets F.slot_int_rmul (typeIs_int s k t) F.entry_int_rmul (F.args_int_rmul_2 _ _) (int_rmul_listW k t l its.toArray n dd sl)
      ⟨ho, rfl, ⟨_, ho, rfl⟩, call_meets F.slot_list_mul ⟨_, ho, rfl⟩ F.entry_list_mul (F.args_list_mul_2 _ _) (list_mulW l its.toArray n dd sl k t hfit hcap hlong (by rw [hnew, List.size_toArray, PyProof.Rows.lm_len_rep_flat, Nat.mul_comm, ← hl]; exact hz)) ⟨ho, ?_⟩⟩)
  rw [hnew]
  exact ⟨.ref _, _, I.lnew (t' := s.toks) (r.rep k.toNat) (by rw [PyProof.Rows.lm_len_rep_flat, Nat.mul_comm]; exact hz), rfl, q _ I.fresh⟩
end
end G
end S_GRep
section S_GPrim
set_option linter.all false
set_option maxRecDepth 100000
set_option maxHeartbeats 1000000
/-! GPrim: what the operations on values do, over the judgements of the hand layer. -/
namespace G
open PySem PySem.Spec PyProof.Rows L2

mutual
def D.cln : D → Bool
  | .loc _ => false
  | .exc _ _ => false
  | .tup xs => D.clnL xs
  | .lst xs => D.clnL xs
  | _ => true
def D.clnL : List D → Bool
  | [] => true
  | x :: xs => D.cln x && D.clnL xs
end
section
variable {K : Fg} {F H : Hp} {r : List Addr} {S : List Cell}
mutual
theorem Rp.cln : ∀ {v : V} {d : D}, Rp K F r v d → d.pur = true → d.cln = true
  | _, _, .non, _ => rfl
  | _, _, .bl _, _ => rfl
  | _, _, .int _, _ => rfl
  | _, _, .str _ _, _ => rfl
  | _, _, .tup _ t, _ => by
    unfold D.cln
    exact RpL.cln t
  | _, _, .lst _ t, _ => by
    unfold D.cln
    exact RpL.cln t
  | _, _, .loc _, h => by cases h
theorem RpL.cln : ∀ {xs : List V} {ds : List D}, RpL K F r xs ds → D.clnL ds = true
  | _, _, .nil => rfl
  | _, _, .cons h p t => by
    unfold D.clnL
    rw [Rp.cln h p, RpL.cln t]
    rfl
end
mutual
theorem Rp.dp (R : Rel K F H r S) : ∀ {v : V} {d : D}, Rp K F r v d → d.pur = true → Dp K H v d.py
  | _, _, .non, _ => .non
  | _, _, .bl b, _ => .bl b
  | _, _, .int i, _ => .int i
  | _, _, .str s _, _ => .str _
  | _, _, .tup h t, _ => by
    unfold D.py
    exact .tup (R.sqt h) (RpL.dp R t)
  | _, _, .lst h t, _ => by
    unfold D.py
    exact .lst (R.sql h) (RpL.dp R t)
  | _, _, .loc _, h => by cases h
theorem RpL.dp (R : Rel K F H r S) : ∀ {xs : List V} {ds : List D}, RpL K F r xs ds → DpAll K H xs (D.pyL ds)
  | _, _, .nil => by
    unfold D.pyL
    exact .nil
  | _, _, .cons h p t => by
    unfold D.pyL
    exact .cons (Rp.dp R h p) (RpL.dp R t)
end
end
mutual
theorem py_plain : ∀ d : D, d.py.plain = true
  | .non => rfl
  | .bl _ => rfl
  | .int _ => rfl
  | .str _ => rfl
  | .tup xs => by unfold D.py PyData.plain; exact pyL_plain xs
  | .lst xs => by unfold D.py PyData.plain; exact pyL_plain xs
  | .loc _ => rfl
  | .exc _ _ => rfl
theorem pyL_plain : ∀ ds : List D, PyData.plainAll (D.pyL ds) = true
  | [] => rfl
  | x :: xs => by unfold D.pyL PyData.plainAll; rw [py_plain x, pyL_plain xs]; rfl
end
mutual
theorem py_depth : ∀ d : D, d.py.depth = d.dep
  | .non => rfl
  | .bl _ => rfl
  | .int _ => rfl
  | .str _ => rfl
  | .tup xs => by unfold D.py PyData.depth D.dep; rw [pyL_depth xs]
  | .lst xs => by unfold D.py PyData.depth D.dep; rw [pyL_depth xs]
  | .loc _ => rfl
  | .exc _ _ => rfl
theorem pyL_depth : ∀ ds : List D, PyData.depthAll (D.pyL ds) = D.depL ds
  | [] => rfl
  | x :: xs => by unfold D.pyL PyData.depthAll D.depL; rw [py_depth x, pyL_depth xs]
end
theorem str_eq (x y : List Nat) : ((⟨x.toArray⟩ : Str) == ⟨y.toArray⟩) = (x == y) := by
  rw [Bool.eq_iff_iff]
  simp
theorem str_app (x y : List Nat) : ((⟨x.toArray⟩ : Str) ++ (⟨y.toArray⟩ : Str)) = ⟨(x ++ y).toArray⟩ := by
  show Str.mk (x.toArray ++ y.toArray) = _
  simp
mutual
theorem py_eqv : ∀ a b : D, a.cln = true → b.cln = true → PyData.eqv a.py b.py = D.eqv a b
  | .non, b, _, hb => by cases b <;> first | rfl | (exact absurd hb (by simp [D.cln]))
  | .bl _, b, _, hb => by cases b <;> first | rfl | (exact absurd hb (by simp [D.cln]))
  | .int _, b, _, hb => by cases b <;> first | rfl | (exact absurd hb (by simp [D.cln]))
  | .str x, b, _, hb => by
    cases b with
    | str y => unfold D.py PyData.eqv D.eqv; exact str_eq x y
    | loc _ => exact absurd hb (by simp [D.cln])
    | exc _ _ => exact absurd hb (by simp [D.cln])
    | _ => rfl
  | .tup xs, b, ha, hb => by
    cases b with
    | tup ys => unfold D.py PyData.eqv D.eqv; exact pyL_eqv xs ys ha hb
    | loc _ => exact absurd hb (by simp [D.cln])
    | exc _ _ => exact absurd hb (by simp [D.cln])
    | _ => rfl
  | .lst xs, b, ha, hb => by
    cases b with
    | lst ys => unfold D.py PyData.eqv D.eqv; exact pyL_eqv xs ys ha hb
    | loc _ => exact absurd hb (by simp [D.cln])
    | exc _ _ => exact absurd hb (by simp [D.cln])
    | _ => rfl
  | .loc _, _, ha, _ => absurd ha (by simp [D.cln])
  | .exc _ _, _, ha, _ => absurd ha (by simp [D.cln])
theorem pyL_eqv : ∀ a b : List D, D.clnL a = true → D.clnL b = true → PyData.eqvAll (D.pyL a) (D.pyL b) = D.eqvL a b
  | [], [], _, _ => rfl
  | [], _ :: _, _, _ => rfl
  | _ :: _, [], _, _ => rfl
  | x :: xs, y :: ys, ha, hb => by
    unfold D.clnL at ha hb
    rw [Bool.and_eq_true] at ha hb
    unfold D.pyL PyData.eqvAll D.eqvL
    rw [py_eqv x y ha.1 hb.1, pyL_eqv xs ys ha.2 hb.2]
end
theorem pyL_any (d : D) (hd : d.cln = true) : ∀ ys : List D, D.clnL ys = true → ((D.pyL ys).any fun y => PyData.eqv y d.py) = ys.any fun y => D.eqv y d
  | [], _ => rfl
  | y :: ys, h => by
    unfold D.clnL at h
    rw [Bool.and_eq_true] at h
    unfold D.pyL
    rw [List.any_cons, List.any_cons, py_eqv y d h.1 hd, pyL_any d hd ys h.2]

/-! ### operands -/
/-- an operand, as it was evaluated: data, or a list of our own -/
inductive RpB (K : Fg) (F H : Hp) (r : List Addr) : V → D → Prop
  | st {v : V} {d : D} (h : Rp K F r v d) : RpB K F H r v d
  | ow {a : Addr} {xs : List V} {ds : List D} (m : Mine F H r a xs) (t : RpL K F r xs ds) : RpB K F H r (.ref a) (.lst ds)
/-- an operand where it is used -/
inductive RpW (K : Fg) (F H : Hp) (r : List Addr) : V → D → Prop
  | st {v : V} {d : D} (h : Rp K F r v d) : RpW K F H r v d
  | ow {a : Addr} {xs : List V} {ds : List D} (m : H a = some (.lst xs)) (t : RpL K F r xs ds) : RpW K F H r (.ref a) (.lst ds)
section
variable {K : Fg} {F H F' H' : Hp} {r r' : List Addr} {S : List Cell} {v : V} {d : D} {a : Addr} {xs : List V} {ds : List D}
theorem RpB.ext (h : RpB K F H r v d) (e : Ext F H r F' H' r') : RpB K F' H' r' v d := by
  cases h with
  | st h => exact .st (h.up e.f e.pre)
  | ow m t => exact .ow (m.ext e) (t.up e.f e.pre)
theorem RpB.w (h : RpB K F H r v d) : RpW K F H r v d := by
  cases h with
  | st h => exact .st h
  | ow m t => exact .ow m.h t
theorem RpB.dr (R : Rel K F H r S) (h : RpB K F H r v d) : RpW K F H r v (G.dr S d) := by
  cases h with
  | ow m t => exact .ow m.h t
  | st h =>
    cases h with
    | @loc n a q =>
      obtain ⟨c, hc, ok⟩ := R.at q
      have e : G.dr S (.loc n) = match some c with
        | some (.lst xs) => .lst xs
        | _ => .loc n := by
        rw [← hc]
        rfl
      rw [e]
      cases c with
      | dead => exact .st (.loc q)
      | lst ds =>
        obtain ⟨xs, h1, h2⟩ := ok
        exact .ow h1 h2
      | lsx ds => exact .st (.loc q)
      | dki ds => exact .st (.loc q)
    | non => exact .st .non
    | bl b => exact .st (.bl b)
    | int i => exact .st (.int i)
    | str s z => exact .st (.str s z)
    | tup z t => exact .st (.tup z t)
    | lst z t => exact .st (.lst z t)
theorem RpW.lst (R : Rel K F H r S) (h : RpW K F H r v (.lst ds)) : ∃ a xs, v = .ref a ∧ SqL K H a xs ∧ RpL K F r xs ds := by
  cases h with
  | ow m t => exact ⟨_, _, rfl, SqL.of m, t⟩
  | st h =>
    cases h with
    | lst h t => exact ⟨_, _, rfl, R.sql h, t⟩
theorem RpW.tup (R : Rel K F H r S) (h : RpW K F H r v (.tup ds)) : ∃ a xs, v = .ref a ∧ SqT K H a xs ∧ RpL K F r xs ds := by
  cases h with
  | st h =>
    cases h with
    | tup h t => exact ⟨_, _, rfl, R.sqt h, t⟩
theorem RpW.int (h : RpW K F H r v (.int i)) : v = .int i := by
  cases h with
  | st h => cases h; rfl
theorem RpW.bl (h : RpW K F H r v (.bl i)) : v = .bl i := by
  cases h with
  | st h => cases h; rfl
theorem RpW.non (h : RpW K F H r v .non) : v = .non := by
  cases h with
  | st h => cases h; rfl
theorem RpW.str {s : List Nat} (h : RpW K F H r v (.str s)) : v = .str ⟨s.toArray⟩ ∧ s.length ≤ lim := by
  cases h with
  | st h => cases h with | str _ h => exact ⟨rfl, h⟩
theorem RpW.cln (h : RpW K F H r v d) (p : d.pur = true) : d.cln = true := by
  cases h with
  | st h => exact h.cln p
  | ow m t =>
    unfold D.cln
    exact t.cln
theorem RpW.dp (R : Rel K F H r S) (h : RpW K F H r v d) (p : d.pur = true) : Dp K H v d.py := by
  cases h with
  | st h => exact h.dp R p
  | ow m t =>
    unfold D.py
    exact .lst (SqL.of m) (t.dp R)

/-- what follows with a value d -/
def Res (K : Fg) (F H : Hp) (r : List Addr) (S : List Cell) (d : D) (Q : VK) : Prop := ∀ v F' H' r', Ext F H r F' H' r' → Rel K F' H' r' S → Rp K F' r' v d → Q v H'
variable {Q : VK}
theorem Res.now (q : Res K F H r S d Q) (R : Rel K F H r S) (h : Rp K F r v d) : Q v H := q v F H r .refl R h
theorem Res.tupN (q : Res K F H r S (.tup ds) Q) (R : Rel K F H r S) (h : RpL K F r xs ds) {p : Addr} (hp : H p = none) : Q (.ref p) (upd H p (.tup xs)) := by
  have e : Ext F H r (upd F p (.tup xs)) (upd H p (.tup xs)) r := Ext.new R hp
  exact q _ _ _ _ e (R.new hp) (.tup (SqT.of upd_same) (h.up e.f e.pre))
theorem Res.lstN (q : Res K F H r S (.lst ds) Q) (R : Rel K F H r S) (h : RpL K F r xs ds) {p : Addr} (hp : H p = none) : Q (.ref p) (upd H p (.lst xs)) := by
  have e : Ext F H r (upd F p (.lst xs)) (upd H p (.lst xs)) r := Ext.new R hp
  exact q _ _ _ _ e (R.new hp) (.lst (SqL.of upd_same) (h.up e.f e.pre))
end
/-- the same, where a list is a new one -/
def ResX (K : Fg) (F H : Hp) (r : List Addr) (S : List Cell) : D → VK → Prop
  | .lst ds, Q => ∀ p xs, RpL K F r xs ds → H p = none → Q (.ref p) (upd H p (.lst xs))
  | d, Q => Res K F H r S d Q
theorem Res.x {K : Fg} {F H : Hp} {r : List Addr} {S : List Cell} {d : D} {Q : VK} (q : Res K F H r S d Q) (R : Rel K F H r S) : ResX K F H r S d Q := by
  cases d with
  | lst ds => exact fun p xs h hp => q.lstN R h hp
  | _ => exact q
theorem lim_eq : lim = sizeLine := by rw [sizeLine_eq]; rfl

def opM : Op2 → Operator
  | .add => .Add | .sub => .Sub | .mul => .Mult | .fdiv => .FloorDiv | .mod => .Mod
def cmM : Cm → CmpOp
  | .eq => .Eq | .ne => .NotEq | .lt => .Lt | .le => .LtE | .gt => .Gt | .ge => .GtE | .isin => .In | .notin => .NotIn | .isn => .Is | .isnot => .IsNot

/-- two operands, their data, what follows -/
def rD (K : Fg) (f : D → D → Option D) : R2 := fun x y H Q => ∃ F r S a b d, Rel K F H r S ∧ RpW K F H r x a ∧ RpW K F H r y b ∧ f a b = some d ∧ Res K F H r S d Q
def rDX (K : Fg) (f : D → D → Option D) : R2 := fun x y H Q => ∃ F r S a b d, Rel K F H r S ∧ RpW K F H r x a ∧ RpW K F H r y b ∧ f a b = some d ∧ ResX K F H r S d Q
section
variable {X : L2.Cx}
theorem op_catS : OpR X (binaryOp .Add) (fun x y H Q => ∃ l b xs zs, x = .ref l ∧ y = .ref b ∧ SqL X.K H l xs ∧ SqL X.K H b zs ∧ xs.length + zs.length ≤ sizeLine ∧ ∀ p, H p = none → Q (.ref p) (upd H p (.lst (xs ++ zs)))) := by
  intro pins s σ H x y v u Q I rx ry h
  obtain ⟨l, b, xs, zs, rfl, rfl, hH, hB, hz, q⟩ := h
  cases rx
  cases ry
  obtain ⟨its, r, ⟨o, n, ho, hc, hn, hd⟩, hl⟩ := I.list hH
  obtain ⟨its2, r2, ⟨o2, n2, ho2, hc2, hn2, hd2⟩, hl2⟩ := I.list hB
  have e1 := r.length
  have e2 := r2.length
  obtain ⟨cls, dd, data, sl⟩ := o
  obtain ⟨cls2, dd2, data2, sl2⟩ := o2
  simp only at hc hd hc2 hd2
  subst hc hd hc2 hd2
  refine concat_meets ⟨_, ho, rfl⟩ ⟨_, ho2, rfl⟩ noFill_list_add seq_list_add PySem.F.slot_list_add PySem.F.entry_list_add (PySem.F.args_list_add_2 _ _) (list_addW l b its.toArray its2.toArray n n2 dd dd2 sl sl2 (by simp only [List.size_toArray]; omega)) ⟨ho, ho2, ?_⟩
  have e : its.toArray ++ its2.toArray = (its ++ its2).toArray := by simp
  rw [e]
  exact ⟨.ref _, _, I.lnew (t' := s.toks) (r.append r2) (by rw [List.length_append]; omega), rfl, q _ I.fresh⟩

theorem RpL.rep {K : Fg} {F : Hp} {r : List Addr} {xs : List V} {ds : List D} (t : RpL K F r xs ds) : ∀ n : Nat, RpL K F r (List.replicate n xs).flatten (List.replicate n ds).flatten
  | 0 => .nil
  | n + 1 => by
    rw [List.replicate_succ, List.replicate_succ, List.flatten_cons, List.flatten_cons]
    exact t.app (RpL.rep t n)
theorem snd_bin (o : Op2) : OpR X (binaryOp (opM o)) (rDX X.K (pBin o)) := by
  intro pins s σ H x y v u Q I rx ry h
  obtain ⟨F, r, S, a, b, d, R, ra, rb, e, q⟩ := h
  have int2 : ∀ {i j : Int}, a = .int i → b = .int j → x = .int i ∧ y = .int j := fun h1 h2 => by
    subst h1 h2
    exact ⟨ra.int, rb.int⟩
  cases o with
  | add =>
    cases a <;> cases b <;> simp only [pBin, reduceCtorEq] at e
    · obtain ⟨ex, ey⟩ := int2 rfl rfl
      cases e
      exact op_add pins s σ H x y v u Q I rx ry ⟨_, _, ex, ey, Res.now q R (.int _)⟩
    · obtain ⟨ex, hx⟩ := ra.str
      obtain ⟨ey, hy⟩ := rb.str
      split at e
      · rename_i hz
        cases e
        refine op_add_str pins s σ H x y v u Q I rx ry ⟨_, _, ex, ey, ?_, ?_⟩
        · rw [← lim_eq]
          simpa [Str.length] using hz
        · have q' := Res.now q R (.str _ (by simpa using hz))
          rw [str_app]
          exact q'
      · cases e
    · obtain ⟨a1, xs, ex, hx, tx⟩ := ra.tup R
      obtain ⟨a2, ys, ey, hy, ty⟩ := rb.tup R
      split at e
      · rename_i hz
        cases e
        refine op_catA pins s σ H x y v u Q I rx ry ⟨a1, a2, xs, ys, ex, ey, hx, hy, ?_, ?_, ?_, ?_⟩
        · rw [tx.len, ty.len, ← lim_eq]
          exact hz
        · intro z
          subst z
          cases tx
          cases rb with
          | st h => subst ey; exact Res.now q R h
        · intro _ z
          subst z
          cases ty
          cases ra with
          | st h =>
            subst ex
            rw [List.append_nil] at q
            exact Res.now q R h
        · intro _ _ p hp
          exact Res.tupN q R (tx.app ty) hp
      · cases e
    · obtain ⟨a1, xs, ex, hx, tx⟩ := ra.lst R
      obtain ⟨a2, ys, ey, hy, ty⟩ := rb.lst R
      split at e
      · rename_i hz
        cases e
        refine op_catS pins s σ H x y v u Q I rx ry ⟨a1, a2, xs, ys, ex, ey, hx, hy, ?_, ?_⟩
        · rw [tx.len, ty.len, ← lim_eq]
          exact hz
        · intro p hp
          exact q p _ (tx.app ty) hp
      · cases e
  | sub =>
    cases a <;> cases b <;> simp only [pBin, reduceCtorEq] at e
    obtain ⟨ex, ey⟩ := int2 rfl rfl
    cases e
    exact op_sub pins s σ H x y v u Q I rx ry ⟨_, _, ex, ey, Res.now q R (.int _)⟩
  | mul =>
    cases a <;> cases b <;> simp only [pBin, reduceCtorEq] at e
    · obtain ⟨ex, ey⟩ := int2 rfl rfl
      split at e
      · rename_i hz
        cases e
        refine op_mul pins s σ H x y v u Q I rx ry ⟨_, _, ex, ey, ?_, Res.now q R (.int _)⟩
        simpa [smallI, CMul] using hz
      · cases e
    · rename_i ds k
      split at e
      · rename_i hz
        cases e
        rw [Bool.and_eq_true, Bool.and_eq_true, decide_eq_true_eq, decide_eq_true_eq, decide_eq_true_eq] at hz
        obtain ⟨⟨hz0, hz1⟩, hz2⟩ := hz
        obtain ⟨a1, xs, ex, hx, tx⟩ := ra.tup R
        refine op_repA pins s σ H x y v u Q I rx ry ⟨a1, k, xs, ex, rb.int, hx, by omega, hz1, by rw [tx.len]; exact hz2, fun c => ?_, fun p hp => Res.tupN q R (RpL.rep tx k.toNat) hp⟩
        subst ex
        cases ra with
        | st h =>
          rcases c with c | c
          · subst c
            cases tx
            have e0 : (List.replicate k.toNat ([] : List D)).flatten = [] := by
              induction k.toNat with
              | zero => rfl
              | succ n ih => rw [List.replicate_succ, List.flatten_cons, ih]; rfl
            rw [e0] at q
            exact Res.now q R h
          · subst c
            have e0 : (List.replicate (1 : Int).toNat ds).flatten = ds := by simp
            rw [e0] at q
            exact Res.now q R h
      · cases e
    · rename_i ds k
      split at e
      · rename_i hz
        cases e
        rw [Bool.and_eq_true, Bool.and_eq_true, decide_eq_true_eq, decide_eq_true_eq, decide_eq_true_eq] at hz
        obtain ⟨⟨hz0, hz1⟩, hz2⟩ := hz
        obtain ⟨a1, xs, ex, hx, tx⟩ := ra.lst R
        refine op_repS pins s σ H x y v u Q I rx ry ⟨a1, k, xs, ex, rb.int, hx, by omega, by omega, ?_, fun p hp => q p _ (RpL.rep tx k.toNat) hp⟩
        rw [tx.len, sizeLine_eq]
        have : ds.length * k.toNat ≤ 1000 * 1000 := Nat.mul_le_mul hz2 (by omega)
        omega
      · cases e
  | fdiv =>
    cases a <;> cases b <;> simp only [pBin, reduceCtorEq] at e
    obtain ⟨ex, ey⟩ := int2 rfl rfl
    split at e
    · rename_i hz
      cases e
      exact op_fdivW pins s σ H x y v u Q I rx ry ⟨_, _, ex, ey, wide_div (b := 63) hz.1 hz.2 (by decide) (by decide), Res.now q R (.int _)⟩
    · cases e
  | mod =>
    cases a <;> cases b <;> simp only [pBin, reduceCtorEq] at e
    obtain ⟨ex, ey⟩ := int2 rfl rfl
    split at e
    · rename_i hz
      cases e
      exact op_mod pins s σ H x y v u Q I rx ry ⟨_, _, ex, ey, hz, Res.now q R (.int _)⟩
    · cases e

theorem min_le {a b : Nat} {c : Nat} (h : a ≤ c ∨ b ≤ c) : min a b ≤ c := by omega
theorem snd_cmp (o : Cm) (hu : X.A.units + 200 < cLine) : OpR X (compareOp (cmM o)) (rD X.K fun a b => (pCmp o a b).map .bl) := by
  intro pins s σ H x y v u Q I rx ry h
  obtain ⟨F, r, S, a, b, d, R, ra, rb, e, q⟩ := h
  have int2 : ∀ {i j : Int}, a = .int i → b = .int j → x = .int i ∧ y = .int j := fun h1 h2 => by
    subst h1 h2
    exact ⟨ra.int, rb.int⟩
  have fin : ∀ {k : Bool} {Q' : VK}, Res X.K F H r S (.bl k) Q' → EP X pins σ Q' (.bool k) s := fun {k Q'} q => ⟨.bl k, H, I, rfl, q.now R (.bl k)⟩
  have inn : ∀ {k : Bool}, pIn a b = some k → (∀ Q', Res X.K F H r S (.bl k) Q' → wpAny (model X.prog X.w) X.A (compareOp .In v u) (EP X pins σ Q') X.xe s) ∧
      (∀ Q', Res X.K F H r S (.bl (!k)) Q' → wpAny (model X.prog X.w) X.A (compareOp .NotIn v u) (EP X pins σ Q') X.xe s) := by
    intro k hk
    cases b <;> simp only [pIn, reduceCtorEq] at hk
    · rename_i ys
      obtain ⟨ey, hy⟩ := rb.str
      split at hk
      · rename_i c
        obtain ⟨ex, hx⟩ := ra.str
        cases hk
        have hc : decide (c ∈ (⟨ys.toArray⟩ : Str).cps.toList) = ys.contains c := by
          rw [Bool.eq_iff_iff, decide_eq_true_iff, List.contains_iff_mem]
        refine ⟨fun Q' q' => ?_, fun Q' q' => ?_⟩
        · refine op_in_sign pins s σ H x y v u Q' I rx ry ⟨c, _, ?_, ey, ?_⟩
          · rw [ex]
          · rw [hc]
            exact q'.now R (.bl _)
        · refine op_notIn_sign pins s σ H x y v u Q' I rx ry ⟨c, _, ?_, ey, ?_⟩
          · rw [ex]
          · rw [hc]
            exact q'.now R (.bl _)
      · cases hk
    · rename_i ys
      split at hk
      · rename_i hz
        cases hk
        rw [Bool.and_eq_true, Bool.or_eq_true, decide_eq_true_eq, decide_eq_true_eq] at hz
        obtain ⟨as, r1⟩ := Dp.reads I a.py x v (ra.dp R hz.1) rx
        obtain ⟨bs, r2⟩ := Dp.reads I (D.py (.tup ys)) y u (rb.dp R rfl) ry
        have hb : D.clnL ys = true := by
          have := rb.cln rfl
          unfold D.cln at this
          exact this
        unfold D.py at r2
        have e1 := pyL_any a (ra.cln hz.1) ys hb
        have hm : X.A.units + 1 + min (PyData.depthAll (D.pyL ys)) a.py.depth < cLine := by
          rw [py_depth, pyL_depth]
          have := min_le (c := 60) (hz.2.symm)
          omega
        refine ⟨fun Q' q' => SeqAt.in_tuple_data r2 r1 (pyL_plain ys) (py_plain a) hm ?_, fun Q' q' => SeqAt.notIn_tuple_data r2 r1 (pyL_plain ys) (py_plain a) hm ?_⟩
        · rw [e1]
          exact fin q'
        · rw [e1]
          exact fin q'
      · cases hk
    · rename_i ys
      split at hk
      · rename_i hz
        cases hk
        rw [Bool.and_eq_true, Bool.or_eq_true, decide_eq_true_eq, decide_eq_true_eq] at hz
        obtain ⟨as, r1⟩ := Dp.reads I a.py x v (ra.dp R hz.1) rx
        obtain ⟨bs, r2⟩ := Dp.reads I (D.py (.lst ys)) y u (rb.dp R rfl) ry
        have hb : D.clnL ys = true := by
          have := rb.cln rfl
          unfold D.cln at this
          exact this
        unfold D.py at r2
        have e1 := pyL_any a (ra.cln hz.1) ys hb
        have hm : X.A.units + 1 + min (PyData.depthAll (D.pyL ys)) a.py.depth < cLine := by
          rw [py_depth, pyL_depth]
          have := min_le (c := 60) (hz.2.symm)
          omega
        refine ⟨fun Q' q' => SeqAt.in_list_data r2 r1 (pyL_plain ys) (py_plain a) hm ?_, fun Q' q' => SeqAt.notIn_list_data r2 r1 (pyL_plain ys) (py_plain a) hm ?_⟩
        · rw [e1]
          exact fin q'
        · rw [e1]
          exact fin q'
      · cases hk
  cases o with
  | eq =>
    simp only [pCmp, Option.map_eq_some_iff] at e
    obtain ⟨k, e1, rfl⟩ := e
    split at e1
    · rename_i hz
      cases e1
      unfold D.eqOk at hz
      simp only [Bool.and_eq_true, Bool.or_eq_true, decide_eq_true_eq] at hz
      obtain ⟨as, r1⟩ := Dp.reads I a.py x v (ra.dp R hz.1.1) rx
      obtain ⟨bs, r2⟩ := Dp.reads I b.py y u (rb.dp R hz.1.2) ry
      refine SeqAt.eq_plain r1 r2 (py_plain a) (py_plain b) ?_ ?_
      · rw [py_depth, py_depth]
        have := min_le (c := 60) hz.2
        omega
      · rw [py_eqv a b (ra.cln hz.1.1) (rb.cln hz.1.2)]
        exact fin q
    · cases e1
  | ne =>
    simp only [pCmp, Option.map_eq_some_iff] at e
    obtain ⟨k, e1, rfl⟩ := e
    split at e1
    · rename_i hz
      cases e1
      unfold D.eqOk at hz
      simp only [Bool.and_eq_true, Bool.or_eq_true, decide_eq_true_eq] at hz
      obtain ⟨as, r1⟩ := Dp.reads I a.py x v (ra.dp R hz.1.1) rx
      obtain ⟨bs, r2⟩ := Dp.reads I b.py y u (rb.dp R hz.1.2) ry
      refine SeqAt.ne_plain r1 r2 (py_plain a) (py_plain b) ?_ ?_
      · rw [py_depth, py_depth]
        have := min_le (c := 60) hz.2
        omega
      · rw [py_eqv a b (ra.cln hz.1.1) (rb.cln hz.1.2)]
        exact fin q
    · cases e1
  | lt =>
    cases a <;> cases b <;> simp only [pCmp, reduceCtorEq, Option.map_none, Option.map_some] at e
    obtain ⟨ex, ey⟩ := int2 rfl rfl
    cases e
    exact op_lt pins s σ H x y v u Q I rx ry ⟨_, _, ex, ey, q.now R (.bl _)⟩
  | le =>
    cases a <;> cases b <;> simp only [pCmp, reduceCtorEq, Option.map_none, Option.map_some] at e
    obtain ⟨ex, ey⟩ := int2 rfl rfl
    cases e
    exact op_le pins s σ H x y v u Q I rx ry ⟨_, _, ex, ey, q.now R (.bl _)⟩
  | gt =>
    cases a <;> cases b <;> simp only [pCmp, reduceCtorEq, Option.map_none, Option.map_some] at e
    obtain ⟨ex, ey⟩ := int2 rfl rfl
    cases e
    exact op_gt pins s σ H x y v u Q I rx ry ⟨_, _, ex, ey, q.now R (.bl _)⟩
  | ge =>
    cases a <;> cases b <;> simp only [pCmp, reduceCtorEq, Option.map_none, Option.map_some] at e
    obtain ⟨ex, ey⟩ := int2 rfl rfl
    cases e
    exact op_ge pins s σ H x y v u Q I rx ry ⟨_, _, ex, ey, q.now R (.bl _)⟩
  | isin =>
    simp only [pCmp, Option.map_eq_some_iff] at e
    obtain ⟨k, e1, rfl⟩ := e
    exact (inn e1).1 Q q
  | notin =>
    simp only [pCmp, Option.map_eq_some_iff] at e
    obtain ⟨k, ⟨j, e1, rfl⟩, rfl⟩ := e
    exact (inn e1).2 Q q
  | isn =>
    cases b <;> simp only [pCmp, reduceCtorEq, Option.map_none, Option.map_some] at e
    cases e
    refine op_isN pins s σ H x y v u Q I rx ry ⟨rb.non, ?_⟩
    have ee : decide (x = .non) = a.isNon := by
      cases ra with
      | ow m t => rfl
      | st h => cases h <;> rfl
    rw [ee]
    exact q.now R (.bl _)
  | isnot =>
    cases b <;> simp only [pCmp, reduceCtorEq, Option.map_none, Option.map_some] at e
    cases e
    refine op_notN pins s σ H x y v u Q I rx ry ⟨rb.non, ?_⟩
    have ee : decide (x = .non) = a.isNon := by
      cases ra with
      | ow m t => rfl
      | st h => cases h <;> rfl
    rw [ee]
    exact q.now R (.bl _)
end
end G
end S_GPrim
section S_GPrim2
set_option linter.all false
set_option maxRecDepth 100000
set_option maxHeartbeats 1000000
/-! GPrim2: subscripts, slices, built-in functions. -/
namespace G
open PySem PySem.Spec PyProof.Rows L2

theorem atI_eq {α : Type} (xs : List α) (i : Int) : L2.atI xs i = G.atI xs i := rfl
theorem cutV_eq (xs : List V) (lo hi : Option Int) : L2.cutV xs lo hi = G.cut xs lo hi := rfl
section
variable {K : Fg} {F H : Hp} {r : List Addr} {S : List Cell}
theorem RpL.atI {xs : List V} {ds : List D} {i : Int} {d : D} (t : RpL K F r xs ds) (h : G.atI ds i = some d) : ∃ v, G.atI xs i = some v ∧ Rp K F r v d ∧ d.pur = true := by
  unfold G.atI at h ⊢
  rw [← t.len] at h
  cases e : G.ixN xs.length i with
  | none =>
    rw [e] at h
    cases h
  | some j =>
    rw [e] at h
    exact t.get h
theorem RpL.cut {xs : List V} {ds : List D} (lo hi : Option Int) (t : RpL K F r xs ds) : RpL K F r (G.cut xs lo hi) (G.cut ds lo hi) := by
  unfold G.cut
  rw [t.len]
  exact (t.drop _).take _
theorem RpL.ints : ∀ {xs : List V} {ds : List D} {ns : List Int}, RpL K F r xs ds → asInts ds = some ns → xs = ns.map V.int ∧ ds = ns.map D.int
  | _, _, _, .nil, h => by
    cases h
    exact ⟨rfl, rfl⟩
  | _, _, _, .cons (d := d) q p t, h => by
    cases q with
    | int i =>
      rw [asInts, Option.map_eq_some_iff] at h
      obtain ⟨ms, h1, rfl⟩ := h
      obtain ⟨e1, e2⟩ := RpL.ints t h1
      exact ⟨by rw [e1]; rfl, by rw [e2]; rfl⟩
    | non => cases h
    | bl => cases h
    | str => cases h
    | tup => cases h
    | lst => cases h
    | loc => cases h
theorem RpL.bls : ∀ {xs : List V} {ds : List D} {ns : List Bool}, RpL K F r xs ds → asBls ds = some ns → xs = ns.map V.bl
  | _, _, _, .nil, h => by
    cases h
    rfl
  | _, _, _, .cons (d := d) q p t, h => by
    cases q with
    | bl i =>
      rw [asBls, Option.map_eq_some_iff] at h
      obtain ⟨ms, h1, rfl⟩ := h
      rw [RpL.bls t h1]
      rfl
    | non => cases h
    | int => cases h
    | str => cases h
    | tup => cases h
    | lst => cases h
    | loc => cases h
theorem RpL.strs : ∀ {xs : List V} {ds : List D} {ns : List (List Nat)}, RpL K F r xs ds → asStrs ds = some ns → xs = ns.map fun s => V.str ⟨s.toArray⟩
  | _, _, _, .nil, h => by
    cases h
    rfl
  | _, _, _, .cons (d := d) q p t, h => by
    cases q with
    | str s hs =>
      rw [asStrs, Option.map_eq_some_iff] at h
      obtain ⟨ms, h1, rfl⟩ := h
      rw [RpL.strs t h1]
      rfl
    | non => cases h
    | int => cases h
    | bl => cases h
    | tup => cases h
    | lst => cases h
    | loc => cases h
theorem RpL.of_ints : ∀ ns : List Int, RpL K F r (ns.map V.int) (ns.map D.int)
  | [] => .nil
  | n :: ns => .cons (.int n) rfl (RpL.of_ints ns)
end
section
variable {X : L2.Cx}
theorem snd_ix : IxR X (rD X.K pIx) := by
  intro value slice pins s σ H x y v u Q I rx ry h hs
  obtain ⟨F, r, S, a, b, d, R, ra, rb, e, q⟩ := h
  refine ix_seq value slice pins s σ H x y v u Q I rx ry ?_ hs
  cases b <;> cases a <;> simp only [pIx, reduceCtorEq] at e
  · rename_i i z
    obtain ⟨ex, hz⟩ := ra.str
    rw [Option.map_eq_some_iff] at e
    obtain ⟨c, e1, rfl⟩ := e
    refine .inr (.inr ⟨_, i, c, ex, rb.int, ?_, ?_, ?_⟩)
    · rw [← lim_eq]
      simpa [Str.length] using hz
    · rw [atI_eq]
      simpa using e1
    · have q' := q.now R (.str [c] (by unfold lim; simp))
      simpa using q'
  · rename_i i ds
    obtain ⟨a1, xs, ex, hx, tx⟩ := ra.tup R
    obtain ⟨w, h1, h2, h3⟩ := tx.atI e
    exact .inr (.inl ⟨a1, xs, i, w, ex, rb.int, hx, h1, q.now R h2⟩)
  · rename_i i ds
    obtain ⟨a1, xs, ex, hx, tx⟩ := ra.lst R
    obtain ⟨w, h1, h2, h3⟩ := tx.atI e
    exact .inl ⟨a1, xs, i, w, ex, rb.int, hx, h1, q.now R h2⟩

def rSl (K : Fg) : V → Option Int → Option Int → Hp → VK → Prop := fun x lo hi H Q => ∃ F r S a d, Rel K F H r S ∧ RpW K F H r x a ∧ pSl a lo hi = some d ∧ ResX K F H r S d Q
theorem cut_len {α : Type} (xs : List α) (lo hi : Option Int) : (G.cut xs lo hi).length ≤ xs.length := by
  unfold G.cut
  rw [List.length_take, List.length_drop]
  omega
theorem cut_whole {α : Type} {xs : List α} {lo hi : Option Int} (h : sIx xs.length 0 lo = 0 ∧ sIx xs.length xs.length hi = xs.length) : G.cut xs lo hi = xs := by
  unfold G.cut
  rw [h.1, h.2]
  simp
theorem snd_sl : SlR X (rSl X.K) := by
  intro pins s σ H x v vl vu lo hi sl Q I rx hs pl pu h
  obtain ⟨F, r, S, a, d, R, ra, e, q⟩ := h
  cases a <;> simp only [pSl, reduceCtorEq, Option.some.injEq] at e <;> subst e
  · rename_i z
    obtain ⟨ex, hz⟩ := ra.str
    refine sl_str pins s σ H x v vl vu lo hi sl Q I rx hs pl pu ⟨_, ex, ?_, ?_⟩
    · rw [← lim_eq]
      simpa [Str.length] using hz
    · have ee : cutS ⟨z.toArray⟩ lo hi = ⟨(G.cut z lo hi).toArray⟩ := by
        unfold cutS G.cut Str.length
        simp only [List.size_toArray]
        rfl
      rw [ee]
      exact Res.now q R (.str _ (Nat.le_trans (cut_len _ _ _) hz))
  · rename_i ds
    obtain ⟨a1, xs, ex, hx, tx⟩ := ra.tup R
    refine sl_tupA pins s σ H x v vl vu lo hi sl Q I rx hs pl pu ⟨a1, xs, ex, hx, fun w => ?_, fun w p hp => ?_⟩
    · have w' : sIx ds.length 0 lo = 0 ∧ sIx ds.length ds.length hi = ds.length := by
        rw [← tx.len]
        exact w
      rw [cut_whole w'] at q
      cases ra with
      | st h =>
        subst ex
        exact Res.now q R h
    · rw [cutV_eq]
      exact Res.tupN q R (tx.cut lo hi) hp
  · rename_i ds
    obtain ⟨a1, xs, ex, hx, tx⟩ := ra.lst R
    refine sl_list pins s σ H x v vl vu lo hi sl Q I rx hs pl pu ⟨a1, xs, ex, hx, fun p hp => ?_⟩
    rw [cutV_eq]
    exact q p _ (tx.cut lo hi) hp

/-! ### built-in functions -/
inductive RpWL (K : Fg) (F H : Hp) (r : List Addr) : List V → List D → Prop
  | nil : RpWL K F H r [] []
  | cons {v : V} {d : D} {xs : List V} {ds : List D} (h : RpW K F H r v d) (t : RpWL K F H r xs ds) : RpWL K F H r (v :: xs) (d :: ds)
def rB (K : Fg) (f : List D → Option D) : List V → Hp → VK → Prop := fun xs H Q => ∃ F r S ds d, Rel K F H r S ∧ RpWL K F H r xs ds ∧ f ds = some d ∧ Res K F H r S d Q
def rBX (K : Fg) (f : List D → Option D) : List V → Hp → VK → Prop := fun xs H Q => ∃ F r S ds d, Rel K F H r S ∧ RpWL K F H r xs ds ∧ f ds = some d ∧ ResX K F H r S d Q
theorem one_arg {K : Fg} {F H : Hp} {r : List Addr} {xs : List V} {d : D} (h : RpWL K F H r xs [d]) : ∃ v, xs = [v] ∧ RpW K F H r v d := by
  cases h with
  | cons h t => cases t; exact ⟨_, rfl, h⟩
theorem two_args {K : Fg} {F H : Hp} {r : List Addr} {xs : List V} {d e : D} (h : RpWL K F H r xs [d, e]) : ∃ v w, xs = [v, w] ∧ RpW K F H r v d ∧ RpW K F H r w e := by
  cases h with
  | cons h t =>
    cases t with
    | cons h2 t => cases t; exact ⟨_, _, rfl, h, h2⟩
theorem snd_len : CallR X (.builtin "len") (rB X.K (pB .len)) := by
  intro pins s σ H xs us Q I rx h
  obtain ⟨F, r, S, ds, d, R, ra, e, q⟩ := h
  match ds, ra, e with
  | [.str z], ra, e =>
    cases e
    obtain ⟨v, rfl, h⟩ := one_arg ra
    obtain ⟨rfl, hz⟩ := h.str
    refine call_len pins s σ H _ us Q I rx ⟨_, z.length, rfl, ⟨?_, ?_⟩, q.now R (.int _)⟩
    · rw [← lim_eq]
      simpa [Str.length] using hz
    · simp [Str.length]
  | [.tup z], ra, e =>
    cases e
    obtain ⟨v, rfl, h⟩ := one_arg ra
    obtain ⟨a1, ys, rfl, hx, tx⟩ := h.tup R
    refine call_len pins s σ H _ us Q I rx ⟨_, z.length, rfl, .inr ⟨ys, hx, tx.len.symm⟩, q.now R (.int _)⟩
  | [.lst z], ra, e =>
    cases e
    obtain ⟨v, rfl, h⟩ := one_arg ra
    obtain ⟨a1, ys, rfl, hx, tx⟩ := h.lst R
    refine call_len pins s σ H _ us Q I rx ⟨_, z.length, rfl, .inl ⟨ys, hx, tx.len.symm⟩, q.now R (.int _)⟩
theorem snd_int : CallR X (.type "int") (rB X.K (pB .int)) := by
  intro pins s σ H xs us Q I rx h
  obtain ⟨F, r, S, ds, d, R, ra, e, q⟩ := h
  match ds, ra, e with
  | [.int i], ra, e =>
    cases e
    obtain ⟨v, rfl, h⟩ := one_arg ra
    have := h.int
    subst this
    exact call_int1 pins s σ H _ us Q I rx (.inl ⟨i, rfl, q.now R (.int _)⟩)
  | [.bl i], ra, e =>
    cases e
    obtain ⟨v, rfl, h⟩ := one_arg ra
    have := h.bl
    subst this
    exact call_int1 pins s σ H _ us Q I rx (.inr ⟨i, rfl, q.now R (.int _)⟩)
theorem snd_list : CallR X (.type "list") (rBX X.K (pB .list)) := by
  intro pins s σ H xs us Q I rx h
  obtain ⟨F, r, S, ds, d, R, ra, e, q⟩ := h
  match ds, ra, e with
  | [.tup z], ra, e =>
    cases e
    obtain ⟨v, rfl, h⟩ := one_arg ra
    obtain ⟨a1, ys, rfl, hx, tx⟩ := h.tup R
    exact call_list_of pins s σ H _ us Q I rx ⟨_, ys, rfl, .inr hx, fun p hp => q p _ tx hp⟩
  | [.lst z], ra, e =>
    cases e
    obtain ⟨v, rfl, h⟩ := one_arg ra
    obtain ⟨a1, ys, rfl, hx, tx⟩ := h.lst R
    exact call_list_of pins s σ H _ us Q I rx ⟨_, ys, rfl, .inl hx, fun p hp => q p _ tx hp⟩
theorem snd_tuple : CallR X (.type "tuple") (rB X.K (pB .tuple)) := by
  intro pins s σ H xs us Q I rx h
  obtain ⟨F, r, S, ds, d, R, ra, e, q⟩ := h
  match ds, ra, e with
  | [.tup z], ra, e =>
    cases e
    obtain ⟨v, rfl, h⟩ := one_arg ra
    obtain ⟨a1, ys, rfl, hx, tx⟩ := h.tup R
    cases h with
    | st h => exact call_tuple_of pins s σ H _ us Q I rx ⟨_, ys, rfl, .inr ⟨hx, q.now R h⟩⟩
  | [.lst z], ra, e =>
    cases e
    obtain ⟨v, rfl, h⟩ := one_arg ra
    obtain ⟨a1, ys, rfl, hx, tx⟩ := h.lst R
    exact call_tuple_of pins s σ H _ us Q I rx ⟨_, ys, rfl, .inl ⟨hx, fun p hp => q.tupN R tx hp⟩⟩
theorem snd_all (hc : X.calm = true) : CallR X (.builtin "all") (rB X.K (pB .all)) := by
  intro pins s σ H xs us Q I rx h
  obtain ⟨F, r, S, ds, d, R, ra, e, q⟩ := h
  match ds, ra, e with
  | [.lst z], ra, e =>
    obtain ⟨v, rfl, h⟩ := one_arg ra
    obtain ⟨a1, ys, rfl, hx, tx⟩ := h.lst R
    rw [pB, Option.map_eq_some_iff] at e
    obtain ⟨bs, e1, rfl⟩ := e
    have := tx.bls e1
    subst this
    exact cr_all hc pins s σ H _ us Q I rx ⟨a1, bs, rfl, hx, q.now R (.bl _)⟩
theorem snd_any (hc : X.calm = true) : CallR X (.builtin "any") (rB X.K (pB .any)) := by
  intro pins s σ H xs us Q I rx h
  obtain ⟨F, r, S, ds, d, R, ra, e, q⟩ := h
  match ds, ra, e with
  | [.lst z], ra, e =>
    obtain ⟨v, rfl, h⟩ := one_arg ra
    obtain ⟨a1, ys, rfl, hx, tx⟩ := h.lst R
    rw [pB, Option.map_eq_some_iff] at e
    obtain ⟨bs, e1, rfl⟩ := e
    have := tx.bls e1
    subst this
    exact cr_any hc pins s σ H _ us Q I rx ⟨a1, bs, rfl, hx, q.now R (.bl _)⟩
theorem snd_sum (hc : X.calm = true) : CallR X (.builtin "sum") (rB X.K (pB .sum)) := by
  intro pins s σ H xs us Q I rx h
  obtain ⟨F, r, S, ds, d, R, ra, e, q⟩ := h
  match ds, ra, e with
  | [.lst z], ra, e =>
    obtain ⟨v, rfl, h⟩ := one_arg ra
    obtain ⟨a1, ys, rfl, hx, tx⟩ := h.lst R
    rw [pB, Option.map_eq_some_iff] at e
    obtain ⟨bs, e1, rfl⟩ := e
    have := (tx.ints e1).1
    subst this
    exact cr_sum hc pins s σ H _ us Q I rx ⟨a1, bs, rfl, hx, q.now R (.int _)⟩
theorem snd_max2 (hc : X.calm = true) : CallR X (.builtin "max") (rB X.K (pB .max2)) := by
  intro pins s σ H xs us Q I rx h
  obtain ⟨F, r, S, ds, d, R, ra, e, q⟩ := h
  match ds, ra, e with
  | [.int i, .int j], ra, e =>
    cases e
    obtain ⟨v, w, rfl, h, h2⟩ := two_args ra
    have e1 := h.int
    have e2 := h2.int
    subst e1 e2
    exact call_max2 hc pins s σ H _ us Q I rx ⟨i, j, rfl, q.now R (.int _)⟩
theorem snd_min2 (hc : X.calm = true) : CallR X (.builtin "min") (rB X.K (pB .min2)) := by
  intro pins s σ H xs us Q I rx h
  obtain ⟨F, r, S, ds, d, R, ra, e, q⟩ := h
  match ds, ra, e with
  | [.int i, .int j], ra, e =>
    cases e
    obtain ⟨v, w, rfl, h, h2⟩ := two_args ra
    have e1 := h.int
    have e2 := h2.int
    subst e1 e2
    exact call_min2 hc pins s σ H _ us Q I rx ⟨i, j, rfl, q.now R (.int _)⟩
theorem snd_abs : CallR X (.builtin "abs") (rB X.K (pB .abs)) := by
  intro pins s σ H xs us Q I rx h
  obtain ⟨F, r, S, ds, d, R, ra, e, q⟩ := h
  match ds, ra, e with
  | [.int i], ra, e =>
    cases e
    obtain ⟨v, rfl, h⟩ := one_arg ra
    have e1 := h.int
    subst e1
    exact call_abs pins s σ H _ us Q I rx ⟨i, rfl, q.now R (.int _)⟩

/-! ### isinstance -/
def tyN : Ty → String
  | .int => "int" | .bool => "bool" | .str => "str" | .tup => "tuple" | .lst => "list"
theorem one_isa {pins : List (Addr × Obj)} {s : Shared} {σ : L2.St} {H : Hp} {F : Hp} {r : List Addr} {S : List Cell} {x : V} {u : Value} {d : D} {t : Ty} {b : Bool} {Q : Value → Shared → Prop} {A : Around} {E : Value → Shared → Prop}
    (I : Inv X pins σ H s) (R : Rel X.K F H r S) (rx : RelV x u) (h : RpW X.K F H r x d) (e : isT t d = some b) (hq : ∀ tk, Q (.bool b) { s with toks := tk }) : wpAny (model X.prog X.w) A (call (.builtin "isinstance") [u, .type (tyN t)]) Q E s := by
  cases d with
  | non =>
    have e1 := h.non
    subst e1
    cases (show u = Value.none from rx)
    cases t <;> simp only [isT, Option.some.injEq] at e <;> subst e <;> exact PySem.W.kia_one PySem.W.kitx_none I.kIn True.intro (kit_ty (by decide +kernel)) (fun z => nomatch z) hq
  | bl k =>
    have e1 := h.bl
    subst e1
    cases (show u = Value.bool k from rx)
    cases t <;> simp only [isT, Option.some.injEq] at e <;> subst e <;> exact PySem.W.kia_one PySem.W.kitx_bool I.kIn True.intro (kit_ty (by decide +kernel)) (fun z => nomatch z) hq
  | int k =>
    have e1 := h.int
    subst e1
    obtain ⟨t1, q⟩ := (show ∃ t, u = Value.int k t from rx)
    cases q
    cases t <;> simp only [isT, Option.some.injEq] at e <;> subst e <;> exact PySem.W.kia_one PySem.W.kitx_int I.kIn True.intro (kit_ty (by decide +kernel)) (fun z => nomatch z) hq
  | str k =>
    have e1 := h.str.1
    subst e1
    obtain ⟨t1, q⟩ := (show ∃ t, u = Value.str _ t from rx)
    cases q
    cases t <;> simp only [isT, Option.some.injEq] at e <;> subst e <;> exact PySem.W.kia_one PySem.W.kitx_str I.kIn True.intro (kit_ty (by decide +kernel)) (fun z => nomatch z) hq
  | tup k =>
    obtain ⟨a1, ys, e1, hx, tx⟩ := h.tup R
    subst e1
    cases (show u = Value.ref a1 from rx)
    obtain ⟨its, rv, ⟨o, h1, h2, _⟩, _⟩ := I.tuple hx
    cases t <;> simp only [isT, Option.some.injEq] at e <;> subst e <;> exact PySem.W.kia_one PySem.W.kitx_tuple I.kIn ⟨o, h1, h2⟩ (kit_ty (by decide +kernel)) (fun z => nomatch z) hq
  | lst k =>
    obtain ⟨a1, ys, e1, hx, tx⟩ := h.lst R
    subst e1
    cases (show u = Value.ref a1 from rx)
    obtain ⟨its, rv, ⟨o, n, h1, h2, _⟩, _⟩ := I.list hx
    cases t <;> simp only [isT, Option.some.injEq] at e <;> subst e <;> exact PySem.W.kia_one PySem.W.kitx_list I.kIn ⟨o, h1, h2⟩ (kit_ty (by decide +kernel)) (fun z => nomatch z) hq
  | loc n => cases t <;> cases e
  | exc c x => cases t <;> cases e
end
end G
end S_GPrim2
section S_GSnd
set_option linter.all false
set_option maxRecDepth 100000
set_option maxHeartbeats 1000000
/-! GSnd: the small language over the judgements of the hand layer. -/
namespace G
open PySem PySem.Spec PyProof.Rows L2

/-! ### readings -/
/-- how an exception of the small language lies -/
abbrev XRel := Nat → D → Value → Option Addr → Hp → Hp → List Addr → Prop
section
variable (K : Fg) (XR : XRel) (W : L2.WX)
def PostE {α : Type} (F H : Hp) (r : List Addr) (σ : L2.St) : Rs α → (α → List Cell → Hp → Hp → List Addr → Prop) → Prop
  | .ok a S', P => ∀ F' H' r', Ext F H r F' H' r' → Rel K F' H' r' S' → P a S' F' H' r'
  | .exc c x S', _ => ∀ F' H' r' cls d, Ext F H r F' H' r' → Rel K F' H' r' S' → XR c x cls d F' H' r' → W cls d σ H'
  | .stk, _ => False
end
section
variable {K : Fg} {XR : XRel} {W : L2.WX} {α β : Type} {F H F1 H1 : Hp} {r r1 : List Addr} {σ : L2.St} {m : Rs α} {f : α → List Cell → Rs β}
theorem PostE.ext {P : α → List Cell → Hp → Hp → List Addr → Prop} (h : PostE K XR W F H r σ m P) (e : Ext F H r F1 H1 r1) : PostE K XR W F1 H1 r1 σ m P := by
  cases m with
  | ok a S => exact fun F' H' r' e' R' => h F' H' r' (e.trans e') R'
  | exc c x S => exact fun F' H' r' cls d e' R' z => h F' H' r' cls d (e.trans e') R' z
  | stk => exact h
theorem PostE.bind {P : β → List Cell → Hp → Hp → List Addr → Prop} (h : PostE K XR W F H r σ (m.bind f) P) : PostE K XR W F H r σ m fun a S1 F1 H1 r1 => PostE K XR W F1 H1 r1 σ (f a S1) P := by
  cases m with
  | ok a S => exact fun F' H' r' e' R' => PostE.ext (m := f a S) h e'
  | exc c x S => exact h
  | stk => exact h
theorem PostE.imp {P P' : α → List Cell → Hp → Hp → List Addr → Prop} (h : PostE K XR W F H r σ m P) (k : ∀ a S' F' H' r', Ext F H r F' H' r' → Rel K F' H' r' S' → P a S' F' H' r' → P' a S' F' H' r') : PostE K XR W F H r σ m P' := by
  cases m with
  | ok a S => exact fun F' H' r' e' R' => k _ _ _ _ _ e' R' (h F' H' r' e' R')
  | exc c x S => exact h
  | stk => exact h
theorem PostE.of {S : List Cell} {o : Option α} {P : α → List Cell → Hp → Hp → List Addr → Prop} (h : PostE K XR W F H r σ (.of S o) P) : ∃ a, o = some a ∧ ∀ F' H' r', Ext F H r F' H' r' → Rel K F' H' r' S → P a S F' H' r' := by
  cases o with
  | none => exact h.elim
  | some a => exact ⟨a, rfl, h⟩
end

def E.isB : E → Bool
  | .b _ => true
  | _ => false
/-- the value: where w, it may be a list of our own -/
def RpX (K : Fg) (w : Bool) (F H : Hp) (r : List Addr) (v : V) (d : D) : Prop := match w with
  | true => RpB K F H r v d
  | false => Rp K F r v d
theorem RpX.b {K : Fg} {w : Bool} {F H : Hp} {r : List Addr} {v : V} {d : D} (h : RpX K w F H r v d) : RpB K F H r v d := by
  cases w with
  | true => exact h
  | false => exact .st h
theorem RpX.ext {K : Fg} {w : Bool} {F H F' H' : Hp} {r r' : List Addr} {v : V} {d : D} (h : RpX K w F H r v d) (e : Ext F H r F' H' r') : RpX K w F' H' r' v d := by
  cases w with
  | true => exact RpB.ext h e
  | false => exact Rp.up e.f e.pre h
abbrev RpXL (K : Fg) (w : Bool) (F H : Hp) (r : List Addr) : List V → List D → Prop := Paired (RpX K w F H r)
section
variable {K : Fg} {w : Bool} {F H F' H' : Hp} {r r' : List Addr} {S : List Cell}
theorem RpXL.ext : ∀ {xs : List V} {ds : List D}, RpXL K w F H r xs ds → Ext F H r F' H' r' → RpXL K w F' H' r' xs ds
  | _, _, .nil, _ => .nil
  | _, _, .cons h t, e => .cons (RpX.ext h e) (RpXL.ext t e)
theorem RpXL.drs (R : Rel K F H r S) : ∀ {xs : List V} {ds : List D}, RpXL K w F H r xs ds → RpWL K F H r xs (ds.map (dr S))
  | _, _, .nil => .nil
  | _, _, .cons h t => .cons ((RpX.b h).dr R) (RpXL.drs R t)
theorem RpXL.pure : ∀ {xs : List V} {ds : List D}, RpXL K false F H r xs ds → ds.all D.pur = true → RpL K F r xs ds
  | _, _, .nil, _ => .nil
  | _, _, .cons h t, p => by
    rw [List.all_cons, Bool.and_eq_true] at p
    exact .cons h p.1 (RpXL.pure t p.2)
theorem RpXL.mono {w' : Bool} (hw : w = true → w' = true) : ∀ {xs : List V} {ds : List D}, RpXL K w F H r xs ds → RpXL K w' F H r xs ds
  | _, _, .nil => .nil
  | _, _, .cons h t => by
    refine .cons ?_ (RpXL.mono hw t)
    cases w' with
    | true => exact RpX.b h
    | false =>
      cases w with
      | true => exact absurd (hw rfl) (by decide)
      | false => exact h
end

section
variable (K : Fg) (XR : XRel) (W : L2.WX) (C : G.Cx)
def tE (e : E) : TE := fun σ H Q => ∃ F r sl S, Rel K F H r S ∧ SlOk K F H r σ sl ∧ PostE K XR W F H r σ (evE C e sl S) fun d S' F' H' r' => ∀ v, RpX K e.isB F' H' r' v d → Q v H'
def tL (w : Bool) (es : List E) : TA := fun σ H Q => ∃ F r sl S, Rel K F H r S ∧ SlOk K F H r σ sl ∧ PostE K XR W F H r σ (evL C es sl S) fun ds S' F' H' r' => ∀ vs, RpXL K w F' H' r' vs ds → Q vs H'
def tT (b : B) : TT := fun σ H Q => ∃ F r sl S, Rel K F H r S ∧ SlOk K F H r σ sl ∧ PostE K XR W F H r σ (evT C b sl S) fun t S' F' H' r' => Q t H'
def tAT (bs : List B) : TT := fun σ H Q => ∃ F r sl S, Rel K F H r S ∧ SlOk K F H r σ sl ∧ PostE K XR W F H r σ (evAndT C bs sl S) fun t S' F' H' r' => Q t H'
def tOT (bs : List B) : TT := fun σ H Q => ∃ F r sl S, Rel K F H r S ∧ SlOk K F H r σ sl ∧ PostE K XR W F H r σ (evOrT C bs sl S) fun t S' F' H' r' => Q t H'
def tAV (es : List E) : TE := fun σ H Q => ∃ F r sl S, Rel K F H r S ∧ SlOk K F H r σ sl ∧ PostE K XR W F H r σ (evAnd C es sl S) fun d S' F' H' r' => ∀ v, Rp K F' r' v d → Q v H'
def tOV (es : List E) : TE := fun σ H Q => ∃ F r sl S, Rel K F H r S ∧ SlOk K F H r σ sl ∧ PostE K XR W F H r σ (evOr C es sl S) fun d S' F' H' r' => ∀ v, Rp K F' r' v d → Q v H'
def tOpt (o : Option E) : TO := fun σ H Q => ∃ F r sl S, Rel K F H r S ∧ SlOk K F H r σ sl ∧ PostE K XR W F H r σ (evO C o sl S) fun i S' F' H' r' => Q i H'
end

/-! ### what is walked -/
def UpW (F : Hp) (r : List Addr) (F' H' : Hp) (r' : List Addr) : Prop := (∀ a o, F a = some o → F' a = some o) ∧ Pre r r'
theorem Ext.w {F H F' H' : Hp} {r r' : List Addr} (e : Ext F H r F' H' r') : UpW F r F' H' r' := ⟨e.f, e.pre⟩
/-- the walk J meets the items ds, in whatever heap comes by Up -/
structure Wk (K : Fg) (Up : Hp → Hp → List Addr → Prop) (J : It) (ds : List D) : Prop where
  go : ∀ (i : Nat) F' H' r' S', Up F' H' r' → Rel K F' H' r' S' → i < ds.length → J.go i H'
  yl : ∀ (i : Nat) d F' H' r' S' x H2, Up F' H' r' → Rel K F' H' r' S' → ds[i]? = some d → J.yld i H' x H2 → ∃ F2, Ext F' H' r' F2 H2 r' ∧ Rel K F2 H2 r' S' ∧ Rp K F2 r' x d
  st : ∀ F' H' r' S', Up F' H' r' → Rel K F' H' r' S' → J.stop ds.length H'
def upOf (w : Bool) (F H : Hp) (r : List Addr) : Hp → Hp → List Addr → Prop := match w with
  | true => Ext F H r
  | false => UpW F r
def tIt (K : Fg) (XR : XRel) (W : L2.WX) (C : G.Cx) (w : Bool) (i : I) : TI := fun σ H R' => ∃ F r sl S, Rel K F H r S ∧ SlOk K F H r σ sl ∧ PostE K XR W F H r σ (evI C i sl S) fun ds S' F' H' r' => ∀ J, Wk K (upOf w F' H' r') J ds → R' J H'
section
variable {K : Fg} {F H : Hp} {r : List Addr} {a : Addr} {xs : List V} {ds : List D}
theorem wk_list (h : SqL K F a xs) (t : RpL K F r xs ds) : Wk K (UpW F r) (Itl K a) ds := by
  refine ⟨fun i F' H' r' S' u R hi => ?_, fun i d F' H' r' S' x H2 u R hi hy => ?_, fun F' H' r' S' u R => ?_⟩
  · have q := R.sql (SqL.up u.1 h)
    have hl : i < xs.length := by rw [t.len]; exact hi
    exact ⟨xs, xs[i], q, List.getElem?_eq_getElem hl⟩
  · obtain ⟨rfl, hy⟩ := hy
    obtain ⟨v, e1, e2, _⟩ := t.get hi
    have e3 := hy xs (R.sql (SqL.up u.1 h))
    rw [e1] at e3
    cases e3
    exact ⟨F', .refl, R, e2.up u.1 u.2⟩
  · exact ⟨xs, R.sql (SqL.up u.1 h), by rw [t.len]; exact Nat.le_refl _⟩
theorem wk_tup (h : SqT K F a xs) (t : RpL K F r xs ds) : Wk K (UpW F r) (Itt K a) ds := by
  refine ⟨fun i F' H' r' S' u R hi => ?_, fun i d F' H' r' S' x H2 u R hi hy => ?_, fun F' H' r' S' u R => ?_⟩
  · have q := R.sqt (SqT.up u.1 h)
    have hl : i < xs.length := by rw [t.len]; exact hi
    exact ⟨xs, xs[i], q, List.getElem?_eq_getElem hl⟩
  · obtain ⟨rfl, hy⟩ := hy
    obtain ⟨v, e1, e2, _⟩ := t.get hi
    have e3 := hy xs (R.sqt (SqT.up u.1 h))
    rw [e1] at e3
    cases e3
    exact ⟨F', .refl, R, e2.up u.1 u.2⟩
  · exact ⟨xs, R.sqt (SqT.up u.1 h), by rw [t.len]; exact Nat.le_refl _⟩
theorem wk_own (m : Mine F H r a xs) (t : RpL K F r xs ds) : Wk K (Ext F H r) (Itl K a) ds := by
  refine ⟨fun i F' H' r' S' u R hi => ?_, fun i d F' H' r' S' x H2 u R hi hy => ?_, fun F' H' r' S' u R => ?_⟩
  · have q : SqL K H' a xs := SqL.of (m.ext u).h
    have hl : i < xs.length := by rw [t.len]; exact hi
    exact ⟨xs, xs[i], q, List.getElem?_eq_getElem hl⟩
  · obtain ⟨rfl, hy⟩ := hy
    obtain ⟨v, e1, e2, _⟩ := t.get hi
    have e3 := hy xs (SqL.of (m.ext u).h)
    rw [e1] at e3
    cases e3
    exact ⟨F', .refl, R, e2.up u.f u.pre⟩
  · exact ⟨xs, SqL.of (m.ext u).h, by rw [t.len]; exact Nat.le_refl _⟩
theorem wk_str (s : List Nat) (h : s.length ≤ lim) : Wk K (UpW F r) (Its ⟨s.toArray⟩) (s.map fun c => .str [c]) := by
  refine ⟨fun i F' H' r' S' u R hi => ?_, fun i d F' H' r' S' x H2 u R hi hy => ?_, fun F' H' r' S' u R => ?_⟩
  · rw [List.length_map] at hi
    exact (by simpa using hi : i < s.toArray.size)
  · obtain ⟨rfl, c, hc, rfl⟩ := hy
    rw [List.getElem?_map, Option.map_eq_some_iff] at hi
    obtain ⟨c', h1, rfl⟩ := hi
    have h2 : s[i]? = some c := by simpa using hc
    rw [h1] at h2
    cases h2
    exact ⟨F', .refl, R, .str [c] (by unfold lim; simp)⟩
  · rw [List.length_map]
    exact (by simp : s.toArray.size ≤ s.length)
theorem upto_len (lo : Int) : ∀ n, (upto lo n).length = n
  | 0 => rfl
  | n + 1 => by
    unfold upto
    rw [List.length_cons, upto_len]
theorem upto_get : ∀ (lo : Int) (n i : Nat), i < n → (upto lo n)[i]? = some (.int (lo + i))
  | lo, 0, i, h => by omega
  | lo, n + 1, 0, h => by simp [upto]
  | lo, n + 1, i + 1, h => by
    unfold upto
    rw [List.getElem?_cons_succ, upto_get (lo + 1) n i (by omega)]
    congr 2
    omega
theorem wk_rng (lo : Int) (n : Nat) : Wk K (UpW F r) (Itr lo n) (upto lo n) := by
  refine ⟨fun i F' H' r' S' u R hi => ?_, fun i d F' H' r' S' x H2 u R hi hy => ?_, fun F' H' r' S' u R => ?_⟩
  · rw [upto_len] at hi
    exact hi
  · obtain ⟨rfl, rfl⟩ := hy
    have hl := (List.getElem?_eq_some_iff.mp hi).1
    rw [upto_len] at hl
    rw [upto_get lo n i hl] at hi
    cases hi
    exact ⟨F', .refl, R, .int _⟩
  · rw [upto_len]
    exact Nat.le_refl _
theorem Wk.up {Up Up' : Hp → Hp → List Addr → Prop} {J : It} (h : Wk K Up J ds) (k : ∀ F' H' r', Up' F' H' r' → Up F' H' r') : Wk K Up' J ds :=
  ⟨fun i F' H' r' S' u R => h.go i F' H' r' S' (k _ _ _ u) R, fun i d F' H' r' S' x H2 u R => h.yl i d F' H' r' S' x H2 (k _ _ _ u) R, fun F' H' r' S' u R => h.st F' H' r' S' (k _ _ _ u) R⟩
theorem Wk.of {w : Bool} {J : It} (h : Wk K (UpW F r) J ds) : Wk K (upOf w F H r) J ds := by
  cases w with
  | true => exact h.up fun _ _ _ e => e.w
  | false => exact h
end
/-- a list, a tuple or a text, walked -/
theorem pi_any {X : L2.Cx} {tg l : Expr} {tl : TE} (hl : PE X l tl) : PI X tg l (fun σ H R => tl σ H fun x H1 => (∃ a, x = .ref a ∧ (∃ xs, SqL X.K H1 a xs) ∧ R (Itl X.K a) H1) ∨ (∃ a, x = .ref a ∧ (∃ xs, SqT X.K H1 a xs) ∧ R (Itt X.K a) H1) ∨ ∃ z, x = .str z ∧ R (Its z) H1) := by
  refine ⟨fun pins s σ H R I h => ?_⟩
  refine thn (hl.run pins s σ H _ I h) fun v s1 ⟨x, H1, I1, r1, q1⟩ => ?_
  rcases q1 with ⟨a, e, ⟨xs, hq⟩, q⟩ | ⟨a, e, ⟨xs, hq⟩, q⟩ | ⟨z, e, q⟩
  · subst e
    cases r1
    obtain ⟨its, rv, p, hz⟩ := I1.list hq
    refine wpAny_pyIter_list p.isList ?_
    refine ⟨s1.heap.objs.size, [s1.heap.objs.size], _, _, H1, rfl, I1.kept (t' := s1.toks) fun b o e => Heap.get?_push_of_some _ e, turn_list a _, ⟨_, Heap.get?_push_size _ rfl, rfl, rfl⟩, fun b hb => ?_, q⟩
    have e : b = s1.heap.objs.size := by simpa using hb
    subst e
    exact I1.fpOk (Nat.le_refl _) (I1.hok.fresh (Nat.le_refl _))
  · subst e
    cases r1
    obtain ⟨its, rv, p, hz⟩ := I1.tuple hq
    refine wpAny_pyIter_tuple (show s1.heap.IsTuple a its.toArray from p) ?_
    refine ⟨s1.heap.objs.size, [s1.heap.objs.size], _, _, H1, rfl, I1.kept (t' := s1.toks) fun b o e => Heap.get?_push_of_some _ e, turn_tuple a _, ⟨_, Heap.get?_push_size _ rfl, rfl, rfl⟩, fun b hb => ?_, q⟩
    have e : b = s1.heap.objs.size := by simpa using hb
    subst e
    exact I1.fpOk (Nat.le_refl _) (I1.hok.fresh (Nat.le_refl _))
  · subst e
    obtain ⟨t, rfl⟩ := r1
    cases ha : z.cps.all (· < 128)
    · exact wpAny_pyIter_wide ha (pi_one (tk := s1.toks) I1 _ (turn_str _ z t "str_iterator" (.inr rfl)) ⟨_, Heap.get?_push_size _ rfl, rfl, rfl⟩ q)
    · exact wpAny_pyIter_ascii ha (pi_one (tk := s1.toks) I1 _ (turn_str _ z t "str_ascii_iterator" (.inl rfl)) ⟨_, Heap.get?_push_size _ rfl, rfl, rfl⟩ q)

/-! ### a def's contract, where no repr runs -/
structure FnG (P : Program) (w : World) (K : Fg) (mg : Str → Option Value) (base : Heap) (CX : CXT) (k : Nat) (f : Addr) (fd : FuncData) (ps : List Str) (sp : Sp) : Prop where
  len : ∀ vs H Q E, sp vs H Q E → vs.length = ps.length
  run : ∀ (A : Around) (outer : List Env) (s : Shared) (H : Hp) (args : Args) (us : List Value) (vs : List V) (Q : VK) (E : XK), A.guards = some [] → Room k A → Env0 P w K mg base A outer s H → BindsTo s fd args (ps.zip us) → Vals vs us → sp vs H Q E →
    codeAny (model P w) A (.call (.ref f) args) (CR CX outer P w H s Q E) s
section
variable {X : L2.Cx} {CX : CXT} {k : Nat} {f : Addr} {fd : FuncData} {ps : List Str} {sp : Sp} {E : L2.St → XK} {x : Str} {p pos : Pos} {e : Expr} {es : List Expr} {t : TA}
theorem run_fnG {pins : List (Addr × Obj)} {σ : L2.St} {H : Hp} {s : Shared} {Q : VK} {us : List Value} {vs : List V} (F : FnG X.prog X.w X.K X.mg X.base CX k f fd ps sp) (hg : X.A.guards = some []) (hr : Room k X.A) (hb : Binds X.K fd ps []) (hx : PassesAt CX X σ (E σ))
    (I : Inv X pins σ H s) (r : Vals vs us) (h : sp vs H Q (E σ)) : wpAny (model X.prog X.w) X.A (call (.ref f) us) (EP X pins σ Q) X.xe s := by
  have hl : us.length = ps.length := by rw [← r.length]; exact F.len _ _ _ _ h
  have b := hb s us I.kIn (by rw [List.append_nil]; exact hl)
  rw [List.append_nil] at b
  refine wpAny_call (codeAny_mono (F.run X.A X.stack s H ⟨us, []⟩ us vs Q (E σ) hg hr I.env0 b r h) fun r s' hq => ?_)
  cases r with
  | error e => exact hx pins H s e s' I hq
  | ok fl =>
    cases fl with
    | ret u => exact I.after hq
    | next => exact False.elim hq
    | brk => exact False.elim hq
    | cont => exact False.elim hq
theorem pe_callG (F : FnG X.prog X.w X.K X.mg X.base CX k f fd ps sp) (hgd : X.A.guards = some []) (hr : Room k X.A) (hg : Gl X x) (hm : X.mg x = some (.ref f)) (hk : PySem.W.keepIn X.K (.ref f) = true) (hb : Binds X.K fd ps []) (hx : ∀ σ, PassesAt CX X σ (E σ))
    (ha : PA X (e :: es) t) (hdb : (x == ("__debug__" : Str)) = false) (he : starEach (e :: es) X.env = (false, eval e X.env) :: starEach es X.env) (hpl : (backTo pos (starEach es X.env)).any (·.1) = false) :
    PE X (.Call (.Name x p) (e :: es) [] pos) (tCallS sp E t) := by
  refine ⟨fun pins s σ H Q I h => ?_⟩
  refine wpAny_Call_Name_kw (ld_glob I hg hm ?_ hdb)
  refine PySem.W.callWith_K (h₀ := X.base) I.ok.mod.kin hk (thn (ha.run pos pins s σ H _ I h) fun us s1 ⟨vs, H1, I1, r, q⟩ => ⟨I1.kIn, ?_⟩) he hpl
  exact run_fnG F hgd hr hb (hx σ) I1 r q
theorem pe_callG0 (F : FnG X.prog X.w X.K X.mg X.base CX k f fd ps sp) (hgd : X.A.guards = some []) (hr : Room k X.A) (hg : Gl X x) (hm : X.mg x = some (.ref f)) (hk : PySem.W.keepIn X.K (.ref f) = true) (hb : Binds X.K fd ps []) (hx : ∀ σ, PassesAt CX X σ (E σ))
    (hdb : (x == ("__debug__" : Str)) = false) : PE X (.Call (.Name x p) [] [] pos) (tCallS sp E tNil) := by
  refine ⟨fun pins s σ H Q I h => ?_⟩
  refine wpAny_Call_Name_kw (ld_glob I hg hm ?_ hdb)
  exact PySem.W.callWith_K0 I.kIn hk (run_fnG (us := []) F hgd hr hb (hx σ) I .nil h)
end
end G
end S_GSnd
section S_GSnd2
set_option linter.all false
set_option maxRecDepth 100000
set_option maxHeartbeats 1000000
/-! GSnd2: the expressions of the small language, one rule each. -/
namespace G
open PySem PySem.Spec PyProof.Rows L2

theorem pe_imp {X : L2.Cx} {ex : Expr} {t t' : TE} (h : PE X ex t) (k : ∀ σ H Q, t' σ H Q → t σ H Q) : PE X ex t' := ⟨fun pins s σ H Q I q => h.run pins s σ H Q I (k σ H Q q)⟩
theorem pt_imp {X : L2.Cx} {ex : Expr} {t t' : TT} (h : PT X ex t) (k : ∀ σ H Q, t' σ H Q → t σ H Q) : PT X ex t' := ⟨fun pins s σ H Q I q => h.run pins s σ H Q I (k σ H Q q)⟩
theorem pw_imp {X : L2.Cx} {ex : Expr} {t t' : TT} (h : PW X ex t) (k : ∀ σ H Q, t' σ H Q → t σ H Q) : PW X ex t' := ⟨fun w pins s σ H Q I q => h.run w pins s σ H Q I (k σ H Q q)⟩
theorem pa_imp {X : L2.Cx} {ex : List Expr} {t t' : TA} (h : PA X ex t) (k : ∀ σ H Q, t' σ H Q → t σ H Q) : PA X ex t' := ⟨fun w pins s σ H Q I q => h.run w pins s σ H Q I (k σ H Q q)⟩
theorem po_imp {X : L2.Cx} {ex : Option Expr} {t t' : TO} (h : PO X ex t) (k : ∀ σ H Q, t' σ H Q → t σ H Q) : PO X ex t' := ⟨fun pins s σ H Q I q => h.run pins s σ H Q I (k σ H Q q)⟩
theorem pi_imp {X : L2.Cx} {tg ex : Expr} {t t' : TI} (h : PI X tg ex t) (k : ∀ σ H Q, t' σ H Q → t σ H Q) : PI X tg ex t' := ⟨fun pins s σ H Q I q => h.run pins s σ H Q I (k σ H Q q)⟩

/-! ### new lists -/
section
variable {K : Fg} {F H : Hp} {r : List Addr} {S : List Cell} {p : Addr} {xs : List V} {ds : List D} {d : D} {Q : VK} {σ : L2.St} {sl : List Sl}
theorem Ext.add (R : Rel K F H r S) {o : HO} (hp : H p = none) : Ext F H r F (upd H p o) r := by
  refine ⟨fun _ _ h => h, fun a o' h n => ?_, fun a o' h _ => ?_, fun a o' h => ?_, [], by simp, fun a h => nomatch h⟩
  · rw [n] at h
    cases h
  · rw [upd_ne (ne_of_none h hp)]
    exact h
  · exact ⟨o', by rw [upd_ne (ne_of_none h hp)]; exact h⟩
theorem Rel.nr (R : Rel K F H r S) (hp : H p = none) : p ∉ r := fun z => by
  obtain ⟨o, q⟩ := R.there z
  rw [hp] at q
  cases q
theorem Rel.nF (R : Rel K F H r S) (hp : H p = none) : F p = none := by
  cases q : F p with
  | none => rfl
  | some o =>
    have z := R.sub p o q
    rw [hp] at z
    cases z
/-- an address that is neither a cell's nor among what stays, written -/
theorem Rel.put (R : Rel K F H r S) {o : HO} (hf : F p = none) (hr : p ∉ r) : Rel K F (upd H p o) r S := by
  refine ⟨fun a o' h => ?_, R.len, R.inj, R.nf, fun i a c h1 h2 => ?_⟩
  · have ne : a ≠ p := fun z => by
      rw [z, hf] at h
      cases h
    rw [upd_ne ne]
    exact R.sub a o' h
  · have ne : a ≠ p := fun z => hr (z ▸ mem_r h1)
    have k := R.cell i a c h1 h2
    cases c with
    | lst ds =>
      obtain ⟨xs, e1, e2⟩ := k
      exact ⟨xs, by rw [upd_ne ne]; exact e1, e2⟩
    | lsx ds =>
      obtain ⟨xs, e1, e2⟩ := k
      exact ⟨xs, by rw [upd_ne ne]; exact e1, e2⟩
    | dki ds =>
      obtain ⟨xs, e1, e2⟩ := k
      exact ⟨xs, by rw [upd_ne ne]; exact e1, e2⟩
    | dead =>
      obtain ⟨o', e1⟩ := k
      exact ⟨o', by rw [upd_ne ne]; exact e1⟩
theorem Rel.mine (R : Rel K F H r S) (hp : H p = none) : Mine F (upd H p (.lst xs)) r p xs := ⟨upd_same, R.nF hp, R.nr hp⟩
/-- a list of our own becomes data -/
theorem Rel.frz (R : Rel K F H r S) (m : Mine F H r p xs) : Rel K (upd F p (.lst xs)) H r S := by
  refine ⟨fun a o h => ?_, R.len, R.inj, fun i a h => ?_, fun i a c h1 h2 => ?_⟩
  · by_cases z : a = p
    · subst z
      rw [upd_same] at h
      cases h
      exact m.h
    · rw [upd_ne z] at h
      exact R.sub a o h
  · rw [upd_ne fun z => m.r (by rw [← z]; exact mem_r h)]
    exact R.nf i a h
  · have up : ∀ b o, F b = some o → upd F p (.lst xs) b = some o := fun b o h => by
      rw [upd_ne fun z => by rw [z, m.f] at h; cases h]
      exact h
    have k := R.cell i a c h1 h2
    cases c with
    | lst ds =>
      obtain ⟨xs, e1, e2⟩ := k
      exact ⟨xs, e1, e2.up up (Pre.refl _)⟩
    | lsx ds =>
      obtain ⟨xs, e1, e2⟩ := k
      exact ⟨xs, e1, RpM.up up (Pre.refl _) e2⟩
    | dki ds =>
      obtain ⟨xs, e1, e2⟩ := k
      exact ⟨xs, e1, RpK.up up (Pre.refl _) e2⟩
    | dead => exact k
theorem Mine.up {F : Hp} (m : Mine F H r p xs) : ∀ b o, F b = some o → upd F p (.lst xs) b = some o := fun b o h => by
  rw [upd_ne fun z => by rw [z, m.f] at h; cases h]
  exact h

/-- what follows with a value; a list is one of our own, new to H0 -/
def FrX (K : Fg) (H0 F H : Hp) (r : List Addr) : D → VK → Prop
  | .lst ds, Q => ∀ p xs, RpL K F r xs ds → Mine F H r p xs → H0 p = none → Q (.ref p) H
  | d, Q => ∀ v, Rp K F r v d → Q v H
theorem Ext.frz {F0 H0 : Hp} {r0 : List Addr} (e : Ext F0 H0 r0 F H r) (m : Mine F H r p xs) (n : H0 p = none) : Ext F0 H0 r0 (upd F p (.lst xs)) H r := by
  refine ⟨fun a o h => m.up _ _ (e.f a o h), fun a o h hn => ?_, e.h, e.t, e.p⟩
  by_cases z : a = p
  · subst z
    exact n
  · rw [upd_ne z] at h
    exact e.fn a o h hn
theorem FrX.of {F0 H0 : Hp} {r0 : List Addr} (e : Ext F0 H0 r0 F H r) (R : Rel K F H r S) (q : ∀ F' H' r', Ext F0 H0 r0 F' H' r' → Rel K F' H' r' S → ∀ v, Rp K F' r' v d → Q v H') : FrX K H0 F H r d Q := by
  cases d with
  | lst ds => exact fun p xs h m n => q _ _ _ (e.frz m n) (R.frz m) _ (.lst (SqL.of upd_same) (h.up m.up (Pre.refl _)))
  | _ => exact q F H r e R
/-- a new list by Res -/
theorem FrX.res {F0 H0 : Hp} {r0 : List Addr} (e : Ext F0 H0 r0 F H r) (R : Rel K F H r S) (q : ∀ F' H' r', Ext F H r F' H' r' → Rel K F' H' r' S → FrX K H0 F' H' r' d Q) : ResX K F H r S d Q := by
  have go : (∀ ds, d ≠ .lst ds) → Res K F H r S d Q := fun n v F' H' r' e' R' h => by
    have z := q F' H' r' e' R'
    cases d with
    | lst ds => exact absurd rfl (n ds)
    | _ => exact z v h
  cases d with
  | lst ds => exact fun p xs h hp => q _ _ _ (Ext.add R hp) (R.put (R.nF hp) (R.nr hp)) p xs h (R.mine hp) (e.free hp)
  | _ => exact go (fun _ z => nomatch z)
end

section
variable (K : Fg) (XR : XRel) (W : L2.WX) (C : G.Cx)
def tEX (e : E) : TE := fun σ H Q => ∃ F r sl S, Rel K F H r S ∧ SlOk K F H r σ sl ∧ PostE K XR W F H r σ (evE C e sl S) fun d S' F' H' r' => FrX K H F' H' r' d Q
end
section
variable {K : Fg} {XR : XRel} {W : L2.WX} {C : G.Cx}
theorem tE.x {e : E} (hb : e.isB = false) (σ : L2.St) (H : Hp) (Q : VK) (h : tE K XR W C e σ H Q) : tEX K XR W C e σ H Q := by
  obtain ⟨F, r, sl, S, R, so, h⟩ := h
  refine ⟨F, r, sl, S, R, so, ?_⟩
  rw [hb] at h
  generalize evE C e sl S = m at h ⊢
  cases m with
  | ok d S' => exact fun F' H' r' e' R' => FrX.of e' R' h
  | exc c x S' => exact h
  | stk => exact h
theorem tE.pl {e : E} (hb : e.isB = false) {σ : L2.St} {H : Hp} {Q : VK} (h : tE K XR W C e σ H Q) : ∃ F r sl S, Rel K F H r S ∧ SlOk K F H r σ sl ∧ PostE K XR W F H r σ (evE C e sl S) fun d S' F' H' r' => ∀ v, Rp K F' r' v d → Q v H' := by
  unfold tE at h
  rw [hb] at h
  exact h

section
variable {F H : Hp} {r : List Addr} {σ : L2.St} {sl : List Sl} {S : List Cell} {a b c : E} {es : List E} {α : Type} {P : α → List Cell → Hp → Hp → List Addr → Prop}
theorem tE.one {m : D → List Cell → Rs α} {G : V → Hp → Prop} (h : PostE K XR W F H r σ ((evE C a sl S).bind m) P) (R : Rel K F H r S) (so : SlOk K F H r σ sl)
    (k : ∀ x d F' H' r' S', Ext F H r F' H' r' → Rel K F' H' r' S' → RpX K a.isB F' H' r' x d → PostE K XR W F' H' r' σ (m d S') P → G x H') : tE K XR W C a σ H G :=
  ⟨F, r, sl, S, R, so, PostE.imp h.bind fun d S1 F1 H1 r1 e1 R1 h1 v hv => k v d F1 H1 r1 S1 e1 R1 hv h1⟩
theorem tE.two {m : D → D → List Cell → Rs α} {G : V → V → Hp → Prop} (h : PostE K XR W F H r σ ((evE C a sl S).bind fun x S => (evE C b sl S).bind fun y S => m x y S) P) (R : Rel K F H r S) (so : SlOk K F H r σ sl)
    (k : ∀ x y d e F' H' r' S', Ext F H r F' H' r' → Rel K F' H' r' S' → RpX K a.isB F' H' r' x d → RpX K b.isB F' H' r' y e → PostE K XR W F' H' r' σ (m d e S') P → G x y H') : tE K XR W C a σ H fun x H1 => tE K XR W C b σ H1 fun y H2 => G x y H2 :=
  tE.one h R so fun x d F1 H1 r1 S1 e1 R1 rx h1 => tE.one h1 R1 (so.ext e1) fun y e F2 H2 r2 S2 e2 R2 ry h2 => k x y d e F2 H2 r2 S2 (e1.trans e2) R2 (rx.ext e2) ry h2
theorem tL.one {w : Bool} {m : List D → List Cell → Rs α} {G : List V → Hp → Prop} (h : PostE K XR W F H r σ ((evL C es sl S).bind m) P) (R : Rel K F H r S) (so : SlOk K F H r σ sl)
    (k : ∀ xs ds F' H' r' S', Ext F H r F' H' r' → Rel K F' H' r' S' → RpXL K w F' H' r' xs ds → PostE K XR W F' H' r' σ (m ds S') P → G xs H') : tL K XR W C w es σ H G :=
  ⟨F, r, sl, S, R, so, PostE.imp h.bind fun d S1 F1 H1 r1 e1 R1 h1 v hv => k v d F1 H1 r1 S1 e1 R1 hv h1⟩
theorem tT.one {b : B} {m : Bool → List Cell → Rs α} {G : Bool → Hp → Prop} (h : PostE K XR W F H r σ ((evT C b sl S).bind m) P) (R : Rel K F H r S) (so : SlOk K F H r σ sl)
    (k : ∀ t F' H' r' S', Ext F H r F' H' r' → Rel K F' H' r' S' → PostE K XR W F' H' r' σ (m t S') P → G t H') : tT K XR W C b σ H G :=
  ⟨F, r, sl, S, R, so, PostE.imp h.bind fun d S1 F1 H1 r1 e1 R1 h1 => k d F1 H1 r1 S1 e1 R1 h1⟩
theorem tOpt.one {o : Option E} {m : Option Int → List Cell → Rs α} {G : Option Int → Hp → Prop} (h : PostE K XR W F H r σ ((evO C o sl S).bind m) P) (R : Rel K F H r S) (so : SlOk K F H r σ sl)
    (k : ∀ t F' H' r' S', Ext F H r F' H' r' → Rel K F' H' r' S' → PostE K XR W F' H' r' σ (m t S') P → G t H') : tOpt K XR W C o σ H G :=
  ⟨F, r, sl, S, R, so, PostE.imp h.bind fun d S1 F1 H1 r1 e1 R1 h1 => k d F1 H1 r1 S1 e1 R1 h1⟩
end

/-! ### the rules -/
section
variable {X : L2.Cx} {pos : Pos} {a b c : E} {xa xb xc : Expr}
theorem e_bin {o : Op2} (ha : PE X xa (tE X.K XR W C a)) (hb : PE X xb (tE X.K XR W C b)) : PE X (.BinOp xa (opM o) xb pos) (tEX X.K XR W C (.bin o a b)) := by
  refine pe_imp (pe_op (snd_bin o) ha hb) fun σ H Q ⟨F, r, sl, S, R, so, h⟩ => ?_
  unfold evE at h
  refine tE.two h R so fun x y d e F' H' r' S' ex R' rx ry h' => ?_
  obtain ⟨z, hz, q⟩ := h'.of
  exact ⟨F', r', S', _, _, z, R', rx.b.dr R', ry.b.dr R', hz, FrX.res ex R' q⟩
end
end
end G
end S_GSnd2
section S_GSnd3
set_option linter.all false
set_option maxRecDepth 100000
set_option maxHeartbeats 1000000
/-! GSnd3: more rules. -/
namespace G
open PySem PySem.Spec PyProof.Rows L2

/-! ### forms -/
def noStar : Expr → Bool
  | .Starred .. => false
  | _ => true
theorem star_cons {e : Expr} {es : List Expr} {env : Env} (h : noStar e = true) : starEach (e :: es) env = (false, eval e env) :: starEach es env := by
  cases e <;> first | rfl | cases h
theorem star_any {env : Env} {pos : Pos} : ∀ {es : List Expr}, es.all noStar = true → (backTo pos (starEach es env)).any (·.1) = false
  | [], _ => rfl
  | e :: es, h => by
    rw [List.all_cons, Bool.and_eq_true] at h
    rw [star_cons h.1]
    show (false || (backTo pos (starEach es env)).any (·.1)) = false
    rw [star_any h.2]
    rfl
theorem star_all {env : Env} {pos : Pos} : ∀ {es : List Expr}, es.all noStar = true → (backTo pos (starEach es env)).all (fun x => !x.1) = true
  | [], _ => rfl
  | e :: es, h => by
    rw [List.all_cons, Bool.and_eq_true] at h
    rw [star_cons h.1]
    show (true && (backTo pos (starEach es env)).all fun x => !x.1) = true
    rw [star_all h.2]
    rfl
theorem asg_cons {e : Expr} {es : List Expr} {env : Env} (h : noStar e = true) : assignEach (e :: es) env = (false, assign e env) :: assignEach es env := by
  cases e <;> first | rfl | cases h
def isSetX : Expr → Bool
  | .Set .. => true
  | _ => false
theorem set_behind {e : Expr} {op : CmpOp} (h : isSetX e = false) : behindInMarks op e = false := by
  cases e <;> first | rfl | cases h
theorem set_folded {e : Expr} {env : Env} (h : isSetX e = false) (x : Value) : foldedSetIterable e env x = pure x := by
  cases e <;> first | rfl | cases h
theorem set_last {b c : Expr} {o o' : CmpOp} (h : isSetX c = false) : lastMarks [o, o'] [b, c] = false := by
  show behindInMarks o' c = false
  exact set_behind h
def isSliceX : Expr → Bool
  | .Slice .. => true
  | _ => false
theorem slice_plain {e : Expr} (h : isSliceX e = false) : PlainIx e := by
  cases e <;> first | exact fun _ _ => rfl | cases h

section
variable {K : Fg} {F H : Hp} {r : List Addr} {S : List Cell} {v : V} {d : D} {k : Bool}
theorem tru_of (R : Rel K F H r S) (h : RpW K F H r v d) (e : truthy d = some k) : TruV K v H k := by
  cases d with
  | non =>
    cases h.non
    cases e
    rfl
  | bl b =>
    cases h.bl
    cases e
    rfl
  | int i =>
    cases h.int
    cases e
    rfl
  | str s =>
    obtain ⟨rfl, hl⟩ := h.str
    have e : some (!s.isEmpty) = some k := e
    cases e
    refine ⟨?_, ?_⟩
    · show s.toArray.size ≤ sizeLine
      rw [← lim_eq, List.size_toArray]
      exact hl
    · show (!s.isEmpty) = ((s.toArray.size : Int) != 0)
      rw [List.size_toArray]
      cases s <;> rfl
  | tup ds =>
    obtain ⟨a, xs, rfl, hx, tx⟩ := h.tup R
    have e : some (!ds.isEmpty) = some k := e
    cases e
    refine .inr (.inl ⟨xs, hx, ?_⟩)
    cases tx <;> rfl
  | lst ds =>
    obtain ⟨a, xs, rfl, hx, tx⟩ := h.lst R
    have e : some (!ds.isEmpty) = some k := e
    cases e
    refine .inl ⟨xs, hx, ?_⟩
    cases tx <;> rfl
  | loc n => cases e
  | exc c x => cases e
end
theorem Rs.len {C : G.Cx} {sl : List Sl} : ∀ {es : List E} {S S' : List Cell} {ds : List D}, evL C es sl S = .ok ds S' → ds.length = es.length
  | [], S, S', ds, h => by
    unfold evL at h
    cases h
    rfl
  | e :: es, S, S', ds, h => by
    unfold evL at h
    cases h1 : evE C e sl S with
    | ok d S1 =>
      rw [h1] at h
      have h : ((evL C es sl S1).bind fun ds S => .ok (d :: ds) S) = .ok ds S' := h
      cases h2 : evL C es sl S1 with
      | ok es2 S2 =>
        rw [h2] at h
        cases h
        rw [List.length_cons, List.length_cons, Rs.len h2]
      | exc _ _ _ => rw [h2] at h; cases h
      | stk => rw [h2] at h; cases h
    | exc _ _ _ => rw [h1] at h; cases h
    | stk => rw [h1] at h; cases h
theorem tL.oneN {K : Fg} {XR : XRel} {W : L2.WX} {C : G.Cx} {F H : Hp} {r : List Addr} {σ : L2.St} {sl : List Sl} {S : List Cell} {es : List E} {α : Type} {P : α → List Cell → Hp → Hp → List Addr → Prop} {w : Bool} {m : List D → List Cell → Rs α} {G : List V → Hp → Prop} (h : PostE K XR W F H r σ ((evL C es sl S).bind m) P) (R : Rel K F H r S) (so : SlOk K F H r σ sl)
    (k : ∀ xs ds F' H' r' S', ds.length = es.length → Ext F H r F' H' r' → Rel K F' H' r' S' → RpXL K w F' H' r' xs ds → PostE K XR W F' H' r' σ (m ds S') P → G xs H') : tL K XR W C w es σ H G := by
  refine ⟨F, r, sl, S, R, so, ?_⟩
  have h1 := h.bind
  cases hv : evL C es sl S with
  | ok ds S' =>
    rw [hv] at h1
    exact fun F' H' r' e' R' v hv' => k v ds F' H' r' S' (Rs.len hv) e' R' hv' (h1 F' H' r' e' R')
  | exc c x S' =>
    rw [hv] at h1
    exact h1
  | stk =>
    rw [hv] at h1
    exact h1

def kOk : D → Const → Bool
  | .non, .none => true
  | .bl b, .bool b' => b == b'
  | .int i, .int j => decide (i = j)
  | .str s, .str x => decide (x = ⟨s.toArray⟩) && decide (s.length ≤ lim)
  | _, _ => false

section
variable {XR : XRel} {W : L2.WX} {C : G.Cx} {X : L2.Cx} {pos : Pos} {a b c : E} {xa xb xc : Expr} {es : List E} {xs : List Expr}
theorem e_k {d : D} {k : Const} {j : Nat} (h : kOk d k = true) : PE X (.Constant k j pos) (tE X.K XR W C (.k d)) := by
  cases d with
  | non =>
    cases k <;> first | cases h | skip
    exact pe_imp pe_non fun σ H Q ⟨F, r, sl, S, R, so, h⟩ => h F H r .refl R _ .non
  | bl b =>
    cases k <;> first | cases h | skip
    rename_i b'
    have e : b = b' := by simpa [kOk] using h
    subst e
    exact pe_imp pe_bl fun σ H Q ⟨F, r, sl, S, R, so, h⟩ => h F H r .refl R _ (.bl _)
  | int i =>
    cases k <;> first | cases h | skip
    rename_i j
    have e : i = j := by simpa [kOk] using h
    subst e
    exact pe_imp pe_int fun σ H Q ⟨F, r, sl, S, R, so, h⟩ => h F H r .refl R _ (.int _)
  | str s =>
    cases k <;> first | cases h | skip
    rename_i x
    simp only [kOk, Bool.and_eq_true, decide_eq_true_eq] at h
    obtain ⟨rfl, hl⟩ := h
    exact pe_imp pe_str fun σ H Q ⟨F, r, sl, S, R, so, h⟩ => h F H r .refl R _ (.str _ hl)
  | _ => cases k <;> cases h
theorem e_v {i : Nat} {x : Str} (hN : X.N[i]? = some x) (hv : Vis X.env.scope x) (hd : (x == ("__debug__" : Str)) = false) (hcd : (x == ("__classdict__" : Str)) = false) : PE X (.Name x pos) (tE X.K XR W C (.v i)) := by
  refine pe_imp (pe_var hN hv hd hcd) fun σ H Q ⟨F, r, sl, S, R, so, h⟩ => ?_
  unfold evE at h
  cases hs : sl[i]? with
  | none => rw [hs] at h; exact h.elim
  | some y =>
    rw [hs] at h
    cases y with
    | v d =>
      obtain ⟨x, e1, e2⟩ := so.v i d hs
      exact ⟨x, e1, h F H r .refl R _ e2⟩
    | nil => exact h.elim
    | own _ => exact h.elim
theorem e_b {i : Nat} {x : Str} (hN : X.N[i]? = some x) (hv : Vis X.env.scope x) (hd : (x == ("__debug__" : Str)) = false) (hcd : (x == ("__classdict__" : Str)) = false) : PE X (.Name x pos) (tE X.K XR W C (.b i)) := by
  refine pe_imp (pe_var hN hv hd hcd) fun σ H Q ⟨F, r, sl, S, R, so, h⟩ => ?_
  unfold evE at h
  cases hs : sl[i]? with
  | none => rw [hs] at h; exact h.elim
  | some y =>
    rw [hs] at h
    cases y with
    | v d =>
      obtain ⟨x, e1, e2⟩ := so.v i d hs
      exact ⟨x, e1, h F H r .refl R _ (RpB.st e2)⟩
    | nil => exact h.elim
    | own ds =>
      obtain ⟨p, xs, e1, e2, e3, e4, e5⟩ := so.own i ds hs
      exact ⟨.ref p, e1, h F H r .refl R _ (RpB.ow ⟨e2, e3, e4⟩ e5)⟩
theorem e_g {n : Nat} {x : Str} {v : V} {u : Value} (hg : Gl X x) (hm : X.mg x = some u) (rv : RelV v u) (hd : (x == ("__debug__" : Str)) = false) (hk : ∀ d F r, C.glob n = some d → Rp X.K F r v d) : PE X (.Name x pos) (tE X.K XR W C (.g n)) := by
  refine pe_imp (pe_glob hg hm rv hd) fun σ H Q ⟨F, r, sl, S, R, so, h⟩ => ?_
  unfold evE at h
  obtain ⟨d, hd, q⟩ := PostE.of h
  exact q F H r .refl R _ (hk d F r hd)
theorem e_tup {k : Nat} (hn : es.length ≤ 1000) (hs : PA X xs (tL X.K XR W C false es)) : PE X (.Tuple xs k pos) (tE X.K XR W C (.tup es)) := by
  refine pe_imp (pe_tup hs) fun σ H Q ⟨F, r, sl, S, R, so, h⟩ => ?_
  unfold evE at h
  refine tL.oneN h R so fun vs ds F' H' r' S' hl ex R' rx h' => ?_
  by_cases hp : ds.all D.pur = true
  · rw [if_pos hp] at h'
    have t := rx.pure hp
    refine ⟨?_, fun p hp => ?_⟩
    · rw [t.len, hl, ← lim_eq]
      unfold lim
      omega
    · have e : Ext F' H' r' (upd F' p (.tup vs)) (upd H' p (.tup vs)) r' := Ext.new R' hp
      exact h' _ _ _ e (R'.new hp) _ (.tup (SqT.of upd_same) (t.up e.f e.pre))
  · rw [if_neg hp] at h'
    exact h'.elim
theorem e_lst (hn : es.length ≤ 1000) (hs : PA X xs (tL X.K XR W C false es)) : PE X (.List xs pos) (tEX X.K XR W C (.lst es)) := by
  refine pe_imp (pe_lst hs) fun σ H Q ⟨F, r, sl, S, R, so, h⟩ => ?_
  unfold evE at h
  refine tL.oneN h R so fun vs ds F' H' r' S' hl ex R' rx h' => ?_
  by_cases hp : ds.all D.pur = true
  · rw [if_pos hp] at h'
    have t := rx.pure hp
    refine ⟨?_, fun p hp => ?_⟩
    · rw [t.len, hl, ← lim_eq]
      unfold lim
      omega
    · exact h' _ _ _ (Ext.add R' hp) (R'.put (R'.nF hp) (R'.nr hp)) p vs t (R'.mine hp) (ex.free hp)
  · rw [if_neg hp] at h'
    exact h'.elim
theorem Rel.cel {K : Fg} {F H : Hp} {r : List Addr} {S : List Cell} {p : Addr} {vs : List V} {ds : List D} (R : Rel K F H r S) (hp : H p = none) (t : RpL K F r vs ds) : Ext F H r F (upd H p (.lst vs)) (r ++ [p]) ∧ Rel K F (upd H p (.lst vs)) (r ++ [p]) (S ++ [.lst ds]) ∧ (r ++ [p])[S.length]? = some p := by
  have e : Ext F H r F (upd H p (.lst vs)) (r ++ [p]) := by
    have e0 := Ext.add (o := .lst vs) R hp
    exact ⟨e0.f, e0.fn, e0.h, e0.t, [p], rfl, fun a h => by rw [List.mem_singleton.mp h]; exact hp⟩
  have R0 : Rel K F (upd H p (.lst vs)) r S := R.put (R.nF hp) (R.nr hp)
  have at_ : (r ++ [p])[r.length]? = some p := by simp
  refine ⟨e, ⟨R0.sub, by rw [List.length_append, List.length_append, R.len]; rfl, fun i j a h1 h2 => ?_, fun i a h1 => ?_, fun i a c h1 h2 => ?_⟩, by rw [← R.len]; exact at_⟩
  · have bd : ∀ i, (r ++ [p])[i]? = some a → (i < r.length ∧ r[i]? = some a) ∨ (i = r.length ∧ a = p) := fun i h => by
      by_cases hi : i < r.length
      · rw [List.getElem?_append_left hi] at h
        exact .inl ⟨hi, h⟩
      · obtain ⟨hl, _⟩ := List.getElem?_eq_some_iff.mp h
        rw [List.length_append, List.length_singleton] at hl
        have e : i = r.length := by omega
        subst e
        rw [at_] at h
        cases h
        exact .inr ⟨rfl, rfl⟩
    rcases bd i h1 with ⟨hi, g1⟩ | ⟨hi, g1⟩ <;> rcases bd j h2 with ⟨hj, g2⟩ | ⟨hj, g2⟩
    · exact R.inj i j a g1 g2
    · subst g2
      exact absurd (mem_r g1) (R.nr hp)
    · subst g1
      exact absurd (mem_r g2) (R.nr hp)
    · omega
  · by_cases hi : i < r.length
    · rw [List.getElem?_append_left hi] at h1
      exact R.nf i a h1
    · obtain ⟨hl, _⟩ := List.getElem?_eq_some_iff.mp h1
      rw [List.length_append, List.length_singleton] at hl
      have e : i = r.length := by omega
      subst e
      rw [at_] at h1
      cases h1
      exact R.nF hp
  · have pre : Pre r (r ++ [p]) := ⟨[p], rfl⟩
    by_cases hi : i < r.length
    · rw [List.getElem?_append_left hi] at h1
      rw [List.getElem?_append_left (by rw [← R.len]; exact hi)] at h2
      have k := R0.cell i a c h1 h2
      cases c with
      | lst ds =>
        obtain ⟨xs, e1, e2⟩ := k
        exact ⟨xs, e1, e2.up (fun _ _ h => h) pre⟩
      | lsx ds =>
        obtain ⟨xs, e1, e2⟩ := k
        exact ⟨xs, e1, RpM.up (fun _ _ h => h) pre e2⟩
      | dki ds =>
        obtain ⟨xs, e1, e2⟩ := k
        exact ⟨xs, e1, RpK.up (fun _ _ h => h) pre e2⟩
      | dead => exact k
    · obtain ⟨hl, _⟩ := List.getElem?_eq_some_iff.mp h1
      rw [List.length_append, List.length_singleton] at hl
      have ei : i = r.length := by omega
      subst ei
      rw [at_] at h1
      cases h1
      rw [R.len] at h2
      rw [show (S ++ [Cell.lst ds])[S.length]? = some (.lst ds) by simp] at h2
      cases h2
      exact ⟨vs, upd_same, t.up (fun _ _ h => h) pre⟩
theorem e_mk (hn : es.length ≤ 1000) (hs : PA X xs (tL X.K XR W C false es)) : PE X (.List xs pos) (tE X.K XR W C (.mk es)) := by
  refine pe_imp (pe_lst hs) fun σ H Q ⟨F, r, sl, S, R, so, h⟩ => ?_
  unfold evE at h
  refine tL.oneN h R so fun vs ds F' H' r' S' hl ex R' rx h' => ?_
  by_cases hp : ds.all D.pur = true
  · rw [if_pos hp] at h'
    have t := rx.pure hp
    refine ⟨?_, fun p hp => ?_⟩
    · rw [t.len, hl, ← lim_eq]
      unfold lim
      omega
    · obtain ⟨e, R2, at_⟩ := R'.cel hp t
      exact h' _ _ _ e R2 _ (.loc at_)
  · rw [if_neg hp] at h'
    exact h'.elim
theorem e_neg (hb : a.isB = false) (ha : PE X xa (tE X.K XR W C a)) : PE X (.UnaryOp .USub xa pos) (tE X.K XR W C (.neg a)) := by
  refine pe_imp (pe_un un_neg ha) fun σ H Q ⟨F, r, sl, S, R, so, h⟩ => ?_
  unfold evE at h
  refine tE.one h R so fun x d F' H' r' S' ex R' rx h' => ?_
  cases d with
  | int i =>
    cases rx.b.w.int
    exact ⟨i, rfl, h' F' H' r' .refl R' _ (.int _)⟩
  | _ => exact h'.elim
theorem e_cmp {o : Cm} (hu : X.A.units + 200 < cLine) (hy : isSetX xb = false) (ha : PE X xa (tE X.K XR W C a)) (hb : PE X xb (tE X.K XR W C b)) : PE X (.Compare xa [cmM o] [xb] pos) (tE X.K XR W C (.cmp o a b)) := by
  refine pe_imp (pe_cmpR (snd_cmp o hu) ha hb (set_behind hy)) fun σ H Q ⟨F, r, sl, S, R, so, h⟩ => ?_
  unfold evE at h
  refine tE.two h R so fun x y d e F' H' r' S' ex R' rx ry h' => ?_
  obtain ⟨z, hz, q⟩ := h'.of
  exact ⟨F', r', S', _, _, z, R', rx.b.dr R', ry.b.dr R', hz, fun v F2 H2 r2 e2 R2 hv => q F2 H2 r2 e2 R2 v hv⟩
/-- a comparison of values, as a test -/
theorem t_cmp {o : Cm} (hu : X.A.units + 200 < cLine) (hy : isSetX xb = false) (ha : PE X xa (tE X.K XR W C a)) (hb : PE X xb (tE X.K XR W C b)) : PT X (.Compare xa [cmM o] [xb] pos) (tT X.K XR W C (.tr (.cmp o a b))) := by
  refine pt_imp (pt_cmpR (snd_cmp o hu) ha hb (set_behind hy)) fun σ H Q ⟨F, r, sl, S, R, so, h⟩ => ?_
  unfold evT evE at h
  have h : PostE X.K XR W F H r σ ((evE C a sl S).bind fun x S => (evE C b sl S).bind fun y S => (Rs.of S ((pCmp o (dr S x) (dr S y)).map D.bl)).bind fun d S => .of S (truthy (dr S d))) fun t S' F' H' r' => Q t H' := by
    generalize evE C a sl S = m at h ⊢
    cases m with
    | ok d S' =>
      have h : PostE X.K XR W F H r σ (((evE C b sl S').bind fun y S => Rs.of S ((pCmp o (dr S d) (dr S y)).map D.bl)).bind fun d S => .of S (truthy (dr S d))) fun t S' F' H' r' => Q t H' := h
      show PostE X.K XR W F H r σ ((evE C b sl S').bind fun y S => (Rs.of S ((pCmp o (dr S d) (dr S y)).map D.bl)).bind fun d S => .of S (truthy (dr S d))) fun t S' F' H' r' => Q t H'
      generalize evE C b sl S' = m at h ⊢
      cases m <;> exact h
    | exc _ _ _ => exact h
    | stk => exact h
  refine tE.two h R so fun x y d e F' H' r' S' ex R' rx ry h' => ?_
  cases hz : pCmp o (dr S' d) (dr S' e) with
  | none => rw [hz] at h'; exact h'.elim
  | some k =>
    rw [hz] at h'
    refine ⟨F', r', S', _, _, .bl k, R', rx.b.dr R', ry.b.dr R', congrArg (Option.map D.bl) hz, fun v F2 H2 r2 e2 R2 hv => ?_⟩
    cases hv
    exact ⟨k, rfl, h' F2 H2 r2 e2 R2⟩
theorem e_chn {o o' : Cm} (hu : X.A.units + 200 < cLine) (hy : isSetX xc = false) (ha : PE X xa (tE X.K XR W C a)) (hb : PE X xb (tE X.K XR W C b)) (hc : PE X xc (tE X.K XR W C c)) : PE X (.Compare xa [cmM o, cmM o'] [xb, xc] pos) (tE X.K XR W C (.chn o o' a b c)) := by
  refine pe_imp (pe_chain (snd_cmp o hu) (snd_cmp o' hu) ha hb hc (set_last hy)) fun σ H Q ⟨F, r, sl, S, R, so, h⟩ => ?_
  unfold evE at h
  refine tE.two h R so fun x y d e F' H' r' S' ex R' rx ry h' => ?_
  cases hz : pCmp o (dr S' d) (dr S' e) with
  | none => rw [hz] at h'; exact h'.elim
  | some k =>
    rw [hz] at h'
    refine ⟨F', r', S', _, _, .bl k, R', rx.b.dr R', ry.b.dr R', congrArg (Option.map D.bl) hz, fun v F2 H2 r2 e2 R2 hv => ?_⟩
    cases hv
    refine ⟨k, rfl, ?_⟩
    cases k with
    | false => exact h' F2 H2 r2 e2 R2 _ (.bl _)
    | true =>
      have h2 := PostE.ext h' e2
      refine tE.one h2 R2 (so.ext (ex.trans e2)) fun z f F3 H3 r3 S3 e3 R3 rz h3 => ?_
      obtain ⟨w, hw, q⟩ := h3.of
      exact ⟨F3, r3, S3, _, _, w, R3, (ry.ext (e2.trans e3)).b.dr R3, rz.b.dr R3, hw, fun v F4 H4 r4 e4 R4 hv => q F4 H4 r4 e4 R4 v hv⟩
end
end G
end S_GSnd3
section S_GSnd4
set_option linter.all false
set_option maxRecDepth 100000
set_option maxHeartbeats 1000000
/-! GSnd4: truth, and, or, calls. -/
namespace G
open PySem PySem.Spec PyProof.Rows L2

/-- isTrue takes the value -/
def plainT : Expr → Bool
  | .UnaryOp .Not _ _ => false
  | .BoolOp .. => false
  | .IfExp .. => false
  | .Compare .. => false
  | _ => true
theorem plain_true {e : Expr} {env : Env} (h : plainT e = true) (whole : Sem Value) : isTrue e env whole = (do let v ← whole; standAt e.pos; holding [v] (PySem.truthy v)) := by
  cases e <;> first
    | rfl
    | cases h
    | (rename_i op _ _; cases op <;> first | rfl | cases h)

section
variable {XR : XRel} {W : L2.WX} {C : G.Cx} {X : L2.Cx} {pos : Pos} {a b c : E} {xa xb xc : Expr} {es : List E} {xs : List Expr} {ta tb : B} {bs : List B}
theorem t_tr (hp : plainT xa = true) (ha : PE X xa (tE X.K XR W C a)) : PT X xa (tT X.K XR W C (.tr a)) := by
  refine pt_imp (pt_truth ha (plain_true hp)) fun σ H Q ⟨F, r, sl, S, R, so, h⟩ => ?_
  unfold evT at h
  refine tE.one h R so fun x d F' H' r' S' ex R' rx h' => ?_
  obtain ⟨k, hk, q⟩ := h'.of
  exact ⟨k, tru_of R' (rx.b.dr R') hk, q F' H' r' .refl R'⟩
theorem t_not (ha : PT X xa (tT X.K XR W C ta)) : PT X (.UnaryOp .Not xa pos) (tT X.K XR W C (.not ta)) := by
  refine pt_imp (pt_not ha) fun σ H Q ⟨F, r, sl, S, R, so, h⟩ => ?_
  unfold evT at h
  exact tT.one h R so fun t F' H' r' S' ex R' h' => h' F' H' r' .refl R'
theorem e_not (ha : PE X xa (tE X.K XR W C a)) : PE X (.UnaryOp .Not xa pos) (tE X.K XR W C (.not (.tr a))) := by
  refine pe_imp (pe_notT ha) fun σ H Q ⟨F, r, sl, S, R, so, h⟩ => ?_
  unfold evE evT at h
  have h : PostE X.K XR W F H r σ ((evE C a sl S).bind fun d S => (Rs.of S (truthy (dr S d))).bind fun b S => .ok (.bl (!b)) S) fun d S' F' H' r' => ∀ v, Rp X.K F' r' v d → Q v H' := by
    generalize evE C a sl S = m at h ⊢
    cases m <;> exact h
  refine tE.one h R so fun x d F' H' r' S' ex R' rx h' => ?_
  cases hk : truthy (dr S' d) with
  | none => rw [hk] at h'; exact h'.elim
  | some k =>
    rw [hk] at h'
    exact ⟨k, tru_of R' (rx.b.dr R') hk, h' F' H' r' .refl R' _ (.bl _)⟩
theorem t_and1 (ha : PT X xa (tT X.K XR W C ta)) : PW X (.BoolOp .And [xa] pos) (tAT X.K XR W C [ta]) := by
  refine pw_imp (pw_and1 ha) fun σ H Q ⟨F, r, sl, S, R, so, h⟩ => ?_
  unfold evAndT at h
  refine tT.one h R so fun t F' H' r' S' ex R' h' => ?_
  cases t with
  | true =>
    unfold evAndT at h'
    exact h' F' H' r' .refl R'
  | false => exact h' F' H' r' .refl R'
theorem t_or1 (ha : PT X xa (tT X.K XR W C ta)) : PW X (.BoolOp .Or [xa] pos) (tOT X.K XR W C [ta]) := by
  refine pw_imp (pw_or1 ha) fun σ H Q ⟨F, r, sl, S, R, so, h⟩ => ?_
  unfold evOrT at h
  refine tT.one h R so fun t F' H' r' S' ex R' h' => ?_
  cases t with
  | true => exact h' F' H' r' .refl R'
  | false =>
    unfold evOrT at h'
    exact h' F' H' r' .refl R'
theorem t_and (ha : PT X xa (tT X.K XR W C ta)) (hb : PW X (.BoolOp .And (xb :: xs) pos) (tAT X.K XR W C (tb :: bs))) : PW X (.BoolOp .And (xa :: xb :: xs) pos) (tAT X.K XR W C (ta :: tb :: bs)) := by
  refine pw_imp (pw_and ha hb) fun σ H Q ⟨F, r, sl, S, R, so, h⟩ => ?_
  rw [evAndT] at h
  refine tT.one h R so fun t F' H' r' S' ex R' h' => ?_
  cases t with
  | true => exact ⟨F', r', sl, S', R', so.ext ex, h'⟩
  | false => exact h' F' H' r' .refl R'
theorem t_or (ha : PT X xa (tT X.K XR W C ta)) (hb : PW X (.BoolOp .Or (xb :: xs) pos) (tOT X.K XR W C (tb :: bs))) : PW X (.BoolOp .Or (xa :: xb :: xs) pos) (tOT X.K XR W C (ta :: tb :: bs)) := by
  refine pw_imp (pw_or ha hb) fun σ H Q ⟨F, r, sl, S, R, so, h⟩ => ?_
  rw [evOrT] at h
  refine tT.one h R so fun t F' H' r' S' ex R' h' => ?_
  cases t with
  | false => exact ⟨F', r', sl, S', R', so.ext ex, h'⟩
  | true => exact h' F' H' r' .refl R'
theorem e_and1 (hb : a.isB = false) (ha : PE X xa (tE X.K XR W C a)) : PE X (.BoolOp .And [xa] pos) (tAV X.K XR W C [a]) := by
  refine pe_imp (pe_one ha) fun σ H Q ⟨F, r, sl, S, R, so, h⟩ => ?_
  unfold evAnd at h
  refine tE.one h R so fun x d F' H' r' S' ex R' rx h' => ?_
  rw [hb] at rx
  exact h' F' H' r' .refl R' x rx
theorem e_or1 (hb : a.isB = false) (ha : PE X xa (tE X.K XR W C a)) : PE X (.BoolOp .Or [xa] pos) (tOV X.K XR W C [a]) := by
  refine pe_imp (pe_one ha) fun σ H Q ⟨F, r, sl, S, R, so, h⟩ => ?_
  unfold evOr at h
  refine tE.one h R so fun x d F' H' r' S' ex R' rx h' => ?_
  rw [hb] at rx
  exact h' F' H' r' .refl R' x rx
theorem e_and (hi : a.isB = false) (ha : PE X xa (tE X.K XR W C a)) (hb : PE X (.BoolOp .And (xb :: xs) pos) (tAV X.K XR W C (b :: es))) : PE X (.BoolOp .And (xa :: xb :: xs) pos) (tAV X.K XR W C (a :: b :: es)) := by
  refine pe_imp (pe_andT ha hb) fun σ H Q ⟨F, r, sl, S, R, so, h⟩ => ?_
  rw [evAnd] at h
  refine tE.one h R so fun x d F' H' r' S' ex R' rx h' => ?_
  cases hk : truthy (dr S' d) with
  | none => simp only [hk] at h'; exact h'.elim
  | some k =>
    refine ⟨k, tru_of R' (rx.b.dr R') hk, ?_⟩
    cases k with
    | true =>
      simp only [hk] at h'
      exact ⟨F', r', sl, S', R', so.ext ex, h'⟩
    | false =>
      simp only [hk] at h'
      rw [hi] at rx
      exact h' F' H' r' .refl R' x rx
theorem e_or (hi : a.isB = false) (ha : PE X xa (tE X.K XR W C a)) (hb : PE X (.BoolOp .Or (xb :: xs) pos) (tOV X.K XR W C (b :: es))) : PE X (.BoolOp .Or (xa :: xb :: xs) pos) (tOV X.K XR W C (a :: b :: es)) := by
  refine pe_imp (pe_orT ha hb) fun σ H Q ⟨F, r, sl, S, R, so, h⟩ => ?_
  rw [evOr] at h
  refine tE.one h R so fun x d F' H' r' S' ex R' rx h' => ?_
  cases hk : truthy (dr S' d) with
  | none => simp only [hk] at h'; exact h'.elim
  | some k =>
    refine ⟨k, tru_of R' (rx.b.dr R') hk, ?_⟩
    cases k with
    | false =>
      simp only [hk] at h'
      exact ⟨F', r', sl, S', R', so.ext ex, h'⟩
    | true =>
      simp only [hk] at h'
      rw [hi] at rx
      exact h' F' H' r' .refl R' x rx
theorem t_chn {o o' : Cm} (hu : X.A.units + 200 < cLine) (hy : isSetX xc = false) (ha : PE X xa (tE X.K XR W C a)) (hb : PE X xb (tE X.K XR W C b)) (hc : PE X xc (tE X.K XR W C c)) : PT X (.Compare xa [cmM o, cmM o'] [xb, xc] pos) (tT X.K XR W C (.tr (.chn o o' a b c))) := by
  refine pt_imp (pt_chain (snd_cmp o hu) (snd_cmp o' hu) ha hb hc (set_last hy)) fun σ H Q ⟨F, r, sl, S, R, so, h⟩ => ?_
  unfold evT evE at h
  have h : PostE X.K XR W F H r σ ((evE C a sl S).bind fun x S => (evE C b sl S).bind fun y S => (match pCmp o (dr S x) (dr S y) with
    | some true => (evE C c sl S).bind fun z S => (.of S ((pCmp o' (dr S y) (dr S z)).map D.bl))
    | some false => .ok (D.bl false) S
    | none => .stk).bind fun d S => .of S (truthy (dr S d))) fun t S' F' H' r' => Q t H' := by
    generalize evE C a sl S = m at h ⊢
    cases m with
    | ok d S' =>
      revert h
      show PostE X.K XR W F H r σ (((evE C b sl S').bind fun y S => match pCmp o (dr S d) (dr S y) with
        | some true => (evE C c sl S).bind fun z S => (.of S ((pCmp o' (dr S y) (dr S z)).map D.bl))
        | some false => .ok (D.bl false) S
        | none => .stk).bind fun d S => .of S (truthy (dr S d))) (fun t S' F' H' r' => Q t H') → PostE X.K XR W F H r σ ((evE C b sl S').bind fun y S => (match pCmp o (dr S d) (dr S y) with
        | some true => (evE C c sl S).bind fun z S => (.of S ((pCmp o' (dr S y) (dr S z)).map D.bl))
        | some false => .ok (D.bl false) S
        | none => .stk).bind fun d S => .of S (truthy (dr S d))) fun t S' F' H' r' => Q t H'
      generalize evE C b sl S' = m
      cases m <;> exact fun h => h
    | exc _ _ _ => exact h
    | stk => exact h
  refine tE.two h R so fun x y d e F' H' r' S' ex R' rx ry h' => ?_
  cases hz : pCmp o (dr S' d) (dr S' e) with
  | none => rw [hz] at h'; exact h'.elim
  | some k =>
    rw [hz] at h'
    refine ⟨F', r', S', _, _, .bl k, R', rx.b.dr R', ry.b.dr R', congrArg (Option.map D.bl) hz, fun v F2 H2 r2 e2 R2 hv => ?_⟩
    cases hv
    refine ⟨k, rfl, ?_⟩
    cases k with
    | false => exact ⟨false, rfl, h' F2 H2 r2 e2 R2⟩
    | true =>
      have h' : PostE X.K XR W F' H' r' σ ((evE C c sl S').bind fun z S => (Rs.of S ((pCmp o' (dr S e) (dr S z)).map D.bl)).bind fun d S => .of S (truthy (dr S d))) fun t S' F' H' r' => Q t H' := by
        revert h'
        show PostE X.K XR W F' H' r' σ (((evE C c sl S').bind fun z S => (Rs.of S ((pCmp o' (dr S e) (dr S z)).map D.bl))).bind fun d S => .of S (truthy (dr S d))) (fun t S' F' H' r' => Q t H') → _
        generalize evE C c sl S' = m
        cases m <;> exact fun h => h
      have h2 := PostE.ext h' e2
      refine tE.one h2 R2 (so.ext (ex.trans e2)) fun z f F3 H3 r3 S3 e3 R3 rz h3 => ?_
      cases hw : pCmp o' (dr S3 e) (dr S3 f) with
      | none => rw [hw] at h3; exact h3.elim
      | some w =>
        rw [hw] at h3
        refine ⟨F3, r3, S3, _, _, .bl w, R3, (ry.ext (e2.trans e3)).b.dr R3, rz.b.dr R3, congrArg (Option.map D.bl) hw, fun v F4 H4 r4 e4 R4 hv => ?_⟩
        cases hv
        exact ⟨w, rfl, h3 F4 H4 r4 e4 R4⟩
theorem e_ite (hb : a.isB = false) (hc : b.isB = false) (ht : PT X xc (tT X.K XR W C ta)) (ha : PE X xa (tE X.K XR W C a)) (he : PE X xb (tE X.K XR W C b)) : PE X (.IfExp xc xa xb pos) (tE X.K XR W C (.ite ta a b)) := by
  refine pe_imp (pe_ifExp ht ha he) fun σ H Q ⟨F, r, sl, S, R, so, h⟩ => ?_
  unfold evE at h
  refine tT.one h R so fun t F' H' r' S' ex R' h' => ?_
  cases t with
  | true =>
    refine ⟨F', r', sl, S', R', so.ext ex, ?_⟩
    rw [hb]
    exact h'
  | false =>
    refine ⟨F', r', sl, S', R', so.ext ex, ?_⟩
    rw [hc]
    exact h'
theorem e_ix (hi : b.isB = false) (hs : isSliceX xb = false) (ha : PE X xa (tE X.K XR W C a)) (hb : PE X xb (tE X.K XR W C b)) : PE X (.Subscript xa xb pos) (tE X.K XR W C (.ix a b)) := by
  refine pe_imp (pe_ix snd_ix ha hb (slice_plain hs)) fun σ H Q ⟨F, r, sl, S, R, so, h⟩ => ?_
  unfold evE at h
  refine tE.two h R so fun x y d e F' H' r' S' ex R' rx ry h' => ?_
  obtain ⟨z, hz, q⟩ := h'.of
  rw [hi] at ry
  exact ⟨F', r', S', _, _, z, R', rx.b.dr R', .st ry, hz, fun v F2 H2 r2 e2 R2 hv => q F2 H2 r2 e2 R2 v hv⟩
theorem o_none : PO X none (tOpt X.K XR W C none) := by
  refine po_imp po_none fun σ H Q ⟨F, r, sl, S, R, so, h⟩ => ?_
  unfold evO at h
  exact h F H r .refl R
theorem o_some (hb : a.isB = false) (ha : PE X xa (tE X.K XR W C a)) : PO X (some xa) (tOpt X.K XR W C (some a)) := by
  refine po_imp (po_some ha) fun σ H Q ⟨F, r, sl, S, R, so, h⟩ => ?_
  unfold evO at h
  refine tE.one h R so fun x d F' H' r' S' ex R' rx h' => ?_
  cases d with
  | int i =>
    cases rx.b.w.int
    exact ⟨i, rfl, h' F' H' r' .refl R'⟩
  | _ => exact h'.elim
theorem e_sl {lo hi : Option E} {xl xh : Option Expr} {p2 : Pos} (ha : PE X xa (tE X.K XR W C a)) (hl : PO X xl (tOpt X.K XR W C lo)) (hh : PO X xh (tOpt X.K XR W C hi)) : PE X (.Subscript xa (.Slice xl xh none p2) pos) (tEX X.K XR W C (.sl a lo hi)) := by
  refine pe_imp (pe_slice snd_sl ha hl hh) fun σ H Q ⟨F, r, sl, S, R, so, h⟩ => ?_
  unfold evE at h
  refine tE.one h R so fun x d F' H' r' S' ex R' rx h' => ?_
  refine tOpt.one h' R' (so.ext ex) fun l F2 H2 r2 S2 e2 R2 h2 => ?_
  refine tOpt.one h2 R2 (so.ext (ex.trans e2)) fun u F3 H3 r3 S3 e3 R3 h3 => ?_
  obtain ⟨z, hz, q⟩ := h3.of
  exact ⟨F3, r3, S3, _, z, R3, (rx.ext (e2.trans e3)).b.dr R3, hz, FrX.res (ex.trans (e2.trans e3)) R3 q⟩
end
end G
end S_GSnd4
section S_GSnd5
set_option linter.all false
set_option maxRecDepth 100000
set_option maxHeartbeats 1000000
/-! GSnd5: calls, targets, walks. -/
namespace G
open PySem PySem.Spec PyProof.Rows L2

/-- a def's promise -/
def spF (K : Fg) (XR : XRel) (C : G.Cx) (f : Nat) : Sp := fun vs H Q E => ∃ F r S ds, Rel K F H r S ∧ RpXL K false F H r vs ds ∧
  PostE K XR (fun c d _ H => E c d H) F H r [] (C.call f ds S) fun d S' F' H' r' => ∀ v, Rp K F' r' v d → Q v H'

section
variable {XR : XRel} {W : L2.WX} {C : G.Cx} {X : L2.Cx} {p pos : Pos} {a b c : E} {xa xb xc : Expr} {es : List E} {xs : List Expr} {ta tb : B} {bs : List B}
theorem a_nil {w : Bool} : PA X [] (tL X.K XR W C w []) := by
  refine pa_imp pa_nil fun σ H Q ⟨F, r, sl, S, R, so, h⟩ => ?_
  unfold evL at h
  exact h F H r .refl R [] .nil
theorem a_cons {w : Bool} (hs : noStar xa = true) (hw : w = true ∨ a.isB = false) (ha : PE X xa (tE X.K XR W C a)) (hr : PA X xs (tL X.K XR W C w es)) : PA X (xa :: xs) (tL X.K XR W C w (a :: es)) := by
  refine pa_imp (pa_cons ha hr (star_cons hs)) fun σ H Q ⟨F, r, sl, S, R, so, h⟩ => ?_
  unfold evL at h
  refine tE.one h R so fun x d F' H' r' S' ex R' rx h' => ?_
  refine tL.one h' R' (so.ext ex) fun ys ds F2 H2 r2 S2 e2 R2 ry h2 => ?_
  refine h2 F2 H2 r2 .refl R2 _ (.cons ?_ ry)
  rcases hw with hw | hw
  · subst hw
    exact (rx.ext e2).b
  · rw [hw] at rx
    cases w with
    | true => exact .st (Rp.up e2.f e2.pre rx)
    | false => exact Rp.up e2.f e2.pre rx
theorem postE_call {K : Fg} {F H : Hp} {r : List Addr} {σ : L2.St} {α : Type} {m : Rs α} {P : α → List Cell → Hp → Hp → List Addr → Prop} (h : PostE K XR W F H r σ m P) : PostE K XR (fun c d _ H => WE W σ c d H) F H r [] m P := by
  cases m <;> exact h
theorem e_cal {CX : CXT} {k f : Nat} {fa : Addr} {fd : FuncData} {ps : List Str} {x : Str} (F : FnG X.prog X.w X.K X.mg X.base CX k fa fd ps (spF X.K XR C f)) (hgd : X.A.guards = some []) (hr : Room k X.A) (hg : Gl X x) (hm : X.mg x = some (.ref fa)) (hk : PySem.W.keepIn X.K (.ref fa) = true) (hb : Binds X.K fd ps []) (hx : ∀ σ, PassesAt CX X σ (WE W σ))
    (hdb : (x == ("__debug__" : Str)) = false) (hs : (xa :: xs).all noStar = true) (ha : PA X (xa :: xs) (tL X.K XR W C false es)) : PE X (.Call (.Name x p) (xa :: xs) [] pos) (tE X.K XR W C (.cal f es)) := by
  rw [List.all_cons, Bool.and_eq_true] at hs
  refine pe_imp (pe_callG F hgd hr hg hm hk hb hx ha hdb (star_cons hs.1) (star_any hs.2)) fun σ H Q ⟨F, r, sl, S, R, so, h⟩ => ?_
  unfold evE at h
  exact tL.one h R so fun ys ds F' H' r' S' ex R' ry h' => ⟨F', r', S', ds, R', ry, postE_call h'⟩
theorem e_cal0 {CX : CXT} {k f : Nat} {fa : Addr} {fd : FuncData} {ps : List Str} {x : Str} (F : FnG X.prog X.w X.K X.mg X.base CX k fa fd ps (spF X.K XR C f)) (hgd : X.A.guards = some []) (hr : Room k X.A) (hg : Gl X x) (hm : X.mg x = some (.ref fa)) (hk : PySem.W.keepIn X.K (.ref fa) = true) (hb : Binds X.K fd ps []) (hx : ∀ σ, PassesAt CX X σ (WE W σ))
    (hdb : (x == ("__debug__" : Str)) = false) : PE X (.Call (.Name x p) [] [] pos) (tE X.K XR W C (.cal f [])) := by
  refine pe_imp (pe_callG0 F hgd hr hg hm hk hb hx hdb) fun σ H Q ⟨F, r, sl, S, R, so, h⟩ => ?_
  unfold evE evL at h
  exact ⟨F, r, S, [], R, .nil, postE_call h⟩

/-! ### built-in functions -/
theorem e_blt {f : Bf} (h : PE X xa (tCB (rB X.K (pB f)) (tL X.K XR W C true es))) : PE X xa (tE X.K XR W C (.blt f es)) := by
  refine pe_imp h fun σ H Q ⟨F, r, sl, S, R, so, h⟩ => ?_
  unfold evE at h
  refine tL.one h R so fun ys ds F' H' r' S' ex R' ry h' => ?_
  obtain ⟨z, hz, q⟩ := h'.of
  exact ⟨F', r', S', _, z, R', ry.drs R', hz, fun v F2 H2 r2 e2 R2 hv => q F2 H2 r2 e2 R2 v hv⟩
theorem e_bltX {f : Bf} (h : PE X xa (tCB (rBX X.K (pB f)) (tL X.K XR W C true es))) : PE X xa (tEX X.K XR W C (.blt f es)) := by
  refine pe_imp h fun σ H Q ⟨F, r, sl, S, R, so, h⟩ => ?_
  unfold evE at h
  refine tL.one h R so fun ys ds F' H' r' S' ex R' ry h' => ?_
  obtain ⟨z, hz, q⟩ := h'.of
  exact ⟨F', r', S', _, z, R', ry.drs R', hz, FrX.res ex R' q⟩
theorem cr_isa (t : Ty) : CallR X (.builtin "isinstance") (fun xs H Q => ∃ F r S x d, xs = [x, .ty (tyN t)] ∧ Rel X.K F H r S ∧ RpW X.K F H r x d ∧ ∃ b, isT t d = some b ∧ Q (.bl b) H) := by
  intro pins s σ H xs us Q I rx h
  obtain ⟨F, r, S, x, d, rfl, R, hx, b, hb, q⟩ := h
  obtain ⟨u1, u2, rfl, r1, r2⟩ := vals2 rx
  cases (show u2 = Value.type (tyN t) from r2)
  exact one_isa I R r1 hx hb fun tk => ⟨.bl b, H, I.tok tk, rfl, q⟩
theorem boot_ty (t : Ty) : bootBuiltins ((tyN t : String) : Str) = some (.type (tyN t)) := by cases t <;> decide +kernel
theorem ty_ne (t : Ty) : ((tyN t : String) : Str) ≠ "__name__" ∧ (((tyN t : String) : Str) == ("__debug__" : Str)) = false := by cases t <;> decide +kernel
theorem e_isa {t : Ty} {p2 : Pos} (hs : noStar xa = true) (hb : a.isB = false) (hg : Gl X "isinstance") (hm : X.mg "isinstance" = none) (hg2 : Gl X ((tyN t : String) : Str)) (hm2 : X.mg ((tyN t : String) : Str) = none) (ha : PE X xa (tE X.K XR W C a)) :
    PE X (.Call (.Name "isinstance" p) [xa, .Name ((tyN t : String) : Str) p2] [] pos) (tE X.K XR W C (.blt (.isa t) [a])) := by
  have h2 : PE X (.Name ((tyN t : String) : Str) p2) (tC (.ty (tyN t))) := pe_bltn hg2 hm2 (boot_ty t) rfl (ty_ne t).1 (ty_ne t).2
  have hA : PA X [xa, .Name ((tyN t : String) : Str) p2] (tCons (tE X.K XR W C a) (tCons (tC (.ty (tyN t))) tNil)) := pa_cons ha (pa_cons h2 pa_nil) (star_cons hs)
  refine pe_imp (pe_callB (cr_isa t) hg hm PyProof.Rows.boot_isinstance hA (by decide) (by decide) (star_cons hs)) fun σ H Q ⟨F, r, sl, S, R, so, h⟩ => ?_
  unfold evE evL evL at h
  have h : PostE X.K XR W F H r σ ((evE C a sl S).bind fun d S => Rs.of S (pB (.isa t) [dr S d])) fun d S' F' H' r' => ∀ v, Rp X.K F' r' v d → Q v H' := by
    generalize evE C a sl S = m at h ⊢
    cases m <;> exact h
  refine tE.one h R so fun x d F' H' r' S' ex R' rx h' => ?_
  obtain ⟨z, hz, q⟩ := h'.of
  have hz : (isT t (dr S' d)).map D.bl = some z := hz
  cases hb : isT t (dr S' d) with
  | none => rw [hb] at hz; cases hz
  | some k =>
    rw [hb] at hz
    cases hz
    exact ⟨F', r', S', x, _, rfl, R', rx.b.dr R', k, hb, q F' H' r' .refl R' _ (.bl _)⟩

/-! ### index -/
theorem strs_get : ∀ {xs : List D} {ss : List (List Nat)}, asStrs xs = some ss → xs = ss.map D.str
  | [], ss, h => by
    cases h
    rfl
  | d :: r, ss, h => by
    cases d with
    | str s =>
      have h : (asStrs r).map (s :: ·) = some ss := h
      cases e : asStrs r with
      | none => rw [e] at h; cases h
      | some t =>
        rw [e] at h
        cases h
        rw [List.map_cons, strs_get e]
    | _ => cases h
def toS (s : List Nat) : Str := ⟨s.toArray⟩
theorem toS_inj {s t : List Nat} (h : toS s = toS t) : s = t := by
  have h1 : s.toArray = t.toArray := congrArg Str.cps h
  simpa using h1
theorem place_of {s : List Nat} {xs : List D} {z : D} (h : placeOf s xs = some z) : ∃ ss, asStrs xs = some ss ∧ s ∈ ss ∧ z = .int (ss.idxOf s) := by
  unfold placeOf at h
  cases e : asStrs xs with
  | none => rw [e] at h; cases h
  | some ss =>
    rw [e] at h
    have h : (if s ∈ ss then some (D.int (ss.idxOf s)) else none) = some z := h
    by_cases hm : s ∈ ss
    · rw [if_pos hm] at h
      cases h
      exact ⟨ss, rfl, hm, rfl⟩
    · rw [if_neg hm] at h
      cases h
theorem idx_facts {s : List Nat} {ss : List (List Nat)} (h : s ∈ ss) : (ss.map toS)[ss.idxOf s]? = some (toS s) ∧ ∀ m, m < ss.idxOf s → (ss.map toS)[m]? ≠ some (toS s) := by
  have hl := List.idxOf_lt_length_iff.mpr h
  refine ⟨?_, fun m hm e => ?_⟩
  · rw [List.getElem?_map, List.getElem?_eq_getElem hl, List.getElem_idxOf hl]
    rfl
  · have hm' : m < ss.length := Nat.lt_trans hm hl
    rw [List.getElem?_map, List.getElem?_eq_getElem hm'] at e
    have e : some (toS ss[m]) = some (toS s) := e
    have e2 := toS_inj (Option.some.inj e)
    have z := List.not_of_lt_findIdx (p := fun y => y == s) (show m < List.findIdx (fun y => y == s) ss from hm)
    rw [e2] at z
    simp at z
theorem snd_indexL : MtR X "list.index" (fun x xs H Q => ∃ F r S ds y s z, xs = [y] ∧ Rel X.K F H r S ∧ RpW X.K F H r x (.lst ds) ∧ RpW X.K F H r y (.str s) ∧ placeOf s ds = some z ∧ Res X.K F H r S z Q) := by
  intro pins s σ H x xs v us Q I rx ru h
  obtain ⟨F, r, S, ds, y, t, z, rfl, R, hx, hy, hz, q⟩ := h
  obtain ⟨ss, e1, e2, rfl⟩ := place_of hz
  obtain ⟨a1, vs, rfl, hs, tx⟩ := hx.lst R
  obtain ⟨rfl, _⟩ := hy.str
  have ev : vs = (ss.map toS).map V.str := by
    rw [List.map_map]
    exact RpL.strs tx e1
  obtain ⟨f1, f2⟩ := idx_facts e2
  refine mt_index pins s σ H _ _ v us Q I rx ru ⟨a1, vs, .str (toS t), ss.idxOf t, .str (toS t), rfl, rfl, hs, rfl, ?_, ?_, ?_, fun m z' hm hz' => ?_, q.now R (.int _)⟩
  · rw [ev]
    exact List.all_eq_true.mpr fun y hy => by
      obtain ⟨w, _, rfl⟩ := List.mem_map.mp hy
      rfl
  · rw [ev, List.getElem?_map, f1]
    rfl
  · show (toS t == toS t) = true
    simp
  · rw [ev, List.getElem?_map] at hz'
    cases hw : (ss.map toS)[m]? with
    | none => rw [hw] at hz'; cases hz'
    | some w =>
      rw [hw] at hz'
      cases hz'
      show (w == toS t) = false
      have : w ≠ toS t := fun e => f2 m hm (by rw [hw, e])
      simpa using this
def idxS : Str := "index"

theorem few_ok {xs : List Expr} {cpos : Pos} {env : Env} (hs : xs.all noStar = true) (hl : xs.length < 30) : ((backTo cpos (starEach xs env)).all (fun x => !x.1) && (backToKw cpos (keywordEach [] env)).all (fun x => x.1.isSome)
      && decide (xs.length + ([] : List Keyword).length + (if ([] : List Keyword).isEmpty then 0 else 1) < 30)) = true := by
  rw [star_all hs]
  have : decide (xs.length + ([] : List Keyword).length + (if ([] : List Keyword).isEmpty then 0 else 1) < 30) = true := decide_eq_true hl
  rw [this]
  rfl
theorem e_index {apos cpos : Pos} (hy : noStar xb = true) (hl : (apos.endLine == cpos.line) = true) (hi : b.isB = false) (hbase : attributeBase xa idxS X.env (eval xa X.env) = eval xa X.env) (ha : PE X xa (tE X.K XR W C a)) (hb : PA X [xb] (tL X.K XR W C false [b])) :
    PE X (.Call (.Attribute xa idxS apos) [xb] [] cpos) (tE X.K XR W C (.mth .index a [b])) := by
  refine pe_imp (pe_bm PySem.F.plainAttrs_list PySem.F.slot_list_index PySem.F.type_list_index snd_indexL ha hb hbase (few_ok (by rw [List.all_cons, hy]; rfl) (by show 1 < 30; decide)) hl (star_cons hy) rfl) fun σ H Q ⟨F, r, sl, S, R, so, h⟩ => ?_
  unfold evE at h
  refine tE.one h R so fun x d F' H' r' S' ex R' rx h' => ?_
  cases d with
  | lst ds =>
    rw [if_pos (show recvOk .index (.lst ds) = true from rfl)] at h'
    obtain ⟨p, xs, rfl, hq, _⟩ := rx.b.w.lst R'
    refine ⟨.inl ⟨rfl, xs, hq⟩, tL.oneN h' R' (so.ext ex) fun ys es F2 H2 r2 S2 hn e2 R2 ry h2 => ?_⟩
    obtain ⟨z, hz, q⟩ := h2.of
    have rx2 := (rx.ext e2).b.w
    cases ry with
    | nil => cases hz
    | cons ry rt =>
      cases rt with
      | cons _ _ => cases hn
      | nil =>
        rename_i y d
        cases d with
        | str t => exact ⟨F2, r2, S2, ds, y, t, z, rfl, R2, rx2, .st ry, hz, fun v F3 H3 r3 e3 R3 hv => q F3 H3 r3 e3 R3 v hv⟩
        | _ => cases hz
  | _ =>
    rw [if_neg (by intro z; cases z)] at h'
    exact h'.elim

/-! ### a def that returns texts -/
def strV (ss : List (List Nat)) : List V := ss.map fun s => V.str (toS s)
/-- its promise: a new tuple, without a dict -/
def spC (ss : List (List Nat)) : Sp := fun vs H Q _ => vs = [] ∧ ∀ (p : Addr) (o : Obj), H p = none → o.cls = .type "tuple" → o.dict = none → Q (.ref p) (upd H p (.frz o (.tup (strV ss))))
theorem pe_tupF {t : TA} {k : Nat} (h : PA X xs t) : PE X (.Tuple xs k pos) (fun σ H Q => t σ H fun vs H1 => vs.length ≤ sizeLine ∧ ∀ (p : Addr) (o : Obj), H1 p = none → o.cls = .type "tuple" → o.dict = none → Q (.ref p) (upd H1 p (.frz o (.tup vs)))) := by
  refine ⟨fun pins s σ H Q I hq => ?_⟩
  refine wpAny_Tuple_spliced (thn (h.run pos pins s σ H _ I hq) fun us s1 ⟨vs, H1, I1, r, z, q⟩ => ⟨by rw [← r.length]; exact z, ?_⟩)
  have hf : H1 s1.heap.objs.size = none := I1.hok.fresh (Nat.le_refl _)
  refine ⟨.ref s1.heap.objs.size, upd H1 s1.heap.objs.size (.frz { cls := .type "tuple", data := .seq us.toArray } (.tup vs)), I1.laid (t' := s1.toks) (fun b u e => Heap.get?_push_of_some _ e) (Nat.le_refl _) ?_, rfl, q _ _ hf rfl rfl⟩
  exact ⟨Heap.get?_push_size _ rfl, z, us, r, ⟨_, Heap.get?_push_size _ rfl, rfl, _, rfl⟩⟩
theorem e_ixc {CX : CXT} {k f : Nat} {fa : Addr} {fd : FuncData} {x : Str} {ss : List (List Nat)} {p2 apos cpos : Pos} (hc : C.cst f = some ss) (F : FnG X.prog X.w X.K X.mg X.base CX k fa fd [] (spC ss)) (hgd : X.A.guards = some []) (hr : Room k X.A) (hg : Gl X x) (hm : X.mg x = some (.ref fa)) (hk : PySem.W.keepIn X.K (.ref fa) = true) (hb : Binds X.K fd [] []) (hx : ∀ σ, PassesAt CX X σ (WE W σ))
    (hdb : (x == ("__debug__" : Str)) = false) (hsup : (x != ("super" : Str)) = true) (hy : noStar xb = true) (hl : (apos.endLine == cpos.line) = true) (hi : b.isB = false) (ha : PA X [xb] (tL X.K XR W C false [b])) :
    PE X (.Call (.Attribute (.Call (.Name x p) [] [] p2) idxS apos) [xb] [] cpos) (tE X.K XR W C (.ixc f b)) := by
  refine ⟨fun pins s σ H Q I h => ?_⟩
  obtain ⟨F0, r, sl, S, R, so, h⟩ := h
  unfold evE at h
  rw [hc] at h
  have h : PostE X.K XR W F0 H r σ ((evL C [b] sl S).bind fun ys S => Rs.of S (match ys with | [y] => placeC ss y | _ => none)) fun d S' F' H' r' => ∀ v, Rp X.K F' r' v d → Q v H' := by
    unfold evL evL
    generalize evE C b sl S = m at h ⊢
    cases m <;> exact h
  have ho : PE X (.Call (.Name x p) [] [] p2) (tCallS (spC ss) (WE W) tNil) := pe_callG0 F hgd hr hg hm hk hb hx hdb
  refine PySem.wpAny_Call_method_late (abase_call hsup) (few_ok (by rw [List.all_cons, hy]; rfl) (by show 1 < 30; decide)) hl rfl (thn (ho.run pins s σ H (fun v H1 => ∃ (p : Addr) (o : Obj), v = .ref p ∧ H p = none ∧ o.cls = .type "tuple" ∧ o.dict = none ∧ H1 = upd H p (.frz o (.tup (strV ss)))) I ⟨rfl, fun p o h1 h2 h3 => ⟨p, o, rfl, h1, h2, h3, rfl⟩⟩) fun v s1 ⟨x, H1, I1, r1, q1⟩ => ?_)
  obtain ⟨q, o, rfl, hp, hcl, hd, rfl⟩ := q1
  cases r1
  have hob : s1.heap.get? q = some o := (I1.hok q _ upd_same).1
  refine ⟨"tuple", "tuple.index", PySem.F.plainAttrs_tuple, PySem.F.slot_tuple_index, PySem.F.type_tuple_index, ⟨o, hob, hcl⟩, fun a e => by cases e; exact ⟨o, hob, hd⟩, ?_⟩
  have e1 : Ext F0 H r (upd F0 q (.frz o (.tup (strV ss)))) (upd H q (.frz o (.tup (strV ss)))) r := Ext.new R hp
  have R1 := R.new (o := .frz o (.tup (strV ss))) hp
  have hA := ha.run cpos pins s1 σ _ (fun vs H2 => ∃ y t z, vs = [.str (toS t)] ∧ SqT X.K H2 q (strV ss) ∧ placeC ss (.str t) = some z ∧ y = z ∧ ∀ v, v = (match z with | .int i => V.int i | _ => .non) → Q v H2) I1 (tL.one (PostE.ext h e1) R1 (so.ext e1) fun ys es F2 H2 r2 S2 e2 R2 ry h2 => by
    obtain ⟨z, hz, qq⟩ := h2.of
    cases ry with
    | nil => cases hz
    | cons ry rt =>
      cases rt with
      | cons _ _ => cases hz
      | nil =>
        rename_i y d
        cases d with
        | str t =>
          obtain ⟨rfl, _⟩ := (show RpW X.K F2 H2 r2 y (.str t) from .st ry).str
          refine ⟨z, t, z, rfl, .inl (.inr ⟨o, R2.sub q _ (e2.f q _ upd_same)⟩), hz, rfl, fun v hv => ?_⟩
          have hz' : (if t ∈ ss then some (D.int (ss.idxOf t)) else none) = some z := hz
          by_cases hm : t ∈ ss
          · rw [if_pos hm] at hz'
            cases hz'
            subst hv
            exact qq F2 H2 r2 .refl R2 _ (.int _)
          · rw [if_neg hm] at hz'
            cases hz'
        | _ => cases hz)
  rw [star_cons hy] at hA ⊢
  refine Calls.callWith_builtin rfl (Calls.evalArgs_plain ?_)
  refine thn hA fun us s2 ⟨vs, H2, I2, r2, y, t, z, ev, hq, hz, _, hQ⟩ => ?_
  subst ev
  have hz' : (if t ∈ ss then some (D.int (ss.idxOf t)) else none) = some z := hz
  by_cases hm : t ∈ ss
  · rw [if_pos hm] at hz'
    cases hz'
    obtain ⟨f1, f2⟩ := idx_facts hm
    have hq' : SqT X.K H2 q ((ss.map toS).map V.str) := by
      rw [List.map_map]
      exact hq
    exact mt_tup_index pins s2 σ H2 (.ref q) [.str (toS t)] (.ref q) us Q I2 rfl r2 ⟨q, ss.map toS, toS t, ss.idxOf t, rfl, rfl, hq', f1, f2, hQ _ rfl⟩
  · rw [if_neg hm] at hz'
    cases hz'
end
end G
end S_GSnd5
section S_GSnd6
set_option linter.all false
set_option maxRecDepth 100000
set_option maxHeartbeats 1000000
/-! GSnd6: targets, walks, comprehensions. -/
namespace G
open PySem PySem.Spec PyProof.Rows L2

mutual
def tgs : Tg → List Nat
  | .s i => [i]
  | .t ts => tgsL ts
def tgsL : List Tg → List Nat
  | [] => []
  | t :: ts => tgs t ++ tgsL ts
end
section
variable {K : Fg} {F H : Hp} {r : List Addr} {σ σ2 : L2.St} {sl sl2 : List Sl} {v : V} {d : D}
theorem SlOk.set (s : SlOk K F H r σ sl) (i : Nat) (h : Rp K F r v d) : SlOk K F H r (σ.set i (some v)) (sl.set i (.v d)) := by
  refine ⟨by rw [List.length_set, List.length_set, s.len], fun j e hj => ?_, fun j ds hj => ?_, fun j k ds es a h1 h2 h3 h4 => ?_⟩
  · by_cases z : i = j
    · subst z
      by_cases hl : i < sl.length
      · rw [List.getElem?_set_self hl] at hj
        cases hj
        exact ⟨v, by rw [List.getElem?_set_self (by rw [← s.len]; exact hl)], h⟩
      · rw [List.getElem?_eq_none (by rw [List.length_set]; omega)] at hj
        cases hj
    · rw [List.getElem?_set_ne z] at hj ⊢
      exact s.v j e hj
  · by_cases z : i = j
    · subst z
      by_cases hl : i < sl.length
      · rw [List.getElem?_set_self hl] at hj
        cases hj
      · rw [List.getElem?_eq_none (by rw [List.length_set]; omega)] at hj
        cases hj
    · rw [List.getElem?_set_ne z] at hj ⊢
      exact s.own j ds hj
  · have ne : ∀ {j ds}, (sl.set i (.v d))[j]? = some (.own ds) → i ≠ j ∧ sl[j]? = some (.own ds) := fun {j ds} hj => by
      by_cases z : i = j
      · subst z
        by_cases hl : i < sl.length
        · rw [List.getElem?_set_self hl] at hj
          cases hj
        · rw [List.getElem?_eq_none (by rw [List.length_set]; omega)] at hj
          cases hj
      · rw [List.getElem?_set_ne z] at hj
        exact ⟨z, hj⟩
    obtain ⟨n1, g1⟩ := ne h1
    obtain ⟨n2, g2⟩ := ne h2
    rw [List.getElem?_set_ne n1] at h3
    rw [List.getElem?_set_ne n2] at h4
    exact s.ap j k ds es a g1 g2 h3 h4
def wipeS (sl : List Sl) : List Nat → List Sl
  | [] => sl
  | v :: vs => (wipeS sl vs).set v .nil
theorem wipeS_len : ∀ vs : List Nat, (wipeS sl vs).length = sl.length
  | [] => rfl
  | v :: vs => by
    unfold wipeS
    rw [List.length_set, wipeS_len vs]
theorem wipeS_in {i : Nat} : ∀ {vs : List Nat}, i ∈ vs → (wipeS sl vs)[i]? = if i < sl.length then some .nil else none
  | v :: vs, h => by
    unfold wipeS
    by_cases z : v = i
    · subst z
      by_cases hl : v < sl.length
      · rw [List.getElem?_set_self (by rw [wipeS_len]; exact hl), if_pos hl]
      · rw [List.getElem?_eq_none (by rw [List.length_set, wipeS_len]; omega), if_neg hl]
    · rw [List.getElem?_set_ne z]
      exact wipeS_in ((List.mem_cons.mp h).resolve_left fun e => z e.symm)
theorem wipeS_out {i : Nat} : ∀ {vs : List Nat}, i ∉ vs → (wipeS sl vs)[i]? = sl[i]?
  | [], _ => rfl
  | v :: vs, h => by
    unfold wipeS
    rw [List.getElem?_set_ne fun e => h (by rw [e]; exact List.mem_cons_self)]
    exact wipeS_out fun z => h (List.mem_cons_of_mem _ z)
theorem wipe_in {i : Nat} : ∀ {vs : List Nat}, i ∈ vs → (wipe σ vs)[i]? = if i < σ.length then some none else none
  | v :: vs, h => by
    unfold wipe
    by_cases z : v = i
    · subst z
      by_cases hl : v < σ.length
      · rw [List.getElem?_set_self (by rw [wipe_length]; exact hl), if_pos hl]
      · rw [List.getElem?_eq_none (by rw [List.length_set, wipe_length]; omega), if_neg hl]
    · rw [List.getElem?_set_ne z]
      exact wipe_in ((List.mem_cons.mp h).resolve_left fun e => z e.symm)
theorem wipe_out {i : Nat} : ∀ {vs : List Nat}, i ∉ vs → (wipe σ vs)[i]? = σ[i]?
  | [], _ => rfl
  | v :: vs, h => by
    unfold wipe
    rw [List.getElem?_set_ne fun e => h (by rw [e]; exact List.mem_cons_self)]
    exact wipe_out fun z => h (List.mem_cons_of_mem _ z)
theorem SlOk.wipe (s : SlOk K F H r σ sl) (vs : List Nat) : SlOk K F H r (wipe σ vs) (wipeS sl vs) := by
  have nm : ∀ {i : Nat} {x : Sl}, (wipeS sl vs)[i]? = some x → x ≠ .nil → i ∉ vs ∧ sl[i]? = some x := fun {i x} h n => by
    by_cases hi : i ∈ vs
    · rw [wipeS_in hi] at h
      split at h
      · cases h
        exact absurd rfl n
      · cases h
    · exact ⟨hi, by rw [wipeS_out hi] at h; exact h⟩
  refine ⟨by rw [wipeS_len, wipe_length, s.len], fun i d h => ?_, fun i ds h => ?_, fun i j ds es a h1 h2 h3 h4 => ?_⟩
  · obtain ⟨n, g⟩ := nm h (by intro z; cases z)
    rw [wipe_out n]
    exact s.v i d g
  · obtain ⟨n, g⟩ := nm h (by intro z; cases z)
    rw [wipe_out n]
    exact s.own i ds g
  · obtain ⟨n1, g1⟩ := nm h1 (by intro z; cases z)
    obtain ⟨n2, g2⟩ := nm h2 (by intro z; cases z)
    rw [wipe_out n1] at h3
    rw [wipe_out n2] at h4
    exact s.ap i j ds es a g1 g2 h3 h4
theorem wipe_agree {vs : List Nat} (hl : σ2.length = σ.length) (h : ∀ i, i ∉ vs → σ2[i]? = (L2.wipe σ vs)[i]?) : L2.wipe σ2 vs = L2.wipe σ vs := by
  apply List.ext_getElem?
  intro i
  by_cases hi : i ∈ vs
  · rw [wipe_in hi, wipe_in hi, hl]
  · rw [wipe_out hi, h i hi]
end
/-- slots that agree but at A -/
def offA (A : List Nat) (s t : List Sl) : Prop := s.length = t.length ∧ ∀ i, i ∉ A → s[i]? = t[i]?
mutual
theorem tgSet_off : ∀ {tg : Tg} {d : D} {s s' t : List Sl} {A : List Nat}, offA (tgs tg ++ A) s t → tgSet tg d s = some s' → ∃ t', tgSet tg d t = some t' ∧ offA A s' t'
  | .s i, d, s, s', t, A, h, e => by
    have e : some (s.set i (.v d)) = some s' := e
    cases e
    refine ⟨t.set i (.v d), rfl, by rw [List.length_set, List.length_set, h.1], fun j hj => ?_⟩
    by_cases z : i = j
    · subst z
      by_cases hl : i < s.length
      · rw [List.getElem?_set_self hl, List.getElem?_set_self (by rw [← h.1]; exact hl)]
      · rw [List.getElem?_eq_none (by rw [List.length_set]; omega), List.getElem?_eq_none (by rw [List.length_set, ← h.1]; omega)]
    · rw [List.getElem?_set_ne z, List.getElem?_set_ne z]
      exact h.2 j (by
        intro m
        rcases List.mem_append.mp m with m | m
        · exact z (List.mem_singleton.mp m).symm
        · exact hj m)
  | .t ts, d, s, s', t, A, h, e => by
    cases d with
    | tup ds => exact tgSetL_off (ts := ts) h e
    | _ => cases e
theorem tgSetL_off : ∀ {ts : List Tg} {ds : List D} {s s' t : List Sl} {A : List Nat}, offA (tgsL ts ++ A) s t → tgSetL ts ds s = some s' → ∃ t', tgSetL ts ds t = some t' ∧ offA A s' t'
  | [], [], s, s', t, A, h, e => by
    cases e
    exact ⟨t, rfl, h⟩
  | [], _ :: _, _, _, _, _, _, e => by cases e
  | _ :: _, [], _, _, _, _, _, e => by cases e
  | tg :: ts, d :: ds, s, s', t, A, h, e => by
    have e : (tgSet tg d s).bind (fun sl => tgSetL ts ds sl) = some s' := e
    cases e1 : tgSet tg d s with
    | none => rw [e1] at e; cases e
    | some s1 =>
      rw [e1] at e
      have h : offA (tgs tg ++ (tgsL ts ++ A)) s t := by rw [← List.append_assoc]; exact h
      obtain ⟨t1, q1, o1⟩ := tgSet_off h e1
      obtain ⟨t2, q2, o2⟩ := tgSetL_off o1 e
      exact ⟨t2, by show (tgSet tg d t).bind _ = _; rw [q1]; exact q2, o2⟩
end
theorem tgSet_wipe {tg : Tg} {d : D} {sl sl' : List Sl} (h : tgSet tg d sl = some sl') : tgSet tg d (wipeS sl (tgs tg)) = some sl' := by
  obtain ⟨t', e, o⟩ := tgSet_off (t := wipeS sl (tgs tg)) (A := []) ⟨(wipeS_len _).symm, fun i hi => (wipeS_out (by simpa using hi)).symm⟩ h
  rw [e]
  congr 1
  exact (List.ext_getElem? fun i => o.2 i (by simp)).symm

/-! ### targets -/
def gTg (K : Fg) (tg : Tg) : TG := fun v σ H Q => ∃ F r S sl d sl', Rel K F H r S ∧ SlOk K F H r σ sl ∧ Rp K F r v d ∧ tgSet tg d sl = some sl' ∧ ∀ σ' : L2.St, SlOk K F H r σ' sl' → (∀ i, i ∉ tgs tg → σ'[i]? = σ[i]?) → Q σ' H
def gTgs (K : Fg) (ts : List Tg) : TGs := fun vs σ H Q => ∃ F r S sl ds sl', Rel K F H r S ∧ SlOk K F H r σ sl ∧ RpL K F r vs ds ∧ tgSetL ts ds sl = some sl' ∧ ∀ σ' : L2.St, SlOk K F H r σ' sl' → (∀ i, i ∉ tgsL ts → σ'[i]? = σ[i]?) → Q σ' H
theorem pg_imp {X : L2.Cx} {ex : Expr} {t t' : TG} (h : PG X ex t) (k : ∀ v σ H Q, t' v σ H Q → t v σ H Q) : PG X ex t' := ⟨fun pins s σ H v u Q I r q => h.run pins s σ H v u Q I r (k v σ H Q q)⟩
theorem pgs_imp {X : L2.Cx} {ex : List Expr} {t t' : TGs} (h : PGs X ex t) (k : ∀ v σ H Q, t' v σ H Q → t v σ H Q) : PGs X ex t' := ⟨fun pins s σ H v u Q I r q => h.run pins s σ H v u Q I r (k v σ H Q q)⟩
theorem asg_len {env : Env} : ∀ {es : List Expr}, (assignEach es env).length = es.length
  | [] => rfl
  | e :: es => by
    cases e <;> (show (assignEach es env).length + 1 = es.length + 1; rw [asg_len])
theorem asg_find {env : Env} {es : List Expr} (h : es.all noStar = true) : (assignEach es env).findIdx? (·.1) = none := by
  rw [List.findIdx?_eq_none_iff]
  induction es with
  | nil => intro x hx; cases hx
  | cons e es ih =>
    rw [List.all_cons, Bool.and_eq_true] at h
    intro x hx
    rw [asg_cons h.1] at hx
    rcases List.mem_cons.mp hx with rfl | hx
    · rfl
    · exact ih h.2 x hx
section
variable {X : L2.Cx} {pos : Pos} {x : Str} {xa : Expr} {xs : List Expr} {i : Nat} {tg : Tg} {ts : List Tg}
theorem g_s (hN : X.N.Nodup) (hi : X.N[i]? = some x) (hx : Loc X.env.scope x) (hf : X.fn x = true ∨ X.env.scope.names.lookup x = some .local) : PG X (.Name x pos) (gTg X.K (.s i)) := by
  refine pg_imp (pg_name hN hi hx hf) fun v σ H Q ⟨F, r, S, sl, d, sl', R, so, hv, e, q⟩ => ?_
  have e : some (sl.set i (.v d)) = some sl' := e
  cases e
  refine q _ (so.set i hv) fun j hj => ?_
  rw [List.getElem?_set_ne fun z => hj (by rw [z]; exact List.mem_singleton.mpr rfl)]
theorem gs_nil : PGs X [] (gTgs X.K []) := by
  refine pgs_imp pgs_nil fun vs σ H Q ⟨F, r, S, sl, ds, sl', R, so, hv, e, q⟩ => ?_
  cases hv with
  | nil =>
    cases e
    exact ⟨rfl, q σ so fun _ _ => rfl⟩
  | cons _ _ _ => cases e
theorem gs_cons (hs : noStar xa = true) (h1 : PG X xa (gTg X.K tg)) (h2 : PGs X xs (gTgs X.K ts)) : PGs X (xa :: xs) (gTgs X.K (tg :: ts)) := by
  refine pgs_imp (pgs_cons h1 h2 (by rw [asg_cons hs]; rfl)) fun vs σ H Q ⟨F, r, S, sl, ds, sl', R, so, hv, e, q⟩ => ?_
  cases hv with
  | nil => cases e
  | @cons v d vs ds hv hp ht =>
    have e : (tgSet tg d sl).bind (fun sl => tgSetL ts ds sl) = some sl' := e
    cases e1 : tgSet tg d sl with
    | none => rw [e1] at e; cases e
    | some s1 =>
      rw [e1] at e
      refine ⟨v, vs, rfl, F, r, S, sl, d, s1, R, so, hv, e1, fun σ1 so1 a1 => ?_⟩
      refine ⟨F, r, S, s1, ds, sl', R, so1, ht, e, fun σ2 so2 a2 => q σ2 so2 fun i hi => ?_⟩
      have h1 : i ∉ tgs tg := fun z => hi (List.mem_append_left _ z)
      have h2 : i ∉ tgsL ts := fun z => hi (List.mem_append_right _ z)
      rw [a2 i h2, a1 i h1]
theorem tgSetL_len : ∀ {ts : List Tg} {ds : List D} {s s' : List Sl}, tgSetL ts ds s = some s' → ds.length = ts.length
  | [], [], _, _, _ => rfl
  | [], _ :: _, _, _, e => by cases e
  | _ :: _, [], _, _, e => by cases e
  | tg :: ts, d :: ds, s, s', e => by
    have e : (tgSet tg d s).bind (fun sl => tgSetL ts ds sl) = some s' := e
    cases e1 : tgSet tg d s with
    | none => rw [e1] at e; cases e
    | some s1 =>
      rw [e1] at e
      rw [List.length_cons, List.length_cons, tgSetL_len (ts := ts) e]
theorem g_t {k : Nat} (hc : X.calm = true) (hs : xs.all noStar = true) (hl : xs.length = ts.length) (h : PGs X xs (gTgs X.K ts)) : PG X (.Tuple xs k pos) (gTg X.K (.t ts)) := by
  refine pg_imp (pg_tup hc h (asg_len) (asg_find hs)) fun v σ H Q ⟨F, r, S, sl, d, sl', R, so, hv, e, q⟩ => ?_
  cases d with
  | tup ds =>
    cases hv with
    | @tup a vs _ hq ht =>
      have e : tgSetL ts ds sl = some sl' := e
      exact ⟨a, vs, rfl, R.sqt hq, by rw [ht.len, tgSetL_len e, hl], F, r, S, sl, ds, sl', R, so, ht, e, q⟩
  | _ => cases e
end
end G
end S_GSnd6
section S_GSnd7
set_option linter.all false
set_option maxRecDepth 100000
set_option maxHeartbeats 1000000
/-! GSnd7: walks and comprehensions. -/
namespace G
open PySem PySem.Spec PyProof.Rows L2

theorem Rp.toInt {K : Fg} {F : Hp} {r : List Addr} {v : V} {i : Int} (h : Rp K F r v (.int i)) : v = .int i := by
  cases h
  rfl
mutual
theorem tgSet_len : ∀ {tg : Tg} {d : D} {s s' : List Sl}, tgSet tg d s = some s' → s'.length = s.length
  | .s i, d, s, s', e => by
    have e : some (s.set i (.v d)) = some s' := e
    cases e
    exact List.length_set
  | .t ts, d, s, s', e => by
    cases d with
    | tup ds => exact tgSetL_len2 (ts := ts) e
    | _ => cases e
theorem tgSetL_len2 : ∀ {ts : List Tg} {ds : List D} {s s' : List Sl}, tgSetL ts ds s = some s' → s'.length = s.length
  | [], [], _, _, e => by
    cases e
    rfl
  | [], _ :: _, _, _, e => by cases e
  | _ :: _, [], _, _, e => by cases e
  | tg :: ts, d :: ds, s, s', e => by
    have e : (tgSet tg d s).bind (fun sl => tgSetL ts ds sl) = some s' := e
    cases e1 : tgSet tg d s with
    | none => rw [e1] at e; cases e
    | some s1 =>
      rw [e1] at e
      rw [tgSetL_len2 (ts := ts) e, tgSet_len e1]
end
section
variable {XR : XRel} {W : L2.WX} {C : G.Cx} {X : L2.Cx} {p pos : Pos} {a b c : E} {xa xb xc tgx : Expr} {es : List E} {xs : List Expr}
theorem i_e {w : Bool} (hw : w = true ∨ a.isB = false) (ha : PE X xa (tE X.K XR W C a)) : PI X tgx xa (tIt X.K XR W C w (.e a)) := by
  refine pi_imp (pi_any ha) fun σ H Q ⟨F, r, sl, S, R, so, h⟩ => ?_
  unfold evI at h
  refine tE.one h R so fun x d F' H' r' S' ex R' rx h' => ?_
  obtain ⟨z, hz, q⟩ := h'.of
  have q := q F' H' r' .refl R'
  rcases rx.b with rx | ⟨m, t⟩
  · cases rx with
    | lst hq ht =>
      cases hz
      exact .inl ⟨_, rfl, ⟨_, R'.sql hq⟩, q _ (wk_list hq ht).of⟩
    | tup hq ht =>
      cases hz
      exact .inr (.inl ⟨_, rfl, ⟨_, R'.sqt hq⟩, q _ (wk_tup hq ht).of⟩)
    | str s hl =>
      cases hz
      exact .inr (.inr ⟨_, rfl, q _ (wk_str s hl).of⟩)
    | _ => cases hz
  · cases hz
    rcases hw with hw | hw
    · subst hw
      exact .inl ⟨_, rfl, ⟨_, SqL.of m.h⟩, q _ (wk_own m t)⟩
    · rw [hw] at rx
      cases rx with
      | lst hq ht => exact .inl ⟨_, rfl, ⟨_, R'.sql hq⟩, q _ (wk_list hq ht).of⟩
theorem rng_of {i : Int} (h : rngOk i = true) : -(2 ^ 62) ≤ i ∧ i < 2 ^ 62 := by
  unfold rngOk at h
  rw [Bool.and_eq_true, decide_eq_true_eq, decide_eq_true_eq] at h
  exact h
theorem i_rng1 {w : Bool} (hs : noStar xa = true) (hg : Gl X "range") (hm : X.mg "range" = none) (ha : PA X [xa] (tL X.K XR W C false [a])) : PI X tgx (.Call (.Name "range" p) [xa] [] pos) (tIt X.K XR W C w (.rng [a])) := by
  refine pi_imp (pi_range1 hg hm ha (star_cons hs)) fun σ H Q ⟨F, r, sl, S, R, so, h⟩ => ?_
  unfold evI at h
  refine tL.oneN h R so fun vs ds F' H' r' S' hn ex R' rx h' => ?_
  obtain ⟨z, hz, q⟩ := h'.of
  have q := q F' H' r' .refl R'
  cases rx with
  | nil => cases hn
  | @cons v d vs ds h1 t =>
    cases t with
    | cons _ _ => cases hn
    | nil =>
      cases d with
      | int j =>
        have hz : (if rngOk j then some (upto 0 j.toNat) else none) = some z := hz
        by_cases hj : rngOk j = true
        · rw [if_pos hj] at hz
          cases hz
          have e : v = .int j := Rp.toInt (show Rp X.K F' r' v (.int j) from h1)
          subst e
          obtain ⟨h1, h2⟩ := rng_of hj
          exact ⟨j, rfl, h1, h2, q _ (wk_rng 0 j.toNat).of⟩
        · rw [if_neg hj] at hz
          cases hz
      | _ => cases hz
theorem i_rng2 {w : Bool} (hs : noStar xa = true) (hs2 : noStar xb = true) (hg : Gl X "range") (hm : X.mg "range" = none) (ha : PA X [xa, xb] (tL X.K XR W C false [a, b])) : PI X tgx (.Call (.Name "range" p) [xa, xb] [] pos) (tIt X.K XR W C w (.rng [a, b])) := by
  refine pi_imp (pi_range2 hg hm ha (by rw [star_cons hs, star_cons hs2]; rfl) (star_cons hs2)) fun σ H Q ⟨F, r, sl, S, R, so, h⟩ => ?_
  unfold evI at h
  refine tL.oneN h R so fun vs ds F' H' r' S' hn ex R' rx h' => ?_
  obtain ⟨z, hz, q⟩ := h'.of
  have q := q F' H' r' .refl R'
  cases rx with
  | nil => cases hn
  | @cons v d vs ds h1 t =>
    cases t with
    | nil => cases hn
    | @cons v2 d2 vs2 ds2 h2 t =>
      cases t with
      | cons _ _ => cases hn
      | nil =>
        cases d with
        | int i =>
          cases d2 with
          | int j =>
            have hz : (if (rngOk i && rngOk j) = true then some (upto i (j - i).toNat) else none) = some z := hz
            by_cases hj : (rngOk i && rngOk j) = true
            · rw [if_pos hj] at hz
              cases hz
              have e : v = .int i := Rp.toInt (show Rp X.K F' r' v (.int i) from h1)
              subst e
              have e : v2 = .int j := Rp.toInt (show Rp X.K F' r' v2 (.int j) from h2)
              subst e
              rw [Bool.and_eq_true] at hj
              obtain ⟨h1, h2⟩ := rng_of hj.1
              obtain ⟨h3, h4⟩ := rng_of hj.2
              exact ⟨i, j, rfl, ⟨h1, h2, h3, h4⟩, q _ (wk_rng i (j - i).toNat).of⟩
            · rw [if_neg hj] at hz
              cases hz
          | _ => cases hz
        | _ => cases hz
end

/-- a clause's tests -/
def tCs (K : Fg) (XR : XRel) (W : L2.WX) (C : G.Cx) (cs : List B) : TT := fun σ H Q => ∃ F r sl S, Rel K F H r S ∧ SlOk K F H r σ sl ∧ PostE K XR W F H r σ (evCs C cs sl S) fun t S' F' H' r' => Q t H'
theorem pts_imp {X : L2.Cx} {ex : List Expr} {t t' : TT} (h : PTs X ex t) (k : ∀ σ H Q, t' σ H Q → t σ H Q) : PTs X ex t' := ⟨fun pins s σ H Q I q => h.run pins s σ H Q I (k σ H Q q)⟩
theorem c_nil {X : L2.Cx} {XR : XRel} {W : L2.WX} {C : G.Cx} : PTs X [] (tCs X.K XR W C []) := by
  refine pts_imp pts_nil fun σ H Q ⟨F, r, sl, S, R, so, h⟩ => ?_
  unfold evCs at h
  exact h F H r .refl R
theorem c_one {X : L2.Cx} {XR : XRel} {W : L2.WX} {C : G.Cx} {c : B} {x : Expr} (h : PT X x (tT X.K XR W C c)) : PTs X [x] (tCs X.K XR W C [c]) := by
  refine pts_imp (pts_one h) fun σ H Q ⟨F, r, sl, S, R, so, h⟩ => ?_
  unfold evCs at h
  exact ⟨F, r, sl, S, R, so, h⟩

theorem Ext.own {F H F' H' : Hp} {r r' : List Addr} {p : Addr} {o : HO} (e : Ext F H r F' H' r') (n : H p = none) : Ext F H r F' (upd H' p o) r' := by
  refine ⟨e.f, e.fn, fun a o' h hr => ?_, fun a o' h => ?_, e.p⟩
  · rw [upd_ne fun z => by rw [z, n] at h; cases h]
    exact e.h a o' h hr
  · rw [upd_ne fun z => by rw [z, n] at h; cases h]
    exact e.t a o' h
theorem Mine.upd {F H : Hp} {r : List Addr} {p : Addr} {xs ys : List V} (m : Mine F H r p xs) : Mine F (upd H p (.lst ys)) r p ys := ⟨upd_same, m.f, m.r⟩

section
variable {XR : XRel} {W : L2.WX} {C : G.Cx} {X : L2.Cx} {pos : Pos} {it : I} {elt : E} {cond : List B} {tg : Tg} {xe xi tgx : Expr} {ifs : List Expr}
/-- what a comprehension's rule asks -/
theorem lc_of {vs : List Nat} (hvs : vs = tgs tg) (hb : elt.isB = false) {σ : L2.St} {H : Hp} {Q : VK} (h : tEX X.K XR W C (.comp tg it elt cond) σ H Q) :
    tLc (tIt X.K XR W C true it) (gTg X.K tg) (tCs X.K XR (fun _ _ _ _ => False) C cond) (tE X.K XR (fun _ _ _ _ => False) C elt) vs σ H Q := by
  subst hvs
  obtain ⟨F, r, sl, S, R, so, h⟩ := h
  unfold evE at h
  generalize hf : (fun d S => match tgSet tg d sl with
      | none => .stk
      | some sl' => (evCs C cond sl' S).bind fun t S => if t then (evE C elt sl' S).bind fun y S => if y.pur then .ok (some y) S else .stk else .ok none S : D → List Cell → Rs (Option D)) = f at h
  refine ⟨F, r, sl, S, R, so, PostE.imp h.bind fun ds S1 F1 H1 r1 e1 R1 h1 J wk D hD => ?_⟩
  refine ⟨fun i m H2 => m = ds.length - i ∧ i ≤ ds.length ∧ ∃ F2 r2 S2 acc vs, Rel X.K F2 H2 r2 S2 ∧ Ext F1 H1 r1 F2 H2 r2 ∧ Mine F2 H2 r2 D vs ∧ RpL X.K F2 r2 vs acc ∧
    PostE X.K XR W F1 H1 r1 σ ((compL f (ds.drop i) S2 acc).bind fun ys S => Rs.ok (G.D.lst ys) S) (fun d S' F' H' r' => FrX X.K H F' H' r' d Q), ⟨ds.length, by simp, Nat.zero_le _, F1, r1, S1, [], [], R1.put (R1.nF hD) (R1.nr hD), Ext.add R1 hD, R1.mine hD, .nil, h1⟩, ?_⟩
  rintro i m H2 ⟨rfl, hi, F2, r2, S2, acc, vs, R2, e2, mD, t2, h2⟩
  by_cases hlt : i < ds.length
  · have hd : ds.drop i = ds[i] :: ds.drop (i + 1) := List.drop_eq_getElem_cons hlt
    rw [hd] at h2
    unfold compL at h2
    refine .inr ⟨wk.go i F2 H2 r2 S2 e2 R2 hlt, fun H' => i + 1 ≤ ds.length ∧ ∃ F2 r2 S2 acc vs, Rel X.K F2 H' r2 S2 ∧ Ext F1 H1 r1 F2 H' r2 ∧ Mine F2 H' r2 D vs ∧ RpL X.K F2 r2 vs acc ∧
      PostE X.K XR W F1 H1 r1 σ ((compL f (ds.drop (i + 1)) S2 acc).bind fun ys S => Rs.ok (G.D.lst ys) S) (fun d S' F' H' r' => FrX X.K H F' H' r' d Q), fun H' p => ⟨ds.length - (i + 1), by omega, rfl, p⟩, fun x H' hy => ?_⟩
    obtain ⟨F3, e3, R3, rx⟩ := wk.yl i ds[i] F2 H2 r2 S2 x H' e2 R2 (List.getElem?_eq_getElem hlt) hy
    have hfd : f ds[i] S2 = match tgSet tg ds[i] sl with
      | none => .stk
      | some sl' => (evCs C cond sl' S2).bind fun t S => if t then (evE C elt sl' S).bind fun y S => if y.pur then .ok (some y) S else .stk else .ok none S := by rw [← hf]
    cases ht : tgSet tg ds[i] sl with
    | none =>
      rw [hfd, ht] at h2
      exact h2.elim
    | some sl' =>
      rw [hfd, ht] at h2
      dsimp only at h2
      have so3 : SlOk X.K F3 H' r2 σ sl := ((so.ext e1).ext e2).ext e3
      refine ⟨F3, r2, S2, wipeS sl (tgs tg), ds[i], sl', R3, so3.wipe _, rx, tgSet_wipe ht, fun σ2 so2 ag => ⟨wipe_agree ?_ ag, F3, r2, sl', S2, R3, so2, ?_⟩⟩
      · rw [← so2.len, ← so3.len]
        obtain ⟨t', e, o⟩ := tgSet_off (t := sl) (A := []) ⟨rfl, fun _ _ => rfl⟩ ht
        rw [ht] at e
        cases e
        exact tgSet_len ht
      have m3 : Mine F3 H' r2 D vs := mD.ext e3
      have t3 : RpL X.K F3 r2 vs acc := t2.up e3.f e3.pre
      cases hcs : evCs C cond sl' S2 with
      | stk => rw [hcs] at h2; exact h2.elim
      | exc _ _ _ => rw [hcs] at h2; exact h2.elim
      | ok t S3 =>
        rw [hcs] at h2
        intro F4 H4 r4 e4 R4
        cases t with
        | false =>
          rw [if_neg (by decide)]
          exact ⟨hlt, F4, r4, S3, acc, vs, R4, e2.trans (e3.trans e4), m3.ext e4, t3.up e4.f e4.pre, h2⟩
        | true =>
          rw [if_pos rfl]
          refine ⟨F4, r4, sl', S3, R4, so2.ext e4, ?_⟩
          rw [hb]
          cases hel : evE C elt sl' S3 with
          | stk => simp only [Rs.bind, hel] at h2; exact h2.elim
          | exc _ _ _ => simp only [Rs.bind, hel] at h2; exact h2.elim
          | ok y S5 =>
            simp only [Rs.bind, hel, if_true] at h2
            by_cases hp : y.pur = true
            · rw [if_pos hp] at h2
              simp only at h2
              by_cases hn : acc.length < lim
              · rw [if_pos hn] at h2
                intro F5 H5 r5 e5 R5 v hv
                have m5 := (m3.ext e4).ext e5
                have t5 := (t3.up e4.f e4.pre).up e5.f e5.pre
                refine ⟨vs, m5.h, by rw [t5.len, ← lim_eq]; exact hn, hlt, F5, r5, S5, acc ++ [y], vs ++ [v], R5.put m5.f m5.r, (e2.trans (e3.trans (e4.trans e5))).own hD, m5.upd, t5.app (.one hv hp), h2⟩
              · rw [if_neg hn] at h2
                exact h2.elim
            · rw [if_neg hp] at h2
              exact h2.elim
  · have e : i = ds.length := by omega
    subst e
    refine .inl ⟨wk.st F2 H2 r2 S2 e2 R2, ?_⟩
    rw [List.drop_length] at h2
    unfold compL at h2
    exact h2 F2 H2 r2 e2 R2 D vs t2 mD (e1.free hD)
end
end G
end S_GSnd7
section S_GSet
set_option linter.all false
set_option maxRecDepth 100000
set_option maxHeartbeats 3200000
/-! GSet: set(l) of a list. -/
namespace G
open PySem PySem.Spec PyProof.Rows L2

/-- an empty set's object, a list's iterator -/
def fso (w : World) : Obj := ⟨.type "set", none, .set #[] 0 (.fresh 0 0 (!w.params.followText "set-order")), #[]⟩
def lit (l : Addr) : Obj := { cls := .type "list_iterator", data := .fields #[.ref l, .int 0 0] }
section
variable {P : Program} {w : World} {A : Around} {E : Value → Shared → Prop} {s : Shared}
theorem set_skel {l : Addr} {items : Array Value} {Post : Heap → Prop} {Q : Value → Shared → Prop} (hh : A.handled = none) (hl : s.heap.IsList l items)
    (loop : ∀ (B : Around) (R : Result → Shared → Prop), B.handled = none → l ≠ (s.heap.push (fso w)).objs.size → (∀ t : Shared, Moved [s.heap.objs.size, (s.heap.push (fso w)).objs.size] (fun a b => b = a) { s with heap := (s.heap.push (fso w)).push (lit l) } t → Post t.heap → R (.ok (.ret .none)) t) →
      codeAny (model P w) B (.builtin "set.update.loop" ⟨[.ref s.heap.objs.size, .ref (s.heap.push (fso w)).objs.size], []⟩) R { s with heap := (s.heap.push (fso w)).push (lit l) })
    (fin : ∀ (h' : Heap) (tk : Nat), Post h' → (∀ b o, s.heap.get? b = some o → h'.get? b = some o) → Q (.ref s.heap.objs.size) { s with heap := h', toks := tk }) :
    wpAny (model P w) A (call (.type "set") [.ref l]) Q E s := by
  obtain ⟨_, _, mro⟩ := PySem.F.called_set.mro
  have made := PySem.F.called_set.made
  have subb := PySem.F.called_set.sub
  apply wpAny_call
  apply codeAny_of_tree
  change wpAny _ _ (callAny (.type "set") _) _ _ _
  apply wpAny_pure
  refine ⟨Code.quiet_builtin _ (by decide +kernel), codeAny_builtin PySem.F.entry_type_call ?_⟩
  rw [Around.under_plain (weight_type_call_type "set" [Value.ref l] []) rfl]
  have noT := PySem.F.called_set.notType
  have can := PySem.F.called_set.canCreate
  have tc := PySem.F.typeCall_set_1 (Value.ref l)
  repeat any_goals first | assumption | wp_step
  apply codeAny_mono (code_set_led1 (.ref l) (E := E) (Q₁ := fun obj t => obj = .ref s.heap.objs.size ∧ t = { s with heap := s.heap.push (fso w) }) ⟨rfl, rfl⟩)
  rintro r t res
  cases r with
  | error e => exact res
  | ok fl =>
    cases fl with
    | ret obj =>
      obtain ⟨rfl, rfl⟩ := res
      have here : (s.heap.push (fso w)).get? s.heap.objs.size = some (fso w) := Heap.get?_push_size _ rfl
      have isSet : Shared.TypeIs { s with heap := s.heap.push (fso w) } (.ref s.heap.objs.size) "set" := ⟨_, here, rfl⟩
      have ini := PySem.F.called_set.init.lookup
      have bnd := PySem.F.called_set.init.bind (.ref s.heap.objs.size)
      repeat any_goals first | assumption | wp_step
      apply codeAny_mono (codeAny_call_builtin (R := wants (fun r t => r = .none ∧ ∃ h' tk, t = { s with heap := h', toks := tk } ∧ Post h' ∧ (∀ b o, s.heap.get? b = some o → h'.get? b = some o)) E)
        PySem.F.called_set.init.plain PySem.F.entry_set_init (check_set_init_1 isSet ?_))
      · rintro r2 t2 res2
        cases r2 with
        | error e => exact res2
        | ok fl2 =>
          cases fl2 with
          | ret u =>
            obtain ⟨rfl, h', tk, rfl, post, keep⟩ := res2
            repeat any_goals first | assumption | wp_step
            exact fin _ _ post keep
          | _ => exact res2
      · obtain ⟨⟨oc, od, oda, osl⟩, got, isl, nl, dat⟩ := hl
        simp only at isl dat
        subst isl
        subst dat
        have got1 : (s.heap.push (fso w)).get? l = some ⟨.type "list", od, .seq items nl, osl⟩ := Heap.get?_push_of_some _ got
        have s1 := PySem.F.sub_list_set
        have s2 := PySem.F.sub_list_frozenset
        have nd : (Value.type "list" == Value.type "dict") = false := by decide
        have isL : (s.heap.push (fso w)).IsList l items := ⟨_, got1, rfl, nl, rfl⟩
        unfold Builtin.«set.__init__» noKeywords Builtin.Frozenset.updateFrom
        generalize eqI : pyIter = PI
        wp_walk
        subst eqI
        apply wpAny_pyIter_list isL
        apply wpAny_bind
        apply wpAny_runValue
        have below : l < s.heap.objs.size := Heap.lt_size got
        have sz : (s.heap.push (fso w)).objs.size = s.heap.objs.size + 1 := Heap.size_push ..
        apply loop
        · simp [hh]
        · rw [sz]
          exact Nat.ne_of_lt (Nat.lt_succ_of_lt below)
        · intro t mv post
          obtain ⟨h', g', d', tk', os'⟩ := t
          obtain rfl : g' = s.gens := mv.gens
          obtain rfl : d' = s.drawn := mv.drawn
          obtain rfl : os' = s.os := mv.os
          change wpAny _ _ _ _ _ _
          apply wpAny_pure
          change wpAny _ _ (ret Value.none) _ _ _
          apply wpAny_pure
          refine ⟨rfl, h', tk', rfl, post, fun b o e => ?_⟩
          have lt := Heap.lt_size e
          refine mv.heap b o ?_ (Heap.get?_push_of_some _ (Heap.get?_push_of_some _ e))
          simp only [List.mem_cons, List.not_mem_nil, or_false, not_or]
          exact ⟨Nat.ne_of_lt lt, by rw [sz]; exact Nat.ne_of_lt (Nat.lt_succ_of_lt lt)⟩
    | _ => exact res
end
end G
end S_GSet
section S_GSrt
set_option linter.all false
/-! GSrt: sorting, sets of members: plain facts. -/
namespace G
section
variable {α : Type} {le : α → α → Bool}
structure Ord (le : α → α → Bool) : Prop where
  tot : ∀ a b, le a b = true ∨ le b a = true
  tr : ∀ a b c, le a b = true → le b c = true → le a c = true
  anti : ∀ a b, le a b = true → le b a = true → a = b
theorem insB_comm (O : Ord le) (x y : α) : ∀ l : List α, insB le x (insB le y l) = insB le y (insB le x l)
  | [] => by
    by_cases h : le x y = true
    · by_cases h2 : le y x = true
      · rw [O.anti x y h h2]
      · simp [insB, h, h2]
    · have h2 : le y x = true := (O.tot x y).resolve_left h
      simp [insB, h, h2]
  | a :: l => by
    have ih := insB_comm O x y l
    by_cases hx : le x a = true <;> by_cases hy : le y a = true
    · simp only [insB, hx, hy, if_true]
      by_cases h : le x y = true <;> by_cases h2 : le y x = true
      · rw [O.anti x y h h2]
      · simp [h, h2, hx, hy, insB]
      · simp [h, h2, hx, hy, insB]
      · exact absurd ((O.tot x y).resolve_left h) h2
    · have h : le x y = true := O.tr x a y hx ((O.tot a y).resolve_right hy)
      have h2 : ¬ le y x = true := fun z => hy (O.tr y x a z hx)
      simp [insB, hx, hy, h, h2]
    · have h : le y x = true := O.tr y a x hy ((O.tot a x).resolve_right hx)
      have h2 : ¬ le x y = true := fun z => hx (O.tr x y a z hy)
      simp [insB, hx, hy, h, h2]
    · simp [insB, hx, hy, ih]
theorem srtB_perm (O : Ord le) {l m : List α} (p : l.Perm m) : srtB le l = srtB le m := by
  induction p with
  | nil => rfl
  | cons x _ ih => exact congrArg (insB le x) ih
  | swap x y l => exact insB_comm O y x _
  | trans _ _ ih1 ih2 => exact ih1.trans ih2
theorem srtB_id : ∀ {l : List α}, l.Pairwise (fun a b => le a b = true) → srtB le l = l
  | [], _ => rfl
  | x :: l, h => by
    obtain ⟨h1, h2⟩ := List.pairwise_cons.mp h
    show insB le x (srtB le l) = x :: l
    rw [srtB_id h2]
    cases l with
    | nil => rfl
    | cons y l =>
      unfold insB
      rw [if_pos (h1 y List.mem_cons_self)]
theorem srtB_uniq (O : Ord le) {l m : List α} (p : l.Perm m) (h : l.Pairwise (fun a b => le a b = true)) : l = srtB le m := by
  rw [← srtB_perm O p, srtB_id h]
theorem insB_mem {x y : α} : ∀ {l : List α}, y ∈ insB le x l ↔ y = x ∨ y ∈ l
  | [] => by simp [insB]
  | a :: l => by
    unfold insB
    split
    · simp
    · rw [List.mem_cons, insB_mem (l := l), List.mem_cons]
      constructor
      · rintro (h | h | h)
        · exact .inr (.inl h)
        · exact .inl h
        · exact .inr (.inr h)
      · rintro (h | h | h)
        · exact .inr (.inl h)
        · exact .inl h
        · exact .inr (.inr h)
theorem srtB_mem {y : α} : ∀ {l : List α}, y ∈ srtB le l ↔ y ∈ l
  | [] => Iff.rfl
  | x :: l => by
    show y ∈ insB le x (srtB le l) ↔ _
    rw [insB_mem, srtB_mem (l := l), List.mem_cons]
theorem insB_len {x : α} : ∀ {l : List α}, (insB le x l).length = l.length + 1
  | [] => rfl
  | a :: l => by
    unfold insB
    split
    · rfl
    · rw [List.length_cons, insB_len (l := l), List.length_cons]
theorem srtB_len : ∀ {l : List α}, (srtB le l).length = l.length
  | [] => rfl
  | x :: l => by
    show (insB le x (srtB le l)).length = _
    rw [insB_len, srtB_len (l := l), List.length_cons]
theorem insB_srt (O : Ord le) {x : α} : ∀ {l : List α}, l.Pairwise (fun a b => le a b = true) → (insB le x l).Pairwise (fun a b => le a b = true)
  | [], _ => List.pairwise_singleton _ _
  | a :: l, h => by
    obtain ⟨h1, h2⟩ := List.pairwise_cons.mp h
    unfold insB
    by_cases hx : le x a = true
    · rw [if_pos hx]
      refine List.pairwise_cons.mpr ⟨fun y hy => ?_, h⟩
      rcases List.mem_cons.mp hy with rfl | hy
      · exact hx
      · exact O.tr x a y hx (h1 y hy)
    · rw [if_neg hx]
      refine List.pairwise_cons.mpr ⟨fun y hy => ?_, insB_srt O h2⟩
      rcases insB_mem.mp hy with rfl | hy
      · exact (O.tot a y).resolve_right hx
      · exact h1 y hy
theorem srtB_srt (O : Ord le) : ∀ {l : List α}, (srtB le l).Pairwise (fun a b => le a b = true)
  | [] => List.Pairwise.nil
  | x :: l => insB_srt O (srtB_srt O (l := l))
end
theorem ordI : Ord leI := ⟨fun a b => by simp only [leI, decide_eq_true_eq]; omega, fun a b c => by simp only [leI, decide_eq_true_eq]; omega, fun a b => by simp only [leI, decide_eq_true_eq]; omega⟩
theorem leP_iff {a b : Int × Int} : leP a b = true ↔ a.1 < b.1 ∨ (a.1 = b.1 ∧ a.2 ≤ b.2) := by
  simp [leP]
theorem ordP : Ord leP := by
  refine ⟨fun a b => ?_, fun a b c => ?_, fun a b => ?_⟩
  · rw [leP_iff, leP_iff]
    omega
  · rw [leP_iff, leP_iff, leP_iff]
    omega
  · rw [leP_iff, leP_iff]
    intro h1 h2
    have e1 : a.1 = b.1 := by omega
    have e2 : a.2 = b.2 := by omega
    exact Prod.ext e1 e2
section
variable {α : Type} [DecidableEq α]
theorem ddup_mem {y : α} : ∀ {l : List α}, y ∈ ddup l ↔ y ∈ l
  | [] => Iff.rfl
  | x :: l => by
    unfold ddup
    split
    · rename_i h
      rw [ddup_mem (l := l), List.mem_cons]
      exact ⟨.inr, fun z => z.elim (fun e => by rw [e]; exact ddup_mem.mp h) id⟩
    · rw [List.mem_cons, ddup_mem (l := l), List.mem_cons]
theorem ddup_nodup : ∀ {l : List α}, (ddup l).Nodup
  | [] => List.nodup_nil
  | x :: l => by
    unfold ddup
    split
    · exact ddup_nodup
    · rename_i h
      exact List.nodup_cons.mpr ⟨h, ddup_nodup⟩
theorem nodup_perm : ∀ {l m : List α}, l.Nodup → m.Nodup → (∀ x, x ∈ l ↔ x ∈ m) → l.Perm m
  | [], m, _, _, h => by
    cases m with
    | nil => exact List.Perm.refl _
    | cons y m => exact absurd ((h y).mpr List.mem_cons_self) (by simp)
  | x :: l, m, hl, hm, h => by
    obtain ⟨h1, h2⟩ := List.nodup_cons.mp hl
    have hx : x ∈ m := (h x).mp List.mem_cons_self
    have p := List.perm_cons_erase hx
    refine List.Perm.trans (List.Perm.cons x (nodup_perm h2 (hm.erase x) fun y => ?_)) p.symm
    rw [hm.mem_erase_iff]
    constructor
    · intro hy
      exact ⟨fun e => h1 (by rw [← e]; exact hy), (h y).mp (List.mem_cons_of_mem _ hy)⟩
    · rintro ⟨ne, hy⟩
      exact (List.mem_cons.mp ((h y).mpr hy)).resolve_left ne
theorem ddup_len_rev {l : List α} : (ddup l.reverse).length = (ddup l).length :=
  (nodup_perm ddup_nodup ddup_nodup fun x => by rw [ddup_mem, ddup_mem, List.mem_reverse]).length_eq
theorem ddup_id : ∀ {l : List α}, l.Nodup → ddup l = l
  | [], _ => rfl
  | x :: l, h => by
    obtain ⟨h1, h2⟩ := List.nodup_cons.mp h
    unfold ddup
    rw [ddup_id h2, if_neg h1]
theorem ddup_le : ∀ l : List α, (ddup l).length ≤ l.length
  | [] => Nat.le_refl _
  | x :: l => by
    have := ddup_le l
    unfold ddup
    split
    · rw [List.length_cons]; omega
    · rw [List.length_cons, List.length_cons]; omega
theorem ddup_cons {x : α} {l : List α} : (ddup (x :: l)).length = if x ∈ l then (ddup l).length else (ddup l).length + 1 := by
  by_cases h : x ∈ l
  · rw [if_pos h]
    show (if x ∈ ddup l then ddup l else x :: ddup l).length = _
    rw [if_pos (ddup_mem.mpr h)]
  · rw [if_neg h]
    show (if x ∈ ddup l then ddup l else x :: ddup l).length = _
    rw [if_neg fun z => h (ddup_mem.mp z)]
    rfl
theorem ddup_nodup_iff : ∀ {l : List α}, (ddup l).length = l.length ↔ l.Nodup
  | [] => by simp [ddup]
  | x :: l => by
    have ih := ddup_nodup_iff (l := l)
    have le := ddup_le l
    rw [List.nodup_cons]
    unfold ddup
    split
    · rename_i h
      rw [List.length_cons]
      constructor
      · intro e
        omega
      · rintro ⟨h1, _⟩
        exact absurd (ddup_mem.mp h) h1
    · rename_i h
      rw [List.length_cons, List.length_cons]
      constructor
      · intro e
        exact ⟨fun z => h (ddup_mem.mpr z), ih.mp (by omega)⟩
      · rintro ⟨_, h2⟩
        have := ih.mpr h2
        omega
end
end G
end S_GSrt
section S_GSrtT
set_option linter.all false
set_option maxRecDepth 100000
set_option maxHeartbeats 2000000
/-! GSrtT: sorted of a tuple of ints. -/
namespace PyProof.Rows
open PySem PySem.Spec SrtO
section
variable {prog : Program} {w : World} {A : Around} {E : Value → Shared → Prop} {s : Shared}
theorem collectT {l : Addr} {vs : List Value} {Q : List Value → Shared → Prop} (hl : s.heap.IsTuple l vs.toArray)
    (h : Q vs { s with heap := (s.heap.push (seqObj "list" #[] 0)).update s.heap.objs.size (Obj.mapSeq (· ++ vs.toArray)) }) (hsz : vs.length ≤ sizeLine) : wpAny (model prog w) A (collect (.ref l)) Q E s := by
  obtain ⟨o, ho, hc, n, hd⟩ := id hl
  unfold collect
  refine wpAny_bind (wpAny_runValue (codeAny_builtin entry_proto_collect' ?_))
  show wpAny _ _ (do again (.builtin "list.__iadd__" ⟨[← newList [], .ref l], []⟩)) _ _ s
  refine wpAny_bind (wpAny_newList (wpAny_pure (show _ ∧ _ from ⟨Code.quiet_builtin _ (by decide +kernel), codeAny_builtin entry_list_iadd' ?_⟩)))
  show wpAny _ _ (Builtin.List.listExtendWith (.ref s.heap.objs.size) (.ref l) (.ref s.heap.objs.size)) _ _ { s with heap := s.heap.push (seqObj "list" #[] 0) }
  unfold Builtin.List.listExtendWith
  have old : (s.heap.push (seqObj "list" #[] 0)).get? l = some o := Heap.get?_push_of_some _ ho
  refine wpAny_bind (wpAny_typeOf (T := "tuple") ⟨o, old, hc⟩ ?_)
  have ht : (Value.type "tuple" == Value.type "tuple") = true := by rfl
  rw [if_pos (by rw [ht]; simp)]
  refine wpAny_bind (listItems_at old hd ?_)
  refine wpAny_bind (listItems_at (xs := #[]) (n := 0) (Heap.get?_push_size _ rfl) rfl (?_))
  rw [if_neg (by simp)]
  refine wpAny_bind (listUpdate_at (xs := #[]) (n := 0) (Heap.get?_push_size _ rfl) rfl ?_ (Nat.zero_le _) (by rw [show ((#[] : Array Value) ++ vs.toArray).size = vs.length by simp]; omega))
  refine wpAny_pure (?_)
  show wpAny (model prog w) A (load s.heap.objs.size >>= _) Q E { s with heap := (s.heap.push (seqObj "list" #[] 0)).update s.heap.objs.size (Obj.mapSeq (· ++ vs.toArray)) }
  refine wpAny_bind (wpAny_load (get?_update_seq (Heap.get?_push_size _ rfl) _) (?_))
  show wpAny _ _ (pure ((#[] : Array Value) ++ vs.toArray).toList) Q E _
  have e : ((#[] : Array Value) ++ vs.toArray).toList = vs := by simp
  rw [e]
  exact wpAny_pure h
theorem sortedT {l : Addr} {vs : List Value} {ltv : Value → Value → Bool} {Q : Value → Shared → Prop} (O : Swo ltv) (hl : s.heap.IsTuple l vs.toArray) (hz : vs.length ≤ sizeLine)
    (hS : 2 ≤ vs.length → ∀ (h1 : Heap) (a : Addr), h1.get? a = some (seqObj "list" vs.toArray 0) → (∀ b o, s.heap.get? b = some o → b ≠ a ∧ h1.get? b = some o) → SortableO prog w A.in1.in1 { s with heap := h1 } a vs ltv)
    (h : ∀ out : List Value, Srtd ltv out → Stb ltv out vs → Q (.ref (s.heap.objs.size + 1)) { s with heap := sortedAll s.heap vs out.toArray }) : wpAny (model prog w) A (call (.builtin "sorted") [.ref l]) Q E s := by
  refine Calls.call_function_entry kind_sorted plain_sorted entry_sorted (args_sorted1 _) (?_)
  unfold Builtin.«sorted»
  refine wpAny_bind (m := checkCount "sorted" 1 1 _) (wpAny_pure (?_))
  refine wpAny_bind (collectT hl ?_ hz)
  refine wpAny_bind (wpAny_newList ?_ hz)
  generalize hH : (s.heap.push (seqObj "list" #[] 0)).update s.heap.objs.size (Obj.mapSeq (· ++ vs.toArray)) = h2
  have sz : h2.objs.size = s.heap.objs.size + 1 := by rw [← hH, Heap.size_update, size_push']
  have at_ : (h2.push (seqObj "list" vs.toArray 0)).get? (s.heap.objs.size + 1) = some (seqObj "list" vs.toArray 0) := by
    rw [← sz]
    exact Heap.get?_push_size _ rfl
  have old : ∀ b o, s.heap.get? b = some o → b ≠ s.heap.objs.size + 1 ∧ (h2.push (seqObj "list" vs.toArray 0)).get? b = some o := fun b o q => by
    have lt := Heap.lt_size q
    refine ⟨Nat.ne_of_lt (Nat.lt_succ_of_lt lt), Heap.get?_push_of_some _ ?_⟩
    rw [← hH, Heap.get?_update_ne _ _ _ _ (Nat.ne_of_lt lt)]
    exact Heap.get?_push_of_some _ q
  show wpAny _ _ _ _ _ { s with heap := h2.push (seqObj "list" vs.toArray 0) }
  rw [sz]
  refine wpAny_bind (wpAny_holding (wpAny_call_entry slot_list_sort ⟨_, at_, rfl⟩ entry_list_sort (list_sort_ord O at_ hz (fun z => hS z _ _ at_ old) fun out o1 o2 => ⟨_, rfl, ?_⟩) (args_list_sort _)))
  have z := h out o1 o2
  unfold sortedAll at z
  rw [hH] at z
  exact wpAny_pure ⟨_, rfl, z⟩
end
end PyProof.Rows
namespace G
open PySem PySem.Spec PyProof.Rows L2
theorem cr_sortedTI {X : L2.Cx} : CallR X (.builtin "sorted") (fun vs H Q => ∃ (a : Addr) (ns : List Int), vs = [.ref a] ∧ SqT X.K H a (ns.map V.int) ∧ ∀ (ns' : List Int) (p : Addr), ns'.Perm ns → ns'.Pairwise (· ≤ ·) → H p = none → Q (.ref p) (upd H p (.lst (ns'.map V.int)))) := by
  intro pins s σ H vs us Q I r h
  obtain ⟨a, ns, rfl, hs, q⟩ := h
  obtain ⟨its, rv, hl, hz⟩ := I.tuple hs
  rw [Vals.ref1 r]
  have hi := rv.ints
  refine PyProof.Rows.sortedT SrtO.swo_int (show s.heap.IsTuple a its.toArray from hl) (by rw [← rv.length]; exact hz) (fun z h1 a' _ _ => SrtO.ints_sortable hi z) fun out h1 h2 => ?_
  obtain ⟨k1, k2, k3⟩ := SrtO.ints_out hi h1 h2
  obtain ⟨ep, he⟩ := PyProof.Rows.sortedAll_at s.heap its out.toArray
  have hlen : ((out.map SrtO.iv).map V.int).length ≤ sizeLine := by
    rw [List.length_map, k2.length_eq]
    rw [List.length_map] at hz
    exact hz
  exact ⟨.ref _, upd H (s.heap.objs.size + 1) (.lst ((out.map SrtO.iv).map V.int)), I.laid (t' := s.toks) (fun _ _ => PyProof.Rows.sortedAll_old) (Nat.le_succ _) ⟨hlen, out, ep, vals_of_ints k1, he⟩, rfl, q _ _ k2 k3 (I.hok.fresh (Nat.le_succ _))⟩
end G
end S_GSrtT
section S_GSort
set_option linter.all false
set_option maxRecDepth 100000
set_option maxHeartbeats 3200000
/-! GSort: sorted, len(set(..)), sorted(set(..)). -/
namespace G
open PySem PySem.Spec PyProof.Rows L2

/-! ### sorted -/
/-- a pair's numbers, read from the heap -/
def keyH (h : Heap) : Value → Int × Int
  | .ref a => match h.get? a with
    | some o => match o.data with
      | .seq its _ => match its.toList with
        | [.int x _, .int y _] => (x, y)
        | _ => (0, 0)
      | _ => (0, 0)
    | none => (0, 0)
  | _ => (0, 0)
theorem keyH_pair {h : Heap} {v : Value} {x y : Int} (p : Srt.IsPair h v x y) : keyH h v = (x, y) := by
  obtain ⟨a, o, t, u, n, rfl, e, _, d⟩ := p
  unfold keyH
  simp only [e, d]
theorem pairs_get : ∀ {ds : List D} {ps : List (Int × Int)}, asPairs ds = some ps → ds = ps.map fun p => .tup [.int p.1, .int p.2]
  | [], ps, h => by
    cases h
    rfl
  | d :: r, ps, h => by
    unfold asPairs at h
    split at h
    · rename_i heq
      cases heq
    · rename_i i j r' heq
      cases heq
      cases e : asPairs r with
      | none => rw [e] at h; cases h
      | some t =>
        rw [e] at h
        cases h
        rw [List.map_cons, ← pairs_get e]
    · cases h
section
variable {X : L2.Cx} {pins : List (Addr × Obj)} {s : Shared} {σ : L2.St} {H F : Hp} {r : List Addr} {S : List Cell}
/-- pairs, as they lie -/
theorem pairs_lie (I : Inv X pins σ H s) (R : Rel X.K F H r S) : ∀ {ps : List (Int × Int)} {xs : List V} {us : List Value}, RpL X.K F r xs (ps.map fun p => .tup [.int p.1, .int p.2]) → Vals xs us →
    us.map (keyH s.heap) = ps ∧ ∀ u ∈ us, Srt.IsPair s.heap u (keyH s.heap u).1 (keyH s.heap u).2 ∧ ∃ a, u = .ref a ∧ Rp X.K F r (.ref a) (.tup [.int (keyH s.heap u).1, .int (keyH s.heap u).2])
  | [], _, _, .nil, .nil => ⟨rfl, fun u hu => nomatch hu⟩
  | p :: ps, x :: xs, u :: us, .cons h1 _ t, .cons r1 rt => by
    obtain ⟨q1, q2⟩ := pairs_lie I R t rt
    cases h1 with
    | @tup a vs _ hq ht =>
      cases (show u = Value.ref a from r1)
      obtain ⟨its, rv, ⟨o, ho, hc, n, hd⟩, hz⟩ := I.tuple (R.sqt hq)
      cases ht with
      | cons g1 _ ht =>
        cases ht with
        | cons g2 _ ht =>
          cases ht
          cases Rp.toInt g1
          cases Rp.toInt g2
          obtain ⟨u1, u2, rfl, ri, rj⟩ := vals2 rv
          obtain ⟨t1, rfl⟩ := ri
          obtain ⟨t2, rfl⟩ := rj
          have ip : Srt.IsPair s.heap (.ref a) p.1 p.2 := ⟨a, o, t1, t2, n, rfl, ho, hc, hd⟩
          have ek := keyH_pair ip
          refine ⟨by rw [List.map_cons, ek, q1], fun u hu => ?_⟩
          rcases List.mem_cons.mp hu with rfl | hu
          · rw [ek]
            exact ⟨ip, a, rfl, .tup hq (.cons g1 rfl (.cons g2 rfl .nil))⟩
          · exact q2 u hu
theorem leP_lex {a b : Int × Int} : SrtO.lexB b a = false ↔ leP a b = true := by
  rw [leP_iff, ← Bool.not_eq_true, SrtO.lexB_iff]
  omega
theorem back_list {K : Fg} (k : Value → Int × Int) : ∀ {us : List Value}, (∀ u ∈ us, ∃ a, u = .ref a ∧ Rp K F r (.ref a) (.tup [.int (k u).1, .int (k u).2])) → ∃ xs, Vals xs us ∧ RpL K F r xs ((us.map k).map fun p => .tup [.int p.1, .int p.2])
  | [], _ => ⟨[], .nil, .nil⟩
  | u :: us, h => by
    obtain ⟨xs, h1, h2⟩ := back_list k fun v hv => h v (List.mem_cons_of_mem _ hv)
    obtain ⟨a, rfl, ha⟩ := h u List.mem_cons_self
    exact ⟨.ref a :: xs, .cons rfl h1, .cons ha rfl h2⟩
theorem snd_sorted : CallR X (.builtin "sorted") (rBX X.K (pB .sorted)) := by
  intro pins s σ H xs us Q I rx h
  obtain ⟨F, r, S, ds, d, R, ra, e, q⟩ := h
  cases ra with
  | nil => cases e
  | @cons v d0 vs ds0 h1 t =>
    cases t with
    | cons _ _ => cases d0 <;> cases e
    | nil =>
      cases d0 with
      | lst ds =>
        obtain ⟨a, ys, rfl, hs, tx⟩ := h1.lst R
        have e : (if ds.length ≤ lim then match asPairs ds with
          | some ps => some (.lst ((srtP ps).map fun p => .tup [.int p.1, .int p.2]))
          | none => (asInts ds).map fun ns => .lst ((srtI ns).map .int)
          else none) = some d := e
        by_cases hl : ds.length ≤ lim
        · rw [if_pos hl] at e
          cases hp : asPairs ds with
          | some ps =>
            rw [hp] at e
            cases e
            have ed := pairs_get hp
            subst ed
            obtain ⟨its, rv, il, hz⟩ := I.list hs
            rw [Vals.ref1 rx]
            obtain ⟨k1, k2⟩ := pairs_lie I R tx rv
            refine SrtO.sorted_pairsO (k := keyH s.heap) il.isList (by rw [← rv.length]; exact hz) (fun v hv => (k2 v hv).1) fun h' p out h1 h2 kp hd hn => ?_
            obtain ⟨n, hn⟩ := hn
            obtain ⟨zs, z1, z2⟩ := back_list (F := F) (r := r) (K := X.K) (keyH s.heap) (us := out) fun u hu => (k2 u (h2.perm.mem_iff.mp hu)).2
            have eo : out.map (keyH s.heap) = srtP ps := by
              rw [← k1]
              refine srtB_uniq ordP (h2.perm.map _) (List.pairwise_map.mpr (h1.imp fun {a b} hab => leP_lex.mp hab))
            rw [eo] at z2
            have hn0 : H p = none := I.hok.fresh hd
            refine ⟨.ref p, upd H p (.lst zs), I.laid (t' := s.toks) kp hd ⟨?_, out, n, z1, hn⟩, rfl, q p zs z2 hn0⟩
            rw [z1.length, h2.perm.length_eq, ← rv.length]
            exact hz
          | none =>
            rw [hp] at e
            cases hi : asInts ds with
            | none => rw [hi] at e; cases e
            | some ns =>
              rw [hi] at e
              cases e
              obtain ⟨ey, _⟩ := tx.ints hi
              subst ey
              refine cr_sortedI pins s σ H _ us Q I rx ⟨a, ns, rfl, hs, fun ns' p pm so hp => ?_⟩
              have eo : ns' = srtI ns := srtB_uniq ordI pm (so.imp fun {a b} hab => by simpa [leI] using hab)
              rw [eo]
              exact q p _ (RpL.of_ints _) hp
        · rw [if_neg hl] at e
          cases e
      | tup ds =>
        obtain ⟨a, ys, rfl, hs, tx⟩ := h1.tup R
        have e : (if ds.length ≤ lim then (asInts ds).map fun ns => .lst ((srtI ns).map .int) else none) = some d := e
        by_cases hl : ds.length ≤ lim
        · rw [if_pos hl] at e
          cases hi : asInts ds with
          | none => rw [hi] at e; cases e
          | some ns =>
            rw [hi] at e
            cases e
            obtain ⟨ey, _⟩ := tx.ints hi
            subst ey
            refine cr_sortedTI pins s σ H _ us Q I rx ⟨a, ns, rfl, hs, fun ns' p pm so hp => ?_⟩
            have eo : ns' = srtI ns := srtB_uniq ordI pm (so.imp fun {a b} hab => by simpa [leI] using hab)
            rw [eo]
            exact q p _ (RpL.of_ints _) hp
        · rw [if_neg hl] at e
          cases e
      | _ => cases e
end

/-! ### of a set -/
/-- a built-in function of set(e) -/
theorem pe_ofSet {X : L2.Cx} {nm : Str} {id : String} {xa : Expr} {te : TE} {rr : V → Hp → VK → Prop} {p p2 q pos : Pos} (hg : Gl X nm) (hm : X.mg nm = none) (hv : bootBuiltins nm = some (.builtin id)) (hn : nm ≠ "__name__") (hdb : (nm == ("__debug__" : Str)) = false) (hg2 : Gl X "set") (hm2 : X.mg "set" = none) (ns : noStar xa = true) (ha : PE X xa te)
    (core : ∀ pins s σ H x u Q, Inv X pins σ H s → RelV x u → rr x H Q → wpAny (model X.prog X.w) X.A (call (.type "set") [u]) (fun v t => wpAny (model X.prog X.w) X.A (call (.builtin id) [v]) (EP X pins σ Q) X.xe t) X.xe s) :
    PE X (.Call (.Name nm p) [.Call (.Name "set" p2) [xa] [] q] [] pos) (fun σ H Q => te σ H fun x H1 => rr x H1 Q) := by
  constructor
  intro pins s σ H Q I h
  apply Call_ (ld_blt I hg hm hv ?_ hn hdb)
  apply PyProof.Rows.callWith_builtin1 (PyProof.Rows.args_cons ?_ rfl) rfl rfl
  apply Call_ (ld_blt I hg2 hm2 boot_set ?_)
  apply PyProof.Rows.callWith_type1 (PyProof.Rows.args_cons (thn (ha.run pins s σ H _ I h) ?_) (star_cons ns)) (star_cons ns) rfl
  rintro u s1 ⟨x, H1, I1, r1, q1⟩
  apply PyProof.Rows.args_nil
  exact thn (core pins s1 σ H1 x u Q I1 r1 q1) fun v t hh => PyProof.Rows.args_nil hh

section
variable {P : Program} {w : World} {A : Around} {E : Value → Shared → Prop} {s : Shared}
theorem lit_is {h : Heap} {l : Addr} : (h.push (lit l)).IsListIter h.objs.size l 0 := ⟨_, Heap.get?_push_size _ rfl, rfl, rfl⟩
/-- set(l), ints -/
theorem set_ints {l : Addr} {items : Array Value} {ns : List Int} {Q : Value → Shared → Prop} (hh : A.handled = none) (hl : s.heap.IsList l items) (hi : IntsAre items.toList ns) (hb : ns.length + 1 < scanBound)
    (fin : ∀ (h' : Heap) (tk c : Nat), SetR w h' s.heap.objs.size (fun j => decide (j ∈ ns)) c → (∀ b o, s.heap.get? b = some o → h'.get? b = some o) → Q (.ref s.heap.objs.size) { s with heap := h', toks := tk }) : wpAny (model P w) A (call (.type "set") [.ref l]) Q E s := by
  have len : items.size = ns.length := by
    have := IntsAre.length hi
    rw [Array.length_toList] at this
    exact this
  refine set_skel (Post := fun h' => ∃ c, SetR w h' s.heap.objs.size (fun j => decide (j ∈ ns)) c) hh hl (fun B R hB ne done => ?_) fun h' tk ⟨c, post⟩ keep => fin h' tk c post keep
  have sz : (s.heap.push (fso w)).objs.size = s.heap.objs.size + 1 := Heap.size_push ..
  obtain ⟨ol, got, _⟩ := id hl
  have below : l < s.heap.objs.size := Heap.lt_size got
  have vals : ∀ (i : Nat) (v : Value), items[i]? = some v → ∃ k t, ns[i]? = some k ∧ v = .int k t := by
    intro i v hv
    have lt : i < ns.length := by rw [← len]; exact (Array.getElem?_eq_some_iff.mp hv).1
    obtain ⟨t, e⟩ := IntsAre.int_at hi i v (by rw [Array.getElem?_toList]; exact hv)
    refine ⟨ns[i], t, List.getElem?_eq_getElem lt, ?_⟩
    rw [e, List.getD_eq_getElem?_getD, List.getElem?_eq_getElem lt]
    rfl
  have hB1 : B.in1.handled = none := hB
  have here : ((s.heap.push (fso w)).push (lit l)).get? s.heap.objs.size = some (fso w) := Heap.get?_push_of_some _ (Heap.get?_push_size _ rfl)
  refine set_update_ints ((Walks.list hB1 _ l ne items).toS) s.heap.objs.size ?_ ns len hb vals (items.size - 0) 0 _ (by omega) (Nat.zero_le _) ⟨lit_is, (hl.push _).push _⟩ ⟨0, Nat.le_refl 0, setR_new_at here⟩ fun t c mv _ post => done t mv ⟨c, post⟩
  rw [sz]
  simp only [List.mem_cons, List.not_mem_nil, or_false, not_or]
  exact ⟨Nat.ne_of_lt (Nat.lt_succ_self _), Nat.ne_of_gt below⟩
theorem setR_len {a : Addr} {ns : List Int} {c : Nat} {Q : Value → Shared → Prop} (R : SetR w s.heap a (fun j => decide (j ∈ ns)) c) (h : Q (.int (ddup ns).length (s.toks + 1)) { s with toks := s.toks + 1 + 1 }) : wpAny (model P w) A (call (.builtin "len") [.ref a]) Q E s := by
  obtain ⟨o, es, ep, t, ho, hex, hd, g, nd, hm, hb, hf, hn, _, _⟩ := R
  have e : es.size = (ddup ns).length := by
    have p : (es.toList.map keyOf).Perm (ddup ns) := nodup_perm nd ddup_nodup fun k => by
      rw [ddup_mem, ← hm k, decide_eq_true_eq]
    have := p.length_eq
    rw [List.length_map, Array.length_toList] at this
    exact this
  refine call_len_set ho hex hd hf ?_ (by rw [e]; exact h)
  have : es.size < 4096 := hb
  omega
/-- sorted(a set of ints), any size -/
theorem setR_sorted {a : Addr} {T : Int → Bool} {n : Nat} {Q : Value → Shared → Prop} (R : SetR w s.heap a T n) (hh : A.handled = none)
    (fin : ∀ t p (out : Array Value) (c : Nat) (ns : List Int), (∀ b o, s.heap.get? b = some o → t.heap.get? b = some o) → t.gens = s.gens → t.os = s.os → s.heap.objs.size ≤ p → t.heap.get? p = some (seqObj "list" out c) →
      IntsAre out.toList ns → ns.Pairwise (· ≤ ·) → ns.Nodup → (∀ k, k ∈ ns ↔ T k = true) → ns.length ≤ sizeLine → Q (.ref p) t) : wpAny (model P w) A (call (.builtin "sorted") [.ref a]) Q E s := by
  obtain ⟨o, es, ep, t, ho, hex, hd, good, nd, mem, bd, ft, _, ri, ld⟩ := R
  apply Calls.call_function_entry kind_sorted plain_sorted entry_sorted (args_sorted1 _)
  unfold Builtin.«sorted»
  apply wpAny_bind (m := checkCount "sorted" 1 1 _)
  apply wpAny_pure
  apply wpAny_bind (collect_set (A := A.in1) hh ⟨o, ho, hex.1, hd⟩ ft bd ri ld ?_)
  intro s1 vs keep le1 g1 o1 pm
  have small : vs.length ≤ sizeLine := by
    rw [pm.length_eq, List.length_map, Array.length_toList, sizeLine_eq]
    have : es.size < 4096 := bd
    omega
  have allI : IntsAre vs (vs.map Builtin.Re.reRawOf) := by
    apply ints_of
    intro v hv
    obtain ⟨e, he, eq⟩ := List.mem_map.mp (pm.mem_iff.mp hv)
    obtain ⟨k, tk, h1, _⟩ := good e he
    exact ⟨k, tk, by rw [← eq]; exact h1⟩
  have keys : (vs.map Builtin.Re.reRawOf).Perm (es.toList.map keyOf) := by
    have := pm.map Builtin.Re.reRawOf
    rw [List.map_map] at this
    exact this
  apply wpAny_bind (wpAny_newList ?_ small)
  have new : (s1.heap.push (seqObj "list" vs.toArray 0)).get? s1.heap.objs.size = some (seqObj "list" vs.toArray 0) := Heap.get?_push_size _ rfl
  apply wpAny_bind
  apply wpAny_holding
  refine wpAny_call_entry slot_list_sort ⟨_, new, rfl⟩ entry_list_sort (SrtO.list_sort_ord SrtO.swo_int new small (fun two => SrtO.ints_sortable allI two) fun out h1 h2 => ⟨_, rfl, ?_⟩) (args_list_sort _)
  obtain ⟨k1, k2, k3⟩ := SrtO.ints_out allI h1 h2
  obtain ⟨c, hc⟩ := sortedHeap_at (vs := vs) (out := out.toArray) new
  have all := k2.trans keys
  apply wpAny_pure
  refine ⟨_, rfl, fin _ s1.heap.objs.size out.toArray c _ (fun b u e => ?_) g1 o1 le1 hc k1 k3 (all.nodup_iff.mpr nd) (fun k => by rw [all.mem_iff, ← mem k]) ?_⟩
  · have old := keep b u e
    have lt := Heap.lt_size old
    change (sortedHeap (s1.heap.push (seqObj "list" vs.toArray 0)) s1.heap.objs.size vs out.toArray).get? b = some u
    rw [sortedHeap_old (Nat.ne_of_lt lt) (by rw [size_push']; exact Nat.lt_succ_of_lt lt)]
    exact Heap.get?_push_of_some _ old
  · rw [k2.length_eq, List.length_map]
    exact small
end
section
variable {XR : XRel} {C : G.Cx} {X : L2.Cx} {W : L2.WX} {p p2 q pos : Pos} {a : E} {xa : Expr}
theorem ints_get : ∀ {ds : List D} {ns : List Int}, asInts ds = some ns → ds = ns.map D.int
  | [], ns, h => by
    cases h
    rfl
  | x :: r, ns, h => by
    cases x with
    | int i =>
      have h : (asInts r).map (i :: ·) = some ns := h
      cases e : asInts r with
      | none => rw [e] at h; cases h
      | some t =>
        rw [e] at h
        cases h
        rw [List.map_cons, ← ints_get e]
    | _ => cases h
theorem sortset_of {d d2 : D} (h : pB .sortset [d] = some d2) : ∃ ds ns, d = .lst ds ∧ asInts ds = some ns ∧ ns.length ≤ setLim ∧ d2 = .lst ((srtI (ddup ns)).map .int) := by
  cases d with
  | lst ds =>
    have h : (if ds.length ≤ setLim then (asInts ds).map fun ns => D.lst ((srtI (ddup ns)).map .int) else none) = some d2 := h
    by_cases hl : ds.length ≤ setLim
    · rw [if_pos hl] at h
      cases hi : asInts ds with
      | none => rw [hi] at h; cases h
      | some ns =>
        rw [hi] at h
        cases h
        refine ⟨ds, ns, rfl, hi, ?_, rfl⟩
        have := ints_get hi
        rw [this, List.length_map] at hl
        exact hl
    · rw [if_neg hl] at h
      cases h
  | _ => cases h
theorem new_ints {pins : List (Addr × Obj)} {s t : Shared} {σ : L2.St} {H : Hp} {Q : VK} {p : Addr} {out : Array Value} {c : Nat} {zs : List Int} (I : Inv X pins σ H s) (k : ∀ b o, s.heap.get? b = some o → t.heap.get? b = some o) (g : t.gens = s.gens) (o : t.os = s.os) (hp : s.heap.objs.size ≤ p)
    (hg : t.heap.get? p = some (seqObj "list" out c)) (hi : IntsAre out.toList zs) (hz : zs.length ≤ sizeLine) (q : H p = none → Q (.ref p) (upd H p (.lst (zs.map V.int)))) : EP X pins σ Q (.ref p) t := by
  have hn : H p = none := I.hok.fresh hp
  have J : Inv X pins σ (upd H p (.lst (zs.map V.int))) { s with heap := t.heap, gens := t.gens, drawn := t.drawn, toks := t.toks } :=
    I.call (ch := []) (Un.laid k hp hn) (I.hok.laid k hp ⟨by rw [List.length_map]; exact hz, out.toList, c, vals_of_ints hi, hg⟩) (by rw [g]; exact I.bare) fun _ z => nomatch z
  have et : t = { s with heap := t.heap, gens := t.gens, drawn := t.drawn, toks := t.toks } := by
    cases t
    cases s
    cases o
    rfl
  rw [et]
  exact ⟨.ref p, _, J, rfl, q hn⟩
theorem e_sortset (hc : X.calm = true) (hg : Gl X "sorted") (hm : X.mg "sorted" = none) (hg2 : Gl X "set") (hm2 : X.mg "set" = none) (ns : noStar xa = true) (ha : PE X xa (tE X.K XR W C a)) :
    PE X (.Call (.Name "sorted" p) [.Call (.Name "set" p2) [xa] [] q] [] pos) (tEX X.K XR W C (.blt .sortset [a])) := by
  refine pe_imp (pe_ofSet (rr := fun x H Q => ∃ F r S d d2, Rel X.K F H r S ∧ RpW X.K F H r x d ∧ pB .sortset [d] = some d2 ∧ ResX X.K F H r S d2 Q) hg hm boot_sorted (by decide) (by decide) hg2 hm2 ns ha ?_) fun σ H Q ⟨F, r, sl, S, R, so, h⟩ => ?_
  · intro pins s σ H x u Q I rx ⟨F, r, S, d, d2, R, hx, e, qq⟩
    obtain ⟨ds, ns, rfl, hi, hl, rfl⟩ := sortset_of e
    obtain ⟨l, ys, rfl, hs, tx⟩ := hx.lst R
    obtain ⟨rfl, _⟩ := tx.ints hi
    cases (show u = Value.ref l from rx)
    obtain ⟨its, rv, il, hz⟩ := I.list hs
    have hi2 := rv.ints
    refine set_ints (I.ok.hd hc) il.isList (by simpa using hi2) (by unfold scanBound; unfold setLim at hl; omega) fun h' tk c post keep => ?_
    have I2 : Inv X pins σ H { s with heap := h', toks := tk } := I.kept keep
    refine setR_sorted post (I.ok.hd hc) fun t p out c2 zs k g o hp hg hi hs nd hm hz => ?_
    have e : zs = srtI (ddup ns) := by
      refine srtB_uniq ordI (nodup_perm nd ddup_nodup fun k => ?_) (hs.imp fun {a b} hab => by simpa [leI] using hab)
      rw [hm k, ddup_mem, decide_eq_true_eq]
    subst e
    exact new_ints I2 k g o hp hg hi hz (fun hn => qq p _ (RpL.of_ints _) hn)
  · unfold evE evL evL at h
    have h : PostE X.K XR W F H r σ ((evE C a sl S).bind fun d S => Rs.of S (pB .sortset [dr S d])) fun d S' F' H' r' => FrX X.K H F' H' r' d Q := by
      generalize evE C a sl S = m at h ⊢
      cases m <;> exact h
    refine tE.one h R so fun x d F' H' r' S' ex R' rx h' => ?_
    obtain ⟨z, hz, qq⟩ := h'.of
    exact ⟨F', r', S', _, z, R', rx.b.dr R', hz, FrX.res ex R' qq⟩
end

/-! ### sets of texts -/
section
variable {P : Program} {w : World} {B : Around} {R : Result → Shared → Prop} {I : Addr} {fp wr : List Addr} {n : Nat} {Pv : Nat → Value → Prop} {St : Nat → Shared → Prop}
theorem upd_strs (W : WalksS P w B.in1 I fp wr (fun a b => b = a) n Pv St) (S : Addr) (out : S ∉ fp) (xs : List Str) (hn : n = xs.length) (hb : xs.length + 1 < scanBound) (vals : ∀ i v, Pv i v → ∃ x t, xs[i]? = some x ∧ v = .str x t) (m : Nat) : ∀ (i : Nat) (s : Shared), n - i = m → i ≤ n → St i s →
    s.heap.SetOf (PySem.strKind P w) S (fun y => decide (y ∈ xs.take i)) (ddup (xs.take i).reverse).length →
    (∀ t, Moved (S :: wr) (fun a b => b = a) s t → t.heap.SetOf (PySem.strKind P w) S (fun y => decide (y ∈ xs)) (ddup xs.reverse).length → R (.ok (.ret .none)) t) →
    codeAny (model P w) B (.builtin "set.update.loop" ⟨[.ref S, .ref I], []⟩) R s := by
  have nw : S ∉ wr := fun z => out (W.sub _ z)
  have up : ∀ c ∈ wr, c ∈ S :: wr := fun c z => List.mem_cons_of_mem _ z
  have stay : ∀ {t t' : Shared} {T : Str → Bool} {c : Nat}, Moved wr (fun a b => b = a) t t' → t.heap.SetOf (PySem.strKind P w) S T c → t'.heap.SetOf (PySem.strKind P w) S T c := by
    rintro t t' T c mv ⟨o, es, ep, tb, ho, rest⟩
    exact ⟨o, es, ep, tb, mv.heap S _ nw ho, rest⟩
  induction m with
  | zero =>
    intro i s h1 h2 st set done
    obtain rfl : i = n := by omega
    apply codeAny_builtin PyProof.Rows.F.entry_set_update_loop
    rw [Around.under_plainId PyProof.Rows.F.plain_set_update_loop _]
    change wpAny _ B.in1 (pyNext (.ref I) >>= _) _ _ s
    apply wpAny_bind
    apply W.done s _ _ st
    intro t mv
    change wpAny _ B.in1 (ret Value.none) _ _ t
    apply wpAny_pure
    rw [show xs.take i = xs from List.take_of_length_le (by omega)] at set
    exact done t (mv.mono up) (stay mv set)
  | succ m ih =>
    intro i s h1 h2 st set done
    have lt : i < n := by omega
    apply codeAny_builtin PyProof.Rows.F.entry_set_update_loop
    rw [Around.under_plainId PyProof.Rows.F.plain_set_update_loop _]
    change wpAny _ B.in1 (pyNext (.ref I) >>= _) _ _ s
    apply wpAny_bind
    apply W.item i s _ _ lt st
    intro v t pv st' mv
    obtain ⟨x, tk, hx, rfl⟩ := vals i v pv
    have set' := stay mv set
    change wpAny _ B.in1 (holding [Value.str x tk] (setAdd S (.str x tk)) >>= _) _ _ t
    apply wpAny_bind
    apply wpAny_holding
    unfold setAdd
    apply wpAny_holding
    apply wpAny_bind
    refine (PySem.strKind P w).pyHash (k := x) (strKind_is _ _ _ _) ?_
    have room : (ddup (xs.take i).reverse).length + 1 < scanBound := by
      have := ddup_le (xs.take i).reverse
      rw [List.length_reverse, List.length_take] at this
      omega
    refine wpAny_setAddHashed_of (knd := PySem.strKind P w) (s := { t with toks := t.toks + 1 }) (strKind_is _ _ _ _) rfl set' room fun h' same set2 => ?_
    have tk1 : xs.take (i + 1) = xs.take i ++ [x] := by
      rw [List.take_add_one, hx]
      rfl
    have set3 : h'.SetOf (PySem.strKind P w) S (fun y => decide (y ∈ xs.take (i + 1))) (ddup (xs.take (i + 1)).reverse).length := by
      refine PyProof.Rows.SetOf_congr set2 (fun y => ?_) ?_
      · rw [tk1]
        simp [List.mem_append]
      · rw [tk1, List.reverse_append]
        show _ = (ddup (x :: (xs.take i).reverse)).length
        rw [ddup_cons]
        by_cases hm : x ∈ xs.take i
        · rw [if_pos (decide_eq_true hm), if_pos (List.mem_reverse.mpr hm)]
        · rw [if_neg (by simpa using hm), if_neg fun z => hm (List.mem_reverse.mp z)]
    have fp' : ∀ c ∈ fp, ∀ o, t.heap.get? c = some o → h'.get? c = some o := fun c hc o e => by
      rw [same.2 c fun z => out (by rw [← z]; exact hc)]
      exact e
    refine wpAny_pure ⟨plainId_quiet PyProof.Rows.F.plain_set_update_loop _, ih (i + 1) _ (by omega) lt (W.frame _ t _ _ st' (Nat.le_succ _) fp') set3 fun t2 mv2 set4 => done t2 ?_ set4⟩
    refine Moved.trans W.gtrans ((mv.mono up).then_heap (Nat.le_succ _) fun c o hc e => ?_) mv2
    rw [same.2 c fun z => hc (by rw [z]; exact List.mem_cons_self)]
    exact e
end
section
variable {P : Program} {w : World} {A : Around} {E : Value → Shared → Prop} {s : Shared}
theorem strs_at' : ∀ {us : List Value} {xs : List Str}, StrsAre us xs → ∀ (i : Nat) (v : Value), us[i]? = some v → ∃ x t, xs[i]? = some x ∧ v = .str x t
  | _, _, .nil, i, v, h => by simp at h
  | _, _, .cons x t _, 0, v, h => ⟨x, t, rfl, by simpa using h.symm⟩
  | _, _, .cons x t r, i + 1, v, h => by
    obtain ⟨y, k, e1, e2⟩ := strs_at' r i v (by simpa using h)
    exact ⟨y, k, by simpa using e1, e2⟩
/-- len(set(l)), texts -/
theorem lenset_strs {l : Addr} {items : Array Value} {xs : List Str} {Q : Value → Shared → Prop} (hh : A.handled = none) (hl : s.heap.IsList l items) (hi : StrsAre items.toList xs) (len : items.size = xs.length) (hb : xs.length + 1 < scanBound)
    (fin : ∀ (h' : Heap) (tk tk2 : Nat), (∀ b o, s.heap.get? b = some o → h'.get? b = some o) → Q (.int (ddup xs.reverse).length tk2) { s with heap := h', toks := tk }) :
    wpAny (model P w) A (call (.type "set") [.ref l]) (fun v t => wpAny (model P w) A (call (.builtin "len") [v]) Q E t) E s := by
  refine set_skel (Post := fun h' => h'.SetOf (PySem.strKind P w) s.heap.objs.size (fun y => decide (y ∈ xs)) (ddup xs.reverse).length) hh hl (fun B R hB ne done => ?_) fun h' tk post keep => ?_
  · have sz : (s.heap.push (fso w)).objs.size = s.heap.objs.size + 1 := Heap.size_push ..
    obtain ⟨ol, got, _⟩ := id hl
    have below : l < s.heap.objs.size := Heap.lt_size got
    have hB1 : B.in1.handled = none := hB
    have here : ((s.heap.push (fso w)).push (lit l)).get? s.heap.objs.size = some (fso w) := Heap.get?_push_of_some _ (Heap.get?_push_size _ rfl)
    have vals : ∀ (i : Nat) (v : Value), items[i]? = some v → ∃ x t, xs[i]? = some x ∧ v = .str x t := fun i v hv => strs_at' hi i v (by rw [Array.getElem?_toList]; exact hv)
    refine upd_strs ((Walks.list hB1 _ l ne items).toS) s.heap.objs.size ?_ xs len hb vals (items.size - 0) 0 _ (by omega) (Nat.zero_le _) ⟨lit_is, (hl.push _).push _⟩ ?_ fun t mv post => done t mv post
    · rw [sz]
      simp only [List.mem_cons, List.not_mem_nil, or_false, not_or]
      exact ⟨Nat.ne_of_lt (Nat.lt_succ_self _), Nat.ne_of_gt below⟩
    · refine PyProof.Rows.SetOf_congr ((PyProof.Rows.setObjOf_fresh (knd := PySem.strKind P w) _).setOf here (by unfold scanBound; omega)) (fun y => by simp) rfl
  · obtain ⟨o, es, ep, t, ho, hex, hd, _, _, _, hf, hn⟩ := post
    refine call_len_set ho hex hd hf ?_ (by rw [hn]; exact fin h' _ _ keep)
    have := ddup_le xs.reverse
    rw [List.length_reverse] at this
    have : xs.length + 1 < 4096 := hb
    omega
end
section
variable {XR : XRel} {C : G.Cx} {X : L2.Cx} {W : L2.WX} {p p2 q pos : Pos} {a : E} {xa : Expr}
theorem lenset_of {d d2 : D} (h : pB .lenset [d] = some d2) : (∃ ds, d = .lst ds ∧ ds.length ≤ setLim ∧ ((∃ ss, asStrs ds = some ss ∧ d2 = .int (ddup ss).length) ∨ ∃ ns, asInts ds = some ns ∧ d2 = .int (ddup ns).length)) ∨
    ∃ ds ns, d = .tup ds ∧ ds.length ≤ setLim ∧ asInts ds = some ns ∧ d2 = .int (ddup ns).length := by
  cases d with
  | lst ds =>
    have h : (if ds.length ≤ setLim then match asStrs ds with
      | some ss => some (D.int (ddup ss).length)
      | none => (asInts ds).map fun ns => .int (ddup ns).length
      else none) = some d2 := h
    refine .inl ?_
    by_cases hl : ds.length ≤ setLim
    · rw [if_pos hl] at h
      refine ⟨ds, rfl, hl, ?_⟩
      cases hs : asStrs ds with
      | some ss =>
        rw [hs] at h
        cases h
        exact .inl ⟨ss, rfl, rfl⟩
      | none =>
        rw [hs] at h
        cases hi : asInts ds with
        | none => rw [hi] at h; cases h
        | some ns =>
          rw [hi] at h
          cases h
          exact .inr ⟨ns, rfl, rfl⟩
    · rw [if_neg hl] at h
      cases h
  | tup ds =>
    have h : (if ds.length ≤ setLim then (asInts ds).map fun ns => D.int (ddup ns).length else none) = some d2 := h
    refine .inr ?_
    by_cases hl : ds.length ≤ setLim
    · rw [if_pos hl] at h
      cases hi : asInts ds with
      | none => rw [hi] at h; cases h
      | some ns =>
        rw [hi] at h
        cases h
        exact ⟨ds, ns, rfl, hl, hi, rfl⟩
    · rw [if_neg hl] at h
      cases h
  | _ => cases h
theorem ddup_map {ss : List (List Nat)} : (ddup (ss.map toS)).length = (ddup ss).length := by
  induction ss with
  | nil => rfl
  | cons x r ih =>
    have mm : toS x ∈ ddup (r.map toS) ↔ x ∈ ddup r := by
      rw [ddup_mem, ddup_mem, List.mem_map]
      constructor
      · rintro ⟨y, hy, e⟩
        rw [← toS_inj e]
        exact hy
      · exact fun h => ⟨x, h, rfl⟩
    rw [List.map_cons, ddup_cons, ddup_cons, ih]
    by_cases h : x ∈ r
    · rw [if_pos h, if_pos (ddup_mem.mp (mm.mpr (ddup_mem.mpr h)))]
    · rw [if_neg h, if_neg fun z => h (ddup_mem.mp (mm.mp (ddup_mem.mpr z)))]
theorem e_lenset (hc : X.calm = true) (hg : Gl X "len") (hm : X.mg "len" = none) (hg2 : Gl X "set") (hm2 : X.mg "set" = none) (ns : noStar xa = true) (ha : PE X xa (tE X.K XR W C a)) :
    PE X (.Call (.Name "len" p) [.Call (.Name "set" p2) [xa] [] q] [] pos) (tE X.K XR W C (.blt .lenset [a])) := by
  refine pe_imp (pe_ofSet (rr := fun x H Q => ∃ F r S d d2, Rel X.K F H r S ∧ RpW X.K F H r x d ∧ pB .lenset [d] = some d2 ∧ Res X.K F H r S d2 Q) hg hm boot_len (by decide) (by decide) hg2 hm2 ns ha ?_) fun σ H Q ⟨F, r, sl, S, R, so, h⟩ => ?_
  · intro pins s σ H x u Q I rx ⟨F, r, S, d, d2, R, hx, e, qq⟩
    rcases (lenset_of e).symm with ⟨ds, ns, rfl, hl, hi, rfl⟩ | ⟨ds, rfl, hl, e⟩
    · obtain ⟨l, ys, rfl, hs, tx⟩ := hx.tup R
      obtain ⟨rfl, _⟩ := tx.ints hi
      cases (show u = Value.ref l from rx)
      have hlen : ns.length ≤ setLim := by
        have := tx.len
        rw [List.length_map] at this
        omega
      obtain ⟨its, rv, il, hz⟩ := I.tuple hs
      refine call_set_tupI ns (I.ok.hd hc) il (by simpa using rv.ints) (by unfold scanBound; unfold setLim at hlen; omega) fun h' tk c post _ keep => ?_
      have I2 : Inv X pins σ H { s with heap := h', toks := tk } := I.kept keep
      exact setR_len post ⟨.int _, H, I2.tok _, ⟨_, rfl⟩, qq.now R (.int _)⟩
    obtain ⟨l, ys, rfl, hs, tx⟩ := hx.lst R
    cases (show u = Value.ref l from rx)
    have hlen : ys.length ≤ setLim := by rw [tx.len]; exact hl
    obtain ⟨its, rv, il, hz⟩ := I.list hs
    rcases e with ⟨ss, hi, rfl⟩ | ⟨ns, hi, rfl⟩
    · have ey : ys = (ss.map toS).map V.str := by
        rw [List.map_map]
        exact tx.strs hi
      subst ey
      rw [List.length_map] at hlen
      refine lenset_strs (xs := ss.map toS) (I.ok.hd hc) il.isList (by simpa using strsAre_of rv) ?_ (by unfold scanBound; unfold setLim at hlen; omega) fun h' tk tk2 keep => ?_
      · rw [List.size_toArray, ← rv.length, List.length_map]
      · have I2 : Inv X pins σ H { s with heap := h', toks := tk } := I.kept keep
        rw [ddup_len_rev, ddup_map]
        exact ⟨.int _, H, I2, ⟨_, rfl⟩, qq.now R (.int _)⟩
    · obtain ⟨rfl, _⟩ := tx.ints hi
      rw [List.length_map] at hlen
      have hi2 := rv.ints
      refine set_ints (I.ok.hd hc) il.isList (by simpa using hi2) (by unfold scanBound; unfold setLim at hlen; omega) fun h' tk c post keep => ?_
      have I2 : Inv X pins σ H { s with heap := h', toks := tk } := I.kept keep
      exact setR_len post ⟨.int _, H, I2.tok _, ⟨_, rfl⟩, qq.now R (.int _)⟩
  · unfold evE evL evL at h
    have h : PostE X.K XR W F H r σ ((evE C a sl S).bind fun d S => Rs.of S (pB .lenset [dr S d])) fun d S' F' H' r' => ∀ v, Rp X.K F' r' v d → Q v H' := by
      generalize evE C a sl S = m at h ⊢
      cases m <;> exact h
    refine tE.one h R so fun x d F' H' r' S' ex R' rx h' => ?_
    obtain ⟨z, hz, qq⟩ := h'.of
    exact ⟨F', r', S', _, z, R', rx.b.dr R', hz, fun v F2 H2 r2 e2 R2 hv => qq F2 H2 r2 e2 R2 v hv⟩
end
/-! ### repr -/
mutual
theorem py_nodict : ∀ d : D, d.py.hasDict = false
  | .non => rfl
  | .bl _ => rfl
  | .int _ => rfl
  | .str _ => rfl
  | .tup xs => pyL_nodict xs
  | .lst xs => pyL_nodict xs
  | .loc _ => rfl
  | .exc _ _ => rfl
theorem pyL_nodict : ∀ xs : List D, PyData.hasDictAll (D.pyL xs) = false
  | [] => rfl
  | x :: xs => by
    show (x.py.hasDict || PyData.hasDictAll (D.pyL xs)) = false
    rw [py_nodict x, pyL_nodict xs]
    rfl
end
theorem rp_text {K : Fg} {F : Hp} {r : List Addr} {x : Str} (h : x.length ≤ lim) : Rp K F r (.str x) (.str x.cps.toList) := by
  have e : x = ⟨x.cps.toList.toArray⟩ := by
    cases x
    simp
  have h2 : Rp K F r (.str ⟨x.cps.toList.toArray⟩) (.str x.cps.toList) := .str _ (by rw [Array.length_toList]; exact h)
  rw [← e] at h2
  exact h2
theorem snd_repr {X : L2.Cx} (hg : X.A.guards = some []) (hu : X.A.units + 200 < cLine) : CallR X (.builtin "repr") (rB X.K (pB .repr)) := by
  intro pins s σ H xs us Q I rx h
  obtain ⟨F, r, S, ds, d, R, ra, e, q⟩ := h
  cases ra with
  | nil => cases e
  | @cons v d0 vs ds0 h1 t =>
    cases t with
    | cons _ _ => cases e
    | nil =>
      have e : (if (d0.pur && d0.py.showable && decide (d0.dep ≤ 60) && decide (d0.py.shown.length ≤ lim)) = true then some (D.str d0.py.shown.cps.toList) else none) = some d := e
      by_cases hc : (d0.pur && d0.py.showable && decide (d0.dep ≤ 60) && decide (d0.py.shown.length ≤ lim)) = true
      · rw [if_pos hc] at e
        cases e
        simp only [Bool.and_eq_true, decide_eq_true_eq] at hc
        obtain ⟨⟨⟨hp, hs⟩, hd⟩, hl⟩ := hc
        have hl2 : d0.py.shown.length ≤ sizeLine := by
          rw [← lim_eq]
          exact hl
        have fin : ∀ (h' : Heap) (u tk : Nat), (∀ b o, s.heap.get? b = some o → h'.get? b = some o) → EP X pins σ Q (.str d0.py.shown u) { s with heap := h', toks := tk } := fun h' u tk hk =>
          ⟨.str d0.py.shown, H, I.kept hk, ⟨u, rfl⟩, q.now R (rp_text hl)⟩
        obtain ⟨u0, rfl, r0⟩ := rx.one
        have big : ∀ a, u0 = .ref a → wpAny (model X.prog X.w) X.A (call (.builtin "repr") [u0]) (EP X pins σ Q) X.xe s := fun a ea => by
          subst ea
          obtain ⟨as, rd⟩ := Dp.reads I d0.py v _ (h1.dp R hp) r0
          refine repr_of_reads' rd hs (PyData.noDict_hsm (py_nodict d0)) hg ?_ (fun _ _ z => z) (fun h' u tk hk => fin h' u tk hk) hl2
          rw [py_depth]
          omega
        cases d0 with
        | non =>
          cases h1.non
          cases (show u0 = Value.none from r0)
          exact PySem.P.repr_of_none (fin s.heap _ _ fun _ _ z => z)
        | bl b =>
          cases h1.bl
          cases (show u0 = Value.bool b from r0)
          refine PySem.P.repr_of_bool ?_
          have := fin s.heap s.toks (s.toks + 1) fun _ _ z => z
          cases b <;> exact this
        | int i =>
          cases h1.int
          obtain ⟨t, rfl⟩ := (show ∃ t, u0 = Value.int i t from r0)
          exact PySem.P.repr_of_int (by simpa [PyData.showable, D.py] using hs) (fin s.heap _ _ fun _ _ z => z)
        | str x =>
          obtain ⟨rfl, _⟩ := h1.str
          obtain ⟨t, rfl⟩ := (show ∃ t, u0 = Value.str _ t from r0)
          exact PySem.P.repr_of_str (fin s.heap _ _ fun _ _ z => z) hl2
        | tup ys =>
          obtain ⟨a, ws, rfl, _⟩ := h1.tup R
          exact big a r0
        | lst ys =>
          obtain ⟨a, ws, rfl, _⟩ := h1.lst R
          exact big a r0
        | loc _ => cases hp
        | exc _ _ => cases hp
      · rw [if_neg hc] at e
        cases e
end G
end S_GSort
section S_GX1
set_option linter.all false
set_option maxRecDepth 100000
set_option maxHeartbeats 2000000
/-! GX1: list cells whose items may be cells; dicts with int keys; ranges as lists. -/
namespace G
open PySem PySem.Spec PyProof.Rows L2
theorem CellOk.addr {K : Fg} {F H : Hp} {r : List Addr} {a p : Addr} {o : HO} {c : Cell} (h : CellOk K F H r a c) (ne : a ≠ p) : CellOk K F (upd H p o) r a c := by
  cases c with
  | lst ds => obtain ⟨xs, h1, h2⟩ := h; exact ⟨xs, by rw [upd_ne ne]; exact h1, h2⟩
  | lsx ds => obtain ⟨xs, h1, h2⟩ := h; exact ⟨xs, by rw [upd_ne ne]; exact h1, h2⟩
  | dki ds => obtain ⟨xs, h1, h2⟩ := h; exact ⟨xs, by rw [upd_ne ne]; exact h1, h2⟩
  | dead => obtain ⟨xs, h1⟩ := h; exact ⟨xs, by rw [upd_ne ne]; exact h1⟩
theorem CellOk.pre {K : Fg} {F H : Hp} {r r' : List Addr} {a : Addr} {c : Cell} (h : CellOk K F H r a c) (p : Pre r r') : CellOk K F H r' a c := by
  cases c with
  | lst ds => obtain ⟨xs, h1, h2⟩ := h; exact ⟨xs, h1, h2.up (fun _ _ h => h) p⟩
  | lsx ds => obtain ⟨xs, h1, h2⟩ := h; exact ⟨xs, h1, RpM.up (fun _ _ h => h) p h2⟩
  | dki ds => obtain ⟨xs, h1, h2⟩ := h; exact ⟨xs, h1, RpK.up (fun _ _ h => h) p h2⟩
  | dead => exact h
/-- an object of our own becomes a cell -/
theorem Rel.adopt {K : Fg} {F H : Hp} {r : List Addr} {S : List Cell} {p : Addr} {c : Cell} (R : Rel K F H r S) (hf : F p = none) (hr : p ∉ r) (ok : CellOk K F H (r ++ [p]) p c) : Rel K F H (r ++ [p]) (S ++ [c]) ∧ (r ++ [p])[S.length]? = some p := by
  have at_ : (r ++ [p])[r.length]? = some p := by simp
  refine ⟨⟨R.sub, by rw [List.length_append, List.length_append, R.len]; rfl, fun i j a h1 h2 => ?_, fun i a h1 => ?_, fun i a c h1 h2 => ?_⟩, by rw [← R.len]; exact at_⟩
  · have bd : ∀ i, (r ++ [p])[i]? = some a → (i < r.length ∧ r[i]? = some a) ∨ (i = r.length ∧ a = p) := fun i h => by
      by_cases hi : i < r.length
      · rw [List.getElem?_append_left hi] at h
        exact .inl ⟨hi, h⟩
      · obtain ⟨hl, _⟩ := List.getElem?_eq_some_iff.mp h
        rw [List.length_append, List.length_singleton] at hl
        have e : i = r.length := by omega
        subst e
        rw [at_] at h
        cases h
        exact .inr ⟨rfl, rfl⟩
    rcases bd i h1 with ⟨hi, g1⟩ | ⟨hi, g1⟩ <;> rcases bd j h2 with ⟨hj, g2⟩ | ⟨hj, g2⟩
    · exact R.inj i j a g1 g2
    · subst g2
      exact absurd (mem_r g1) hr
    · subst g1
      exact absurd (mem_r g2) hr
    · omega
  · by_cases hi : i < r.length
    · rw [List.getElem?_append_left hi] at h1
      exact R.nf i a h1
    · obtain ⟨hl, _⟩ := List.getElem?_eq_some_iff.mp h1
      rw [List.length_append, List.length_singleton] at hl
      have e : i = r.length := by omega
      subst e
      rw [at_] at h1
      cases h1
      exact hf
  · by_cases hi : i < r.length
    · rw [List.getElem?_append_left hi] at h1
      rw [List.getElem?_append_left (by rw [← R.len]; exact hi)] at h2
      exact (R.cell i a c h1 h2).pre ⟨[p], rfl⟩
    · obtain ⟨hl, _⟩ := List.getElem?_eq_some_iff.mp h1
      rw [List.length_append, List.length_singleton] at hl
      have ei : i = r.length := by omega
      subst ei
      rw [at_] at h1
      cases h1
      rw [R.len] at h2
      simp at h2
      subst h2
      exact ok
/-- a new cell -/
theorem Rel.celx {K : Fg} {F H : Hp} {r : List Addr} {S : List Cell} {p : Addr} {o : HO} {c : Cell} (R : Rel K F H r S) (hp : H p = none) (ok : CellOk K F (upd H p o) (r ++ [p]) p c) : Ext F H r F (upd H p o) (r ++ [p]) ∧ Rel K F (upd H p o) (r ++ [p]) (S ++ [c]) ∧ (r ++ [p])[S.length]? = some p := by
  have e0 := Ext.add (o := o) R hp
  exact ⟨⟨e0.f, e0.fn, e0.h, e0.t, [p], rfl, fun a h => by rw [List.mem_singleton.mp h]; exact hp⟩, (R.put (R.nF hp) (R.nr hp)).adopt (R.nF hp) (R.nr hp) ok⟩
section
variable {XR : XRel} {W : L2.WX} {C : G.Cx} {X : L2.Cx} {p pos : Pos} {a b c : E} {xa xb xc tgx : Expr} {es : List E} {xs : List Expr}
theorem RpXL.m {K : Fg} {F H : Hp} {r : List Addr} : ∀ {vs : List V} {ds : List D}, RpXL K false F H r vs ds → RpM K F r vs ds
  | _, _, .nil => .nil
  | _, _, .cons h t => .cons h (RpXL.m t)
theorem e_mkx (hn : es.length ≤ 1000) (hs : PA X xs (tL X.K XR W C false es)) : PE X (.List xs pos) (tE X.K XR W C (.mkx es)) := by
  refine pe_imp (pe_lst hs) fun σ H Q ⟨F, r, sl, S, R, so, h⟩ => ?_
  unfold evE at h
  refine tL.oneN h R so fun vs ds F' H' r' S' hl ex R' rx h' => ?_
  have t := RpXL.m rx
  refine ⟨?_, fun p hp => ?_⟩
  · rw [t.len, hl, ← lim_eq]
    unfold lim
    omega
  · obtain ⟨e, R2, at_⟩ := R'.celx (o := .lst vs) (c := .lsx ds) hp ⟨vs, upd_same, RpM.up (fun _ _ h => h) ⟨[p], rfl⟩ t⟩
    exact h' _ _ _ e R2 _ (.loc at_)
theorem atI_m {K : Fg} {F : Hp} {r : List Addr} {vs : List V} {ds : List D} {i : Int} {d : D} (t : RpM K F r vs ds) (h : G.atI ds i = some d) : ∃ v, L2.atI vs i = some v ∧ Rp K F r v d := by
  unfold G.atI at h
  cases hk : ixN ds.length i with
  | none => rw [hk] at h; cases h
  | some k =>
    rw [hk] at h
    have h : ds[k]? = some d := h
    obtain ⟨v, h1, h2⟩ := t.get h
    refine ⟨v, ?_, h2⟩
    show (L2.ixN vs.length i).bind _ = _
    rw [t.len]
    show (G.ixN ds.length i).bind _ = _
    rw [hk]
    exact h1
theorem loc_of {K : Fg} {F H : Hp} {r : List Addr} {S : List Cell} {v : V} {n : Nat} {c : Cell} (R : Rel K F H r S) (h : Rp K F r v (.loc n)) (hc : S[n]? = some c) : ∃ q, v = .ref q ∧ r[n]? = some q ∧ CellOk K F H r q c := by
  cases h with
  | loc q => exact ⟨_, rfl, q, R.cell n _ _ q hc⟩
theorem e_ixx (ha0 : a.isB = false) (hi : b.isB = false) (hs : isSliceX xb = false) (ha : PE X xa (tE X.K XR W C a)) (hb : PE X xb (tE X.K XR W C b)) : PE X (.Subscript xa xb pos) (tE X.K XR W C (.ixx a b)) := by
  refine pe_imp (pe_ix ix_list ha hb (slice_plain hs)) fun σ H Q ⟨F, r, sl, S, R, so, h⟩ => ?_
  unfold evE at h
  refine tE.two h R so fun x y d e F' H' r' S' ex R' rx ry h' => ?_
  obtain ⟨z, hz, q⟩ := h'.of
  rw [ha0] at rx
  rw [hi] at ry
  unfold cellIx at hz
  split at hz
  · rename_i n i
    split at hz
    · rename_i ds hc
      obtain ⟨q1, rfl, q2, vs, q3, q4⟩ := loc_of R' rx hc
      obtain ⟨v, v1, v2⟩ := atI_m q4 hz
      have ey : y = .int i := Rp.toInt ry
      exact ⟨q1, vs, i, v, rfl, ey, SqL.of q3, v1, q F' H' r' .refl R' v v2⟩
    · cases hz
  · cases hz
theorem e_lenx (ha0 : a.isB = false) (hs : noStar xa = true) (hg : Gl X "len") (hm : X.mg "len" = none) (ha : PE X xa (tE X.K XR W C a)) : PE X (.Call (.Name "len" p) [xa] [] pos) (tE X.K XR W C (.lenx a)) := by
  refine pe_imp (pe_callB call_len_seq hg hm PySem.boot_len (pa_cons ha pa_nil (star_cons hs)) (by decide) (by decide) (star_cons hs) rfl) fun σ H Q ⟨F, r, sl, S, R, so, h⟩ => ?_
  unfold evE at h
  refine tE.one h R so fun x d F' H' r' S' ex R' rx h' => ?_
  obtain ⟨z, hz, q⟩ := h'.of
  rw [ha0] at rx
  unfold cellLen at hz
  split at hz
  · rename_i n
    split at hz
    · rename_i ds hc
      cases hz
      obtain ⟨q1, rfl, q2, vs, q3, q4⟩ := loc_of R' rx hc
      refine ⟨q1, vs, rfl, .inl (SqL.of q3), ?_⟩
      rw [q4.len]
      exact q F' H' r' .refl R' _ (.int _)
    · cases hz
  · cases hz
theorem valK {K : Fg} {F : Hp} {r : List Addr} : ∀ {ks : List (Key × V)} {kvs : List (Int × D)} {i : Int} {d : D}, RpK K F r ks kvs → dgt kvs i = some d → ∃ v, valV ks (.inl i) = some v ∧ Rp K F r v d
  | _, _, i, d, .nil, h => by cases h
  | (k, v) :: ks, (j, e) :: kvs, i, d, .cons h t, hd => by
    obtain ⟨rfl, hv⟩ := h
    by_cases hj : j = i
    · subst hj
      unfold dgt at hd
      rw [List.find?_cons, show decide (j = j) = true from decide_eq_true rfl] at hd
      cases hd
      exact ⟨v, valV_pos rfl, hv⟩
    · have hd' : dgt kvs i = some d := by
        unfold dgt at hd ⊢
        rwa [List.find?_cons, show decide (j = i) = false from decide_eq_false hj] at hd
      obtain ⟨v', h1, h2⟩ := valK t hd'
      refine ⟨v', ?_, h2⟩
      rw [valV_neg (by intro z; cases z; exact hj rfl)]
      exact h1
theorem e_dgx (hu : X.A.units + 1 < cLine) (ha0 : a.isB = false) (hi : b.isB = false) (hs : isSliceX xb = false) (ha : PE X xa (tE X.K XR W C a)) (hb : PE X xb (tE X.K XR W C b)) : PE X (.Subscript xa xb pos) (tE X.K XR W C (.dgx a b)) := by
  refine pe_imp (pe_dget hu ha hb (slice_plain hs)) fun σ H Q ⟨F, r, sl, S, R, so, h⟩ => ?_
  unfold evE at h
  refine tE.two h R so fun x y d e F' H' r' S' ex R' rx ry h' => ?_
  obtain ⟨z, hz, q⟩ := h'.of
  rw [ha0] at rx
  rw [hi] at ry
  unfold cellDg at hz
  split at hz
  · rename_i n i
    split at hz
    · rename_i kvs hc
      obtain ⟨q1, rfl, q2, ks, q3, q4⟩ := loc_of R' rx hc
      obtain ⟨v, v1, v2⟩ := valK q4 hz
      have ey : y = .int i := Rp.toInt ry
      subst ey
      have g := DGet.k (k := .inl i) q3
      rw [v1] at g
      exact ⟨q1, v, rfl, g, q F' H' r' .refl R' v v2⟩
    · cases hz
  · cases hz
end
end G
end S_GX1
section S_GX2
set_option linter.all false
set_option maxRecDepth 100000
set_option maxHeartbeats 2000000
/-! GX2: ranges as lists, dict comprehensions, dict(pairs). -/
namespace G
open PySem PySem.Spec PyProof.Rows L2
theorem rg_upto {K : Fg} {F : Hp} {r : List Addr} : ∀ (n : Nat) (a b : Int), (b - a).toNat = n → RpL K F r (rgV a b) (upto a n)
  | 0, a, b, h => by
    unfold rgV
    rw [h]
    exact .nil
  | n + 1, a, b, h => by
    have e : rgV a b = V.int a :: rgV (a + 1) b := by
      unfold rgV
      rw [h, show (b - (a + 1)).toNat = n by omega, List.range_succ_eq_map, List.map_cons, List.map_map]
      refine congr (congrArg _ (by simp)) ?_
      refine List.map_congr_left fun i _ => ?_
      show V.int (a + ((i + 1 : Nat) : Int)) = V.int (a + 1 + (i : Int))
      congr 1
      omega
    rw [e]
    exact .cons (.int a) rfl (rg_upto n (a + 1) b (by omega))
section
variable {XR : XRel} {W : L2.WX} {C : G.Cx} {X : L2.Cx} {p pos q : Pos} {a b c : E} {xa xb xc tgx : Expr} {es : List E} {xs : List Expr}
/-- the range of rgx -/
def tRgx (K : Fg) (XR : XRel) (W : L2.WX) (C : G.Cx) (es : List E) : L2.St → Hp → (Int → Int → Hp → Prop) → Prop := fun σ H Q => ∃ F r sl S, Rel K F H r S ∧ SlOk K F H r σ sl ∧
  PostE K XR W F H r σ (evL C es sl S) fun ds S' F' H' r' => match ds with
    | [.int j] => Q 0 j H'
    | [.int i, .int j] => Q i j H'
    | _ => False
theorem prg_imp {X : L2.Cx} {e : Expr} {t t' : L2.St → Hp → (Int → Int → Hp → Prop) → Prop} (h : PRg X e t) (k : ∀ σ H Q, t' σ H Q → t σ H Q) : PRg X e t' := fun pins s σ H Q I q => h pins s σ H Q I (k σ H Q q)
theorem rg_1 (hs : noStar xa = true) (hb : a.isB = false) (hg : Gl X "range") (hm : X.mg "range" = none) (ha : PE X xa (tE X.K XR W C a)) : PRg X (.Call (.Name "range" p) [xa] [] pos) (tRgx X.K XR W C [a]) := by
  refine prg_imp (prg_1 hg hm ha (star_cons hs)) fun σ H Q ⟨F, r, sl, S, R, so, h⟩ => ?_
  unfold evL evL at h
  refine tE.one h R so fun x d F' H' r' S' ex R' rx h' => ?_
  have h' := h' F' H' r' .refl R'
  rw [hb] at rx
  cases d with
  | int j =>
    have ey : x = .int j := Rp.toInt rx
    exact ⟨j, ey, h'⟩
  | _ => exact h'.elim
theorem rg_2 (hs : noStar xa = true) (hs2 : noStar xb = true) (h1 : a.isB = false) (h2 : b.isB = false) (hg : Gl X "range") (hm : X.mg "range" = none) (ha : PE X xa (tE X.K XR W C a)) (hb : PE X xb (tE X.K XR W C b)) : PRg X (.Call (.Name "range" p) [xa, xb] [] pos) (tRgx X.K XR W C [a, b]) := by
  refine prg_imp (prg_2 hg hm ha hb (star_cons hs) (star_cons hs2) (star_any (es := [xb]) (by simp [hs2]))) fun σ H Q ⟨F, r, sl, S, R, so, h⟩ => ?_
  have h : PostE X.K XR W F H r σ ((evE C a sl S).bind fun d S => (evE C b sl S).bind fun e S => .ok [d, e] S) fun ds S' F' H' r' => match ds with
    | [.int j] => Q 0 j H'
    | [.int i, .int j] => Q i j H'
    | _ => False := by
    unfold evL evL evL at h
    generalize evE C a sl S = m at h ⊢
    cases m with
    | ok d S' =>
      show PostE X.K XR W F H r σ ((evE C b sl S').bind fun e S => .ok [d, e] S) _
      have h : PostE X.K XR W F H r σ (((evE C b sl S').bind fun e S => .ok [e] S).bind fun ds S => .ok (d :: ds) S) _ := h
      generalize evE C b sl S' = m at h ⊢
      cases m <;> exact h
    | exc _ _ _ => exact h
    | stk => exact h
  refine tE.two h R so fun x y d e F' H' r' S' ex R' rx ry h' => ?_
  have h' := h' F' H' r' .refl R'
  rw [h1] at rx
  rw [h2] at ry
  cases d with
  | int i =>
    cases e with
    | int j =>
      have ex : x = .int i := Rp.toInt rx
      have ey : y = .int j := Rp.toInt ry
      exact ⟨i, j, ex, ey, h'⟩
    | _ => exact h'.elim
  | _ => exact h'.elim
theorem rgOk_of {i j : Int} (h : (rngOk i && rngOk j) = true) (hl : (j - i).toNat ≤ lim) : RgOk i j := by
  rw [Bool.and_eq_true] at h
  obtain ⟨h1, h2⟩ := rng_of h.1
  obtain ⟨h3, h4⟩ := rng_of h.2
  exact ⟨h1, h2, h3, h4, hl⟩
/-- the two ends of what rgx makes -/
theorem rgx_ends {t : Bool} {ds : List D} {d : D} (h : rgx t ds = some d) : ∃ i j, (ds = [.int j] ∧ i = 0 ∨ ds = [.int i, .int j]) ∧ RgOk i j ∧ d = if t then .tup (upto i (j - i).toNat) else .lst (upto i (j - i).toNat) := by
  unfold rgx at h
  split at h
  · rename_i j
    split at h
    · rename_i hz
      rw [Bool.and_eq_true, decide_eq_true_eq] at hz
      cases h
      refine ⟨0, j, .inl ⟨rfl, rfl⟩, rgOk_of (by rw [hz.1]; rfl) (by rw [Int.sub_zero]; exact hz.2), ?_⟩
      rw [Int.sub_zero]
    · cases h
  · rename_i i j
    split at h
    · rename_i hz
      rw [Bool.and_eq_true, decide_eq_true_eq] at hz
      cases h
      exact ⟨i, j, .inr rfl, rgOk_of hz.1 hz.2, rfl⟩
    · cases h
  · cases h
theorem rgx_post {t : Bool} {σ : L2.St} {F H : Hp} {r : List Addr} {sl : List Sl} {S : List Cell} {P : D → List Cell → Hp → Hp → List Addr → Prop} {Q : Int → Int → Hp → Prop} (h : PostE X.K XR W F H r σ ((evL C es sl S).bind fun ds S => .of S (rgx t ds)) P) (R : Rel X.K F H r S) (so : SlOk X.K F H r σ sl)
    (k : ∀ i j F' H' r' S', Ext F H r F' H' r' → Rel X.K F' H' r' S' → RgOk i j → P (if t then .tup (upto i (j - i).toNat) else .lst (upto i (j - i).toNat)) S' F' H' r' ∨ True → (∀ F2 H2 r2, Ext F' H' r' F2 H2 r2 → Rel X.K F2 H2 r2 S' → P (if t then .tup (upto i (j - i).toNat) else .lst (upto i (j - i).toNat)) S' F2 H2 r2) → Q i j H') : tRgx X.K XR W C es σ H Q := by
  refine ⟨F, r, sl, S, R, so, PostE.imp h.bind fun ds S1 F1 H1 r1 e1 R1 h1 => ?_⟩
  obtain ⟨z, hz, q⟩ := h1.of
  obtain ⟨i, j, hd, ok, rfl⟩ := rgx_ends hz
  have := k i j F1 H1 r1 S1 e1 R1 ok (.inr trivial) q
  rcases hd with ⟨rfl, rfl⟩ | rfl
  · exact this
  · exact this
theorem e_rgT (hc : X.calm = true) (hs : noStar xa = true) (hg : Gl X "tuple") (hm : X.mg "tuple" = none) (he : PRg X xa (tRgx X.K XR W C es)) : PE X (.Call (.Name "tuple" p) [xa] [] pos) (tE X.K XR W C (.rgx true es)) := by
  refine pe_imp (pe_tupRg hc hg hm he (star_cons hs)) fun σ H Q ⟨F, r, sl, S, R, so, h⟩ => ?_
  unfold evE at h
  refine rgx_post h R so fun i j F' H' r' S' ex R' ok _ q => ⟨ok, fun p hp => ?_⟩
  have e : Ext F' H' r' (upd F' p (.tup (rgV i j))) (upd H' p (.tup (rgV i j))) r' := Ext.new R' hp
  exact q _ _ _ e (R'.new hp) _ (.tup (SqT.of upd_same) (rg_upto _ i j rfl))
theorem e_rgL (hc : X.calm = true) (hs : noStar xa = true) (hg : Gl X "list") (hm : X.mg "list" = none) (he : PRg X xa (tRgx X.K XR W C es)) : PE X (.Call (.Name "list" p) [xa] [] pos) (tEX X.K XR W C (.rgx false es)) := by
  refine pe_imp (pe_listRg hc hg hm he (star_cons hs)) fun σ H Q ⟨F, r, sl, S, R, so, h⟩ => ?_
  unfold evE at h
  refine rgx_post h R so fun i j F' H' r' S' ex R' ok _ q => ⟨ok, fun p hp => ?_⟩
  exact q _ _ _ (Ext.add R' hp) (R'.put (R'.nF hp) (R'.nr hp)) p _ (rg_upto _ i j rfl) (R'.mine hp) (ex.free hp)
end
/-! ### dicts -/
theorem any_K {K : Fg} {F : Hp} {r : List Addr} {k : Int} : ∀ {ks : List (Key × V)} {kvs : List (Int × D)}, RpK K F r ks kvs → (ks.any fun p => decide (p.1 = .inl k)) = kvs.any fun p => decide (p.1 = k)
  | _, _, .nil => rfl
  | (x, v) :: ks, (j, d) :: kvs, .cons h t => by
    obtain ⟨rfl, _⟩ := h
    rw [List.any_cons, List.any_cons, any_K t]
    congr 1
    by_cases e : j = k
    · subst e
      rw [decide_eq_true rfl, decide_eq_true rfl]
    · rw [decide_eq_false e, decide_eq_false (fun z => e (Sum.inl.inj z))]
theorem map_K {K : Fg} {F : Hp} {r : List Addr} {k : Int} {z : V} {y : D} (hz : Rp K F r z y) : ∀ {ks : List (Key × V)} {kvs : List (Int × D)}, RpK K F r ks kvs → RpK K F r (ks.map fun p => if p.1 = .inl k then (p.1, z) else p) (kvs.map fun p => if p.1 = k then (p.1, y) else p)
  | _, _, .nil => .nil
  | (x, v) :: ks, (j, d) :: kvs, .cons h t => by
    obtain ⟨rfl, hv⟩ := h
    refine .cons ?_ (map_K hz t)
    by_cases e : j = k
    · subst e
      simp only [if_true]
      exact ⟨trivial, hz⟩
    · have e2 : ¬ (Sum.inl j : Key) = .inl k := fun q => e (Sum.inl.inj q)
      simp only [if_neg e2, if_neg e]
      exact ⟨trivial, hv⟩
theorem snoc_K {K : Fg} {F : Hp} {r : List Addr} {k : Int} {z : V} {y : D} (hz : Rp K F r z y) : ∀ {ks : List (Key × V)} {kvs : List (Int × D)}, RpK K F r ks kvs → RpK K F r (ks ++ [(.inl k, z)]) (kvs ++ [(k, y)])
  | _, _, .nil => .cons ⟨rfl, hz⟩ .nil
  | _, _, .cons h t => .cons h (snoc_K hz t)
theorem put_K {K : Fg} {F : Hp} {r : List Addr} {k : Int} {z : V} {y : D} {ks : List (Key × V)} {kvs : List (Int × D)} (t : RpK K F r ks kvs) (hz : Rp K F r z y) : RpK K F r (L2.putK ks (.inl k) z) (dput kvs k y) := by
  unfold L2.putK dput
  rw [any_K t]
  split
  · exact map_K hz t
  · exact snoc_K hz t
theorem len_K {K : Fg} {F : Hp} {r : List Addr} : ∀ {ks : List (Key × V)} {kvs : List (Int × D)}, RpK K F r ks kvs → ks.length = kvs.length
  | _, _, .nil => rfl
  | _, _, .cons _ t => congrArg (· + 1) (len_K t)
theorem merge_K {K : Fg} {F : Hp} {r : List Addr} : ∀ {ms : List (Key × V)} {ps : List (Int × D)} {ks : List (Key × V)} {kvs : List (Int × D)}, RpK K F r ms ps → RpK K F r ks kvs → RpK K F r (L2.mergeK ks ms) (mergeI kvs ps)
  | _, _, ks, kvs, .nil, t => t
  | (k, z) :: ms, (j, y) :: ps, ks, kvs, .cons h u, t => by
    have hk : k = .inl j := h.1
    subst hk
    exact merge_K (ms := ms) (ps := ps) u (put_K t h.2)
section
variable {XR : XRel} {W : L2.WX} {C : G.Cx} {X : L2.Cx} {p pos q : Pos} {a b ke ve : E} {xa xb xc tgx xi : Expr} {es : List E} {xs : List Expr} {it : I} {tg : Tg}
theorem dc_of {vs : List Nat} (hvs : vs = tgs tg) (hk : ke.isB = false) (hb : ve.isB = false) {σ : L2.St} {H : Hp} {Q : VK} (h : tE X.K XR W C (.dcp tg it ke ve) σ H Q) :
    tDc (tIt X.K XR W C true it) (gTg X.K tg) (tCs X.K XR (fun _ _ _ _ => False) C []) (tE X.K XR (fun _ _ _ _ => False) C ke) (tE X.K XR (fun _ _ _ _ => False) C ve) vs σ H Q := by
  subst hvs
  obtain ⟨F, r, sl, S, R, so, h⟩ := h
  unfold evE at h
  generalize hf : (fun d S => match tgSet tg d sl with
      | none => .stk
      | some sl' => (evE C ke sl' S).bind fun k S => (evE C ve sl' S).bind fun y S => match k with
        | .int k => if y.pur then .ok (k, y) S else .stk
        | _ => .stk : D → List Cell → Rs (Int × D)) = f at h
  refine ⟨F, r, sl, S, R, so, PostE.imp h.bind fun ds S1 F1 H1 r1 e1 R1 h1 J wk D hD => ?_⟩
  have n1 := R1.nF hD
  have n2 := R1.nr hD
  refine ⟨fun i m H2 => m = ds.length - i ∧ i ≤ ds.length ∧ ∃ F2 r2 S2 acc ks, Rel X.K F2 H2 r2 S2 ∧ Ext F1 H1 r1 F2 H2 r2 ∧ (H2 D = some (.dK ks) ∧ F2 D = none ∧ D ∉ r2) ∧ RpK X.K F2 r2 ks acc ∧
    PostE X.K XR W F1 H1 r1 σ ((dcpL f (ds.drop i) S2 acc).bind fun (kvs : List (Int × G.D)) S => Rs.ok (G.D.loc S.length) (S ++ [Cell.dki kvs])) (fun d S' F' H' r' => ∀ v, RpX X.K (E.dcp tg it ke ve).isB F' H' r' v d → Q v H'), ⟨ds.length, by simp, Nat.zero_le _, F1, r1, S1, [], [], R1.put n1 n2, Ext.add R1 hD, ⟨upd_same, n1, n2⟩, .nil, h1⟩, ?_⟩
  rintro i m H2 ⟨rfl, hi, F2, r2, S2, acc, ks, R2, e2, ⟨m1, m2, m3⟩, t2, h2⟩
  have ext3 : ∀ {F H : Hp} {r : List Addr} {F' H' : Hp} {r' : List Addr} {ks : List (Key × V)}, Ext F H r F' H' r' → (H D = some (.dK ks) ∧ F D = none ∧ D ∉ r) → (H' D = some (.dK ks) ∧ F' D = none ∧ D ∉ r') := by
    intro F H r F' H' r' ks e ⟨z1, z2, z3⟩
    refine ⟨e.h D _ z1 z3, ?_, ?_⟩
    · cases q : F' D with
      | none => rfl
      | some o =>
        have := e.fn D o q z2
        rw [z1] at this
        cases this
    · obtain ⟨t, rt, nt⟩ := e.p
      rw [rt]
      intro z
      rcases List.mem_append.mp z with z | z
      · exact z3 z
      · have := nt D z
        rw [z1] at this
        cases this
  by_cases hlt : i < ds.length
  · have hd : ds.drop i = ds[i] :: ds.drop (i + 1) := List.drop_eq_getElem_cons hlt
    rw [hd] at h2
    unfold dcpL at h2
    refine .inr ⟨wk.go i F2 H2 r2 S2 e2 R2 hlt, fun H' => i + 1 ≤ ds.length ∧ ∃ F2 r2 S2 acc ks, Rel X.K F2 H' r2 S2 ∧ Ext F1 H1 r1 F2 H' r2 ∧ (H' D = some (.dK ks) ∧ F2 D = none ∧ D ∉ r2) ∧ RpK X.K F2 r2 ks acc ∧
      PostE X.K XR W F1 H1 r1 σ ((dcpL f (ds.drop (i + 1)) S2 acc).bind fun (kvs : List (Int × G.D)) S => Rs.ok (G.D.loc S.length) (S ++ [Cell.dki kvs])) (fun d S' F' H' r' => ∀ v, RpX X.K (E.dcp tg it ke ve).isB F' H' r' v d → Q v H'), fun H' p => ⟨ds.length - (i + 1), by omega, rfl, p⟩, fun x H' hy => ?_⟩
    obtain ⟨F3, e3, R3, rx⟩ := wk.yl i ds[i] F2 H2 r2 S2 x H' e2 R2 (List.getElem?_eq_getElem hlt) hy
    have hfd : f ds[i] S2 = match tgSet tg ds[i] sl with
      | none => .stk
      | some sl' => (evE C ke sl' S2).bind fun k S => (evE C ve sl' S).bind fun y S => match k with
        | .int k => if y.pur then .ok (k, y) S else .stk
        | _ => .stk := by rw [← hf]
    cases ht : tgSet tg ds[i] sl with
    | none =>
      rw [hfd, ht] at h2
      exact h2.elim
    | some sl' =>
      rw [hfd, ht] at h2
      dsimp only at h2
      have so3 : SlOk X.K F3 H' r2 σ sl := ((so.ext e1).ext e2).ext e3
      refine ⟨F3, r2, S2, wipeS sl (tgs tg), ds[i], sl', R3, so3.wipe _, rx, tgSet_wipe ht, fun σ2 so2 ag => ⟨wipe_agree ?_ ag, F3, r2, sl', S2, R3, so2, ?_⟩⟩
      · rw [← so2.len, ← so3.len]
        obtain ⟨t', e, o⟩ := tgSet_off (t := sl) (A := []) ⟨rfl, fun _ _ => rfl⟩ ht
        rw [ht] at e
        cases e
        exact tgSet_len ht
      have m4 := ext3 e3 ⟨m1, m2, m3⟩
      have t3 : RpK X.K F3 r2 ks acc := RpK.up e3.f e3.pre t2
      unfold evCs
      intro F4 H4 r4 e4 R4
      dsimp only
      rw [if_pos rfl]
      refine ⟨F4, r4, sl', S2, R4, so2.ext e4, ?_⟩
      rw [hk]
      cases hke : evE C ke sl' S2 with
      | stk => simp only [Rs.bind, hke] at h2; exact h2.elim
      | exc _ _ _ => simp only [Rs.bind, hke] at h2; exact h2.elim
      | ok kd S5 =>
        simp only [Rs.bind, hke] at h2
        intro F5 H5 r5 e5 R5 kv hkv
        refine ⟨F5, r5, sl', S5, R5, (so2.ext e4).ext e5, ?_⟩
        rw [hb]
        cases hve : evE C ve sl' S5 with
        | stk => simp only [hve] at h2; exact h2.elim
        | exc _ _ _ => simp only [hve] at h2; exact h2.elim
        | ok y S6 =>
          simp only [hve] at h2
          intro F6 H6 r6 e6 R6 v hv
          cases kd with
          | int k =>
            have ek : kv = .int k := Rp.toInt hkv
            subst ek
            by_cases hp : y.pur = true
            · simp only [hp, if_true] at h2
              by_cases hn : acc.length < lim
              · rw [if_pos hn] at h2
                have m6 := ext3 e6 (ext3 e5 (ext3 e4 m4))
                have t6 := RpK.up e6.f e6.pre (RpK.up e5.f e5.pre (RpK.up e4.f e4.pre t3))
                have hv : Rp X.K F6 r6 v y := hv
                refine ⟨ks, .inl k, rfl, m6.1, by rw [len_K t6, ← lim_eq]; exact hn, hlt, F6, r6, S6, dput acc k y, L2.putK ks (.inl k) v, R6.put m6.2.1 m6.2.2, ?_, ⟨upd_same, m6.2.1, m6.2.2⟩, put_K t6 hv, h2⟩
                exact ((((e2.trans e3).trans e4).trans e5).trans e6).own hD
              · rw [if_neg hn] at h2
                exact h2.elim
            · simp only [hp] at h2
              exact h2.elim
          | _ => exact h2.elim
  · have e : i = ds.length := by omega
    subst e
    refine .inl ⟨wk.st F2 H2 r2 S2 e2 R2, ?_⟩
    rw [List.drop_length] at h2
    unfold dcpL at h2
    obtain ⟨R3, at_⟩ := R2.adopt (c := .dki acc) m2 m3 ⟨ks, m1, RpK.up (fun _ _ h => h) ⟨[D], rfl⟩ t2⟩
    have e3 : Ext F1 H1 r1 F2 H2 (r2 ++ [D]) := by
      obtain ⟨t, rt, nt⟩ := e2.p
      refine ⟨e2.f, e2.fn, e2.h, e2.t, t ++ [D], by rw [rt, List.append_assoc], fun a ha => ?_⟩
      rcases List.mem_append.mp ha with ha | ha
      · exact nt a ha
      · rw [List.mem_singleton.mp ha]
        exact hD
    exact h2 F2 H2 (r2 ++ [D]) e3 R3 _ (.loc at_)
theorem pairs_K {K : Fg} {F H : Hp} {r : List Addr} {S : List Cell} (R : Rel K F H r S) : ∀ {xs : List V} {ds : List D} {ps : List (Int × D)}, RpL K F r xs ds → pairsK ds = some ps → ∃ (as : List Addr) (kvs : List (Key × V)), xs = as.map V.ref ∧ Paired (fun p kv => SqT K H p [kV kv.1, kv.2]) as kvs ∧ RpK K F r kvs ps
  | _, _, ps, .nil, h => by
    cases h
    exact ⟨[], [], rfl, .nil, .nil⟩
  | _, _, ps, .cons (v := v) (d := d) (xs := xs) (ds := ds) hd hp t, h => by
    unfold pairsK at h
    cases hk : pairK d with
    | none => rw [hk] at h; cases h
    | some q =>
      rw [hk] at h
      cases hr : pairsK ds with
      | none => rw [hr] at h; cases h
      | some rs =>
        rw [hr] at h
        cases h
        obtain ⟨as, kvs, e1, e2, e3⟩ := pairs_K R t hr
        unfold pairK at hk
        split at hk
        · rename_i i y
          cases hk
          cases hd with
          | tup hq ht =>
            cases ht with
            | cons g1 _ ht =>
              cases ht with
              | cons g2 _ ht =>
                cases ht
                have eg := Rp.toInt g1
                subst eg
                exact ⟨_ :: as, (.inl i, _) :: kvs, by rw [e1]; rfl, .cons (R.sqt hq) e2, .cons ⟨rfl, g2⟩ e3⟩
        · cases hk
theorem e_dps (hc : X.calm = true) (hb : a.isB = false) (hs : noStar xa = true) (hg : Gl X "dict") (hm : X.mg "dict" = none) (ha : PE X xa (tE X.K XR W C a)) : PE X (.Call (.Name "dict" p) [xa] [] pos) (tE X.K XR W C (.dps a)) := by
  refine pe_imp (pe_callTy (call_dictP hc) hg hm (by decide +kernel) (pa_cons ha pa_nil (star_cons hs)) (by decide) (by decide) (star_cons hs) rfl) fun σ H Q ⟨F, r, sl, S, R, so, h⟩ => ?_
  unfold evE at h
  refine tE.one h R so fun x d F' H' r' S' ex R' rx h' => ?_
  rw [hb] at rx
  cases d with
  | lst ds =>
    simp only at h'
    cases hp : pairsK ds with
    | none => rw [hp] at h'; exact h'.elim
    | some ps =>
      rw [hp] at h'
      simp only at h'
      have rx : Rp X.K F' r' x (.lst ds) := rx
      cases rx with
      | @lst q vs _ hq ht =>
        obtain ⟨as, kvs, e1, e2, e3⟩ := pairs_K R' ht hp
        subst e1
        refine ⟨q, as, kvs, rfl, R'.sql hq, e2, fun p hp => ?_⟩
        obtain ⟨e, R2, at_⟩ := R'.celx (o := .dK (L2.mergeK [] kvs)) (c := .dki (mergeI [] ps)) hp ⟨_, upd_same, RpK.up (fun _ _ h => h) ⟨[p], rfl⟩ (merge_K e3 .nil)⟩
        exact h' _ _ _ e R2 _ (.loc at_)
  | _ => exact h'.elim
end
def recvPlain : Expr → Bool
  | .Call (.Name ..) [] [] _ => false
  | _ => true
theorem recv_base {o : Expr} {attr : Str} {env : Env} {whole : Sem Value} (h : recvPlain o = true) : attributeBase o attr env whole = whole := by
  unfold recvPlain at h
  split at h
  · cases h
  · rename_i hn
    cases o with
    | Call f args kw pos =>
      cases f with
      | Name id p2 =>
        cases args with
        | nil =>
          cases kw with
          | nil => exact absurd rfl (hn _ _ _)
          | cons _ _ => rfl
        | cons _ _ => rfl
      | _ => rfl
    | _ => rfl
end G
end S_GX2
section S_GX0
set_option linter.all false
set_option maxRecDepth 100000
set_option maxHeartbeats 2000000
/-! GX0: what is told of own classes of errors. -/
namespace G
open PySem PySem.Spec PyProof.Rows L2
def veB : List Value := [.type "ValueError", .type "Exception", .type "BaseException", .type "object"]
/-- what an own class of errors must say -/
def exB (K : Fg) (C : Addr) : Bool := PySem.W.excIn K C veB "ValueError.__new__" && PySem.W.keepIn K (.ref C) && decide (PySem.W.subIn K (.ref C) (.type "BaseException") = some true) && decide (PySem.W.typeIn K (.ref C) = some (.type "type")) &&
  decide (PySem.W.exmOne K (.ref C) (.ref C) = some true) && decide (PySem.W.findIn K (.ref C) "__getattribute__" = some (some (.builtin "BaseException.__getattribute__"))) && decide (PySem.W.findIn K (.ref C) "__getattr__" = some none) &&
  PySem.W.hasDictIn K C && decide (PySem.W.findIn K (.ref C) "__class__" = some (some (.builtin "object.__class__"))) && decide (PySem.W.specialIn K (.builtin "object.__class__") "__get__" = some (some (.builtin "getset_descriptor.__get__"))) &&
  decide (PySem.W.takesIn K (.builtin "object.__class__") = some true) && decide (PySem.W.mroIn K C (.type "object") = some true)
structure ExF (K : Fg) (C : Addr) : Prop where
  q : PySem.W.excIn K C veB "ValueError.__new__" = true
  k : PySem.W.keepIn K (.ref C) = true
  b : PySem.W.subIn K (.ref C) (.type "BaseException") = some true
  t : PySem.W.typeIn K (.ref C) = some (.type "type")
  m : PySem.W.exmOne K (.ref C) (.ref C) = some true
  c : ExcC K C
theorem exB_ok {K : Fg} {C : Addr} (h : exB K C = true) : ExF K C := by
  unfold exB at h
  simp only [Bool.and_eq_true, decide_eq_true_eq] at h
  obtain ⟨⟨⟨⟨⟨⟨⟨⟨⟨⟨⟨h1, h2⟩, h3⟩, h4⟩, h5⟩, h6⟩, h7⟩, h8⟩, h9⟩, h10⟩, h11⟩, h12⟩ := h
  exact ⟨h1, h2, h3, h4, h5, h6, h7, h3, h8, h9, h10, h11, h12⟩
/-- the class i: where it stands, what is told of its errors -/
structure ClsE (XR : XRel) (K : Fg) (mg : Str → Option Value) (x : Str) (i : Nat) (C : Addr) : Prop where
  g : mg x = some (.ref C)
  f : ExF K C
  r : ∀ d F H r, XR i d (.ref C) none F H r
  u : ∀ d cls dd F H r, XR i d cls dd F H r → cls = .ref C ∧ dd = none
/-- the value of a class's name -/
inductive ClsN (mg : Str → Option Value) (y : Str) : Value → Prop
  | own {B : Addr} (h : mg y = some (.ref B)) : ClsN mg y (.ref B)
  | bt {T : String} (h : mg y = none) (h2 : bootBuiltins y = some (.type T)) (h3 : y ≠ "__name__") : ClsN mg y (.type T)
inductive Gk where | fn (i : Nat) | con (i : Nat) | blt | exc (i : Nat) | bty (i : Nat)
  deriving DecidableEq
abbrev SubT : Type := List ((Nat × Nat) × Bool)
/-- the classes of a text -/
def ExOk (XR : XRel) (K : Fg) (mg : Str → Option Value) (tab : List (Str × Gk)) (sub : SubT) : Prop := ∃ cv : Nat → Value,
  (∀ x i, tab.lookup x = some (.exc i) → ∃ A, ClsE XR K mg x i A ∧ cv i = .ref A) ∧ (∀ x i, tab.lookup x = some (.bty i) → ClsN mg x (cv i)) ∧ ∀ i j b, ((i, j), b) ∈ sub → PySem.W.kitOne K (cv i) (cv j) = some b
end G
end S_GX0
section S_GSnd8
set_option linter.all false
set_option maxRecDepth 100000
set_option maxHeartbeats 1000000
/-! GSnd8: the checker and its soundness (expressions). -/
namespace G
open PySem PySem.Spec PyProof.Rows L2

structure Ck where
  N : List Str
  sc : Scope
  fn : Str → Bool
  tab : List (Str × Gk)
  sub : SubT := []
def Ck.slot (c : Ck) (i : Nat) (x : Str) : Bool := decide (c.N[i]? = some x) && (match c.sc.names.lookup x with | some .local => true | some .cell => true | some .free => true | _ => false)
def Ck.put (c : Ck) (i : Nat) (x : Str) : Bool := decide (c.N[i]? = some x) && (match c.sc.names.lookup x with | some .local => true | some .cell => c.fn x | _ => false)
def Ck.gl (c : Ck) (x : Str) (k : Gk) : Bool := decide (c.sc.names.lookup x = some .globalImplicit) && decide (c.tab.lookup x = some k)
def relS (scope sc : Scope) : Scope := { scope with names := scope.names.map fun (n, k) => if (k == .free && sc.kind == .function && sc.names.lookup n == some .cell) then (n, .cell) else (n, k) }
def Ck.blk (c : Ck) (scope : Scope) : Ck := { c with sc := relS scope c.sc, fn := fun x => scope.names.lookup x == some .cell }
def ownOf (N : List Str) (tg : Tg) : List (Str × Nat) := (tgs tg).map fun i => ((N[i]?).getD "", i)
/-- simple built-in functions, their names -/
def bName : Bf → Option Str
  | .len => some "len" | .int => some "int" | .list => some "list" | .tuple => some "tuple" | .all => some "all" | .any => some "any"
  | .sum => some "sum" | .max2 => some "max" | .min2 => some "min" | .abs => some "abs" | .sorted => some "sorted" | .repr => some "repr" | _ => none
mutual
def chkTg (c : Ck) : Tg → Expr → Bool
  | .s i, x => match x with
    | .Name n _ => c.put i n
    | _ => false
  | .t ts, x => match x with
    | .Tuple xs _ _ => chkTgs c ts xs
    | _ => false
def chkTgs (c : Ck) : List Tg → List Expr → Bool
  | [], [] => true
  | t :: ts, x :: xs => noStar x && chkTg c t x && chkTgs c ts xs
  | _, _ => false
end
mutual
def chkE (c : Ck) : E → Expr → Bool
  | .k d, x => match x with
    | .Constant k _ _ => kOk d k
    | _ => false
  | .v i, x => match x with
    | .Name n _ => c.slot i n
    | _ => false
  | .b i, x => match x with
    | .Name n _ => c.slot i n
    | _ => false
  | .g i, x => match x with
    | .Name n _ => c.gl n (.con i)
    | _ => false
  | .tup es, x => match x with
    | .Tuple xs _ _ => decide (xs.length ≤ 1000) && chkL c false es xs
    | _ => false
  | .lst es, x => match x with
    | .List xs _ => decide (xs.length ≤ 1000) && chkL c false es xs
    | _ => false
  | .mk es, x => match x with
    | .List xs _ => decide (xs.length ≤ 1000) && chkL c false es xs
    | _ => false
  | .bin o a b, x => match x with
    | .BinOp l o' r _ => decide (o' = opM o) && chkE c a l && chkE c b r
    | _ => false
  | .neg a, x => match x with
    | .UnaryOp .USub l _ => !a.isB && chkE c a l
    | _ => false
  | .cmp o a b, x => match x with
    | .Compare l [o'] [r] _ => decide (o' = cmM o) && !isSetX r && chkE c a l && chkE c b r
    | _ => false
  | .chn o o2 a b d, x => match x with
    | .Compare l [o', o2'] [r, s] _ => decide (o' = cmM o) && decide (o2' = cmM o2) && !isSetX s && chkE c a l && chkE c b r && chkE c d s
    | _ => false
  | .and es, x => match x with
    | .BoolOp .And xs _ => !xs.isEmpty && chkL c false es xs
    | _ => false
  | .or es, x => match x with
    | .BoolOp .Or xs _ => !xs.isEmpty && chkL c false es xs
    | _ => false
  | .not t, x => match x with
    | .UnaryOp .Not l _ => chkN c t l
    | _ => false
  | .ite t a b, x => match x with
    | .IfExp l m r _ => !a.isB && !b.isB && chkT c t l && chkE c a m && chkE c b r
    | _ => false
  | .ix a b, x => match x with
    | .Subscript l r _ => !b.isB && !isSliceX r && chkE c a l && chkE c b r
    | _ => false
  | .sl a lo hi, x => match x with
    | .Subscript l (.Slice xl xh none _) _ => chkE c a l && chkO c lo xl && chkO c hi xh
    | _ => false
  | .cal f es, x => match x with
    | .Call (.Name n _) xs [] _ => c.gl n (.fn f) && xs.all noStar && chkL c false es xs
    | _ => false
  | .ixc f e, x => match x with
    | .Call (.Attribute (.Call (.Name n _) [] [] _) at_ ap) [y] [] cp => c.gl n (.fn f) && decide (at_ = idxS) && noStar y && (ap.endLine == cp.line) && !e.isB && chkE c e y
    | _ => false
  | .blt b es, x => match x with
    | .Call (.Name n _) xs [] _ => match b with
      | .isa t => (match xs with
        | [y, .Name m _] => decide (n = "isinstance") && c.gl n .blt && decide (m = ((tyN t : String) : Str)) && c.gl m .blt && chkL c false es [y]
        | _ => false)
      | .lenset => (match xs with
        | [.Call (.Name m _) [y] [] _] => decide (n = "len") && c.gl n .blt && decide (m = "set") && c.gl m .blt && chkL c true es [y]
        | _ => false)
      | .sortset => (match xs with
        | [.Call (.Name m _) [y] [] _] => decide (n = "sorted") && c.gl n .blt && decide (m = "set") && c.gl m .blt && chkL c true es [y]
        | _ => false)
      | b => (match bName b with
        | some nm => decide (n = nm) && c.gl n .blt && !xs.isEmpty && xs.all noStar && chkL c true es xs
        | none => false)
    | _ => false
  | .mth m o es, x => match x with
    | .Call (.Attribute l at_ ap) xs [] cp => match m with
      | .index => (match xs with
        | [y] => decide (at_ = idxS) && noStar y && (ap.endLine == cp.line) && recvPlain l && chkE c o l && chkL c false es [y]
        | _ => false)
      | _ => false
    | _ => false
  | .comp tg it elt cond, x => match x with
    | .ListComp e [⟨t, i, ifs, 0⟩] sc _ => blkC c.N c.sc sc (ownOf c.N tg) && chkTg (c.blk sc) tg t && !isSetX i && chkI c true it i && !elt.isB && chkE (c.blk sc) elt e && chkCs (c.blk sc) cond ifs
    | _ => false
  | .mkx es, x => match x with
    | .List xs _ => decide (xs.length ≤ 1000) && chkL c false es xs
    | _ => false
  | .ixx a b, x => match x with
    | .Subscript l r _ => !a.isB && !b.isB && !isSliceX r && chkE c a l && chkE c b r
    | _ => false
  | .dgx a b, x => match x with
    | .Subscript l r _ => !a.isB && !b.isB && !isSliceX r && chkE c a l && chkE c b r
    | _ => false
  | .lenx a, x => match x with
    | .Call (.Name n _) [y] [] _ => decide (n = "len") && c.gl n .blt && noStar y && !a.isB && chkE c a y
    | _ => false
  | .dcp tg it ke ve, x => match x with
    | .DictComp k v [⟨t, i, [], 0⟩] sc _ => blkC c.N c.sc sc (ownOf c.N tg) && chkTg (c.blk sc) tg t && !isSetX i && chkI c true it i && !ke.isB && !ve.isB && chkE (c.blk sc) ke k && chkE (c.blk sc) ve v
    | _ => false
  | .dps a, x => match x with
    | .Call (.Name n _) [y] [] _ => decide (n = "dict") && c.gl n .blt && noStar y && !a.isB && chkE c a y
    | _ => false
  | .rgx t [a], x => match x with
    | .Call (.Name n _) [.Call (.Name m _) [y] [] _] [] _ => decide (n = if t then "tuple" else "list") && c.gl n .blt && decide (m = "range") && c.gl m .blt && noStar y && !a.isB && chkE c a y
    | _ => false
  | .rgx t [a, b], x => match x with
    | .Call (.Name n _) [.Call (.Name m _) [y, z] [] _] [] _ => decide (n = if t then "tuple" else "list") && c.gl n .blt && decide (m = "range") && c.gl m .blt && noStar y && noStar z && !a.isB && !b.isB && chkE c a y && chkE c b z
    | _ => false
  | .rgx _ _, _ => false
def chkT (c : Ck) : B → Expr → Bool
  | .tr e, x => (plainT x || (match x with | .Compare .. => true | _ => false)) && chkE c e x
  | .and bs, x => match x with
    | .BoolOp .And xs _ => !xs.isEmpty && chkTs c bs xs
    | _ => false
  | .or bs, x => match x with
    | .BoolOp .Or xs _ => !xs.isEmpty && chkTs c bs xs
    | _ => false
  | .not b, x => match x with
    | .UnaryOp .Not l _ => chkT c b l
    | _ => false
/-- under a not that is a value -/
def chkN (c : Ck) : B → Expr → Bool
  | .tr e, x => chkE c e x
  | _, _ => false
def chkTs (c : Ck) : List B → List Expr → Bool
  | [], [] => true
  | b :: bs, x :: xs => chkT c b x && chkTs c bs xs
  | _, _ => false
def chkCs (c : Ck) : List B → List Expr → Bool
  | [], [] => true
  | b :: bs, [x] => bs.isEmpty && chkT c b x
  | _, _ => false
def chkL (c : Ck) (w : Bool) : List E → List Expr → Bool
  | [], [] => true
  | e :: es, x :: xs => (w || !e.isB) && noStar x && chkE c e x && chkL c w es xs
  | _, _ => false
def chkO (c : Ck) : Option E → Option Expr → Bool
  | none, none => true
  | some e, some x => !e.isB && chkE c e x
  | _, _ => false
def chkI (c : Ck) (w : Bool) : I → Expr → Bool
  | .rng es, x => match x with
    | .Call (.Name n _) xs [] _ => decide (n = "range") && c.gl n .blt && (xs.length == 1 || xs.length == 2) && chkL c false es xs
    | _ => false
  | .e e, x => (w || !e.isB) && chkE c e x
end
end G
end S_GSnd8
section S_GSnd9
set_option linter.all false
set_option maxRecDepth 100000
set_option maxHeartbeats 2000000
/-! GSnd9: the checker's soundness, expressions. -/
namespace G
open PySem PySem.Spec PyProof.Rows L2

def W0 : L2.WX := fun _ _ _ _ => False
def GkOk (XR : XRel) (CX : CXT) (C : G.Cx) (k : Nat) (X : L2.Cx) (x : Str) : Gk → Prop
  | .fn i => ∃ fa fd ps, X.mg x = some (.ref fa) ∧ PySem.W.keepIn X.K (.ref fa) = true ∧ Binds X.K fd ps [] ∧ FnG X.prog X.w X.K X.mg X.base CX k fa fd ps (spF X.K XR C i) ∧ ∀ ss, C.cst i = some ss → ps = [] ∧ FnG X.prog X.w X.K X.mg X.base CX k fa fd ps (spC ss)
  | .con i => ∃ v u, X.mg x = some u ∧ RelV v u ∧ ∀ d F r, C.glob i = some d → Rp X.K F r v d
  | .blt => X.mg x = none ∧ x ≠ "__name__"
  | .exc _ => True
  | .bty _ => True
structure Gd (XR : XRel) (CX : CXT) (C : G.Cx) (k : Nat) (c : Ck) (X : L2.Cx) (W : L2.WX) : Prop where
  calm : X.calm = true
  gds : X.A.guards = some []
  room : Room k X.A
  N : X.N = c.N
  sc : X.env.scope = c.sc
  fn : X.fn = c.fn
  nd : c.N.Nodup
  nm : ∀ x ∈ c.N, (x == ("__debug__" : Str)) = false ∧ (x == ("__classdict__" : Str)) = false
  tk : ∀ σ, PassesAt CX X σ (WE W σ)
  t0 : ∀ (X' : L2.Cx) (σ : L2.St), X'.prog = X.prog → X'.w = X.w → PassesAt CX X' σ (WE W0 σ)
  tp : ∀ (X' : L2.Cx) (W' : L2.WX), X'.prog = X.prog → X'.w = X.w → Takes X' W' → ∀ σ, PassesAt CX X' σ (WE W' σ)
  ex : ExOk XR X.K X.mg c.tab c.sub
  tab : ∀ x g, c.tab.lookup x = some g → (x == ("__debug__" : Str)) = false ∧ (x != ("super" : Str)) = true ∧ GkOk XR CX C k X x g
section
variable {XR : XRel} {CX : CXT} {C : G.Cx} {k : Nat} {c : Ck} {X : L2.Cx} {W : L2.WX}
theorem Gd.hu (g : Gd XR CX C k c X W) : X.A.units + 200 < cLine := by
  have := g.room.un
  omega
theorem Gd.blk (g : Gd XR CX C k c X W) (s : Shared) (H : Hp) (scope : Scope) (Ca : Addr) (cl : List (Str × Addr)) (fp : List Addr) : Gd XR CX C k (c.blk scope) (X.blk s H scope (compEnvC scope cl Ca X.env) fp) W0 where
  calm := g.calm
  gds := g.gds
  room := g.room
  N := g.N
  sc := by
    show relabel scope X.env = relS scope c.sc
    rw [← g.sc]
    rfl
  fn := rfl
  nd := g.nd
  nm := g.nm
  tk := fun σ => g.t0 _ σ rfl rfl
  t0 := g.t0
  tp := g.tp
  ex := g.ex
  tab := g.tab
theorem Gd.slot (g : Gd XR CX C k c X W) {i : Nat} {x : Str} (h : c.slot i x = true) : X.N[i]? = some x ∧ Vis X.env.scope x ∧ (x == ("__debug__" : Str)) = false ∧ (x == ("__classdict__" : Str)) = false := by
  unfold Ck.slot at h
  rw [Bool.and_eq_true, decide_eq_true_eq] at h
  obtain ⟨h1, h2⟩ := h
  refine ⟨by rw [g.N]; exact h1, ?_, g.nm x (List.mem_of_getElem? h1)⟩
  rw [g.sc]
  split at h2
  · exact .inl (by assumption)
  · exact .inr (.inl (by assumption))
  · exact .inr (.inr (by assumption))
  · cases h2
theorem Gd.put (g : Gd XR CX C k c X W) {i : Nat} {x : Str} (h : c.put i x = true) : X.N[i]? = some x ∧ Loc X.env.scope x ∧ (X.fn x = true ∨ X.env.scope.names.lookup x = some .local) := by
  unfold Ck.put at h
  rw [Bool.and_eq_true, decide_eq_true_eq] at h
  obtain ⟨h1, h2⟩ := h
  refine ⟨by rw [g.N]; exact h1, ?_⟩
  rw [g.sc, g.fn]
  split at h2
  · exact ⟨.inl (by assumption), .inr (by assumption)⟩
  · exact ⟨.inr (by assumption), .inl h2⟩
  · cases h2
theorem Gd.gl (g : Gd XR CX C k c X W) {x : Str} {q : Gk} (h : c.gl x q = true) : Gl X x ∧ (x == ("__debug__" : Str)) = false ∧ (x != ("super" : Str)) = true ∧ GkOk XR CX C k X x q := by
  unfold Ck.gl at h
  rw [Bool.and_eq_true, decide_eq_true_eq, decide_eq_true_eq] at h
  obtain ⟨h1, h2⟩ := h
  refine ⟨?_, g.tab x q h2⟩
  show X.env.scope.names.lookup x = _
  rw [g.sc]
  exact h1
end

def E.fresh : E → Bool
  | .lst _ => true
  | .bin .. => true
  | .sl .. => true
  | .comp .. => true
  | .blt .list _ => true
  | .blt .sorted _ => true
  | .blt .sortset _ => true
  | .rgx false _ => true
  | _ => false
theorem fr {X : L2.Cx} {XR : XRel} {C : G.Cx} {W : L2.WX} {e : E} {x : Expr} (hb : e.isB = false) (h : PE X x (tEX X.K XR W C e)) : PE X x (tE X.K XR W C e) ∧ (e.fresh = true → PE X x (tEX X.K XR W C e)) := ⟨pe_imp h (tE.x hb), fun _ => h⟩
theorem nf {X : L2.Cx} {XR : XRel} {C : G.Cx} {W : L2.WX} {e : E} {x : Expr} (hb : e.fresh = false) (h : PE X x (tE X.K XR W C e)) : PE X x (tE X.K XR W C e) ∧ (e.fresh = true → PE X x (tEX X.K XR W C e)) := ⟨h, fun z => by rw [hb] at z; cases z⟩
section
variable {XR : XRel} {CX : CXT} {C : G.Cx} {k : Nat}
mutual
theorem sTg : ∀ (t : Tg) (x : Expr) {c : Ck} {X : L2.Cx} {W : L2.WX}, chkTg c t x = true → Gd XR CX C k c X W → PG X x (gTg X.K t)
  | .s i, x, c, X, W, h, g => by
    unfold chkTg at h
    split at h
    · obtain ⟨h1, h2, h3⟩ := g.put h
      exact g_s (g.N ▸ g.nd) h1 h2 h3
    · cases h
  | .t ts, x, c, X, W, h, g => by
    unfold chkTg at h
    split at h
    · rename_i xs _ _
      obtain ⟨h1, h2, h3⟩ := sTgs ts xs h g
      exact g_t g.calm h2 h3 h1
    · cases h
theorem sTgs : ∀ (ts : List Tg) (xs : List Expr) {c : Ck} {X : L2.Cx} {W : L2.WX}, chkTgs c ts xs = true → Gd XR CX C k c X W → PGs X xs (gTgs X.K ts) ∧ xs.all noStar = true ∧ xs.length = ts.length
  | [], [], c, X, W, h, g => ⟨gs_nil, rfl, rfl⟩
  | [], _ :: _, c, X, W, h, g => by unfold chkTgs at h; cases h
  | _ :: _, [], c, X, W, h, g => by unfold chkTgs at h; cases h
  | t :: ts, x :: xs, c, X, W, h, g => by
    unfold chkTgs at h
    simp only [Bool.and_eq_true] at h
    obtain ⟨⟨h1, h2⟩, h3⟩ := h
    obtain ⟨q1, q2, q3⟩ := sTgs ts xs h3 g
    exact ⟨gs_cons h1 (sTg t x h2 g) q1, by rw [List.all_cons, h1, q2]; rfl, by rw [List.length_cons, List.length_cons, q3]⟩
end
theorem own_ix {N : List Str} {tg : Tg} : (ownOf N tg).map (·.2) = tgs tg := by
  unfold ownOf
  rw [List.map_map]
  exact List.map_id _
theorem boot_max : bootBuiltins "max" = some (.builtin "max") := by decide +kernel
theorem boot_min : bootBuiltins "min" = some (.builtin "min") := by decide +kernel
theorem boot_sum : bootBuiltins "sum" = some (.builtin "sum") := by decide +kernel
theorem boot_all : bootBuiltins "all" = some (.builtin "all") := by decide +kernel
theorem boot_any : bootBuiltins "any" = some (.builtin "any") := by decide +kernel
theorem boot_len' : bootBuiltins "len" = some (.builtin "len") := by decide +kernel
/-- a simple built-in function -/
theorem s_blt {b : Bf} {nm n : Str} {c : Ck} {X : L2.Cx} {W : L2.WX} {es : List E} {xa : Expr} {xs : List Expr} {p pos : Pos} (g : Gd XR CX C k c X W) (hb : bName b = some nm) (hn : n = nm) (hg : Gl X n) (hm : X.mg n = none) (hs : (xa :: xs).all noStar = true) (ha : PA X (xa :: xs) (tL X.K XR W C true es)) :
    PE X (.Call (.Name n p) (xa :: xs) [] pos) (tE X.K XR W C (.blt b es)) ∧ ((E.blt b es).fresh = true → PE X (.Call (.Name n p) (xa :: xs) [] pos) (tEX X.K XR W C (.blt b es))) := by
  subst hn
  rw [List.all_cons, Bool.and_eq_true] at hs
  have he := star_cons (es := xs) (env := X.env) hs.1
  have hpl := star_any (env := X.env) (pos := pos) hs.2
  cases b with
  | len => cases hb; exact nf rfl (e_blt (pe_callB snd_len hg hm boot_len' ha (by decide) (by decide) he hpl))
  | int => cases hb; exact nf rfl (e_blt (pe_callTy snd_int hg hm boot_int ha (by decide) (by decide) he hpl))
  | list => cases hb; exact fr rfl (e_bltX (pe_callTy snd_list hg hm boot_list ha (by decide) (by decide) he hpl))
  | tuple => cases hb; exact nf rfl (e_blt (pe_callTy snd_tuple hg hm boot_tuple ha (by decide) (by decide) he hpl))
  | all => cases hb; exact nf rfl (e_blt (pe_callB (snd_all g.calm) hg hm boot_all ha (by decide) (by decide) he hpl))
  | any => cases hb; exact nf rfl (e_blt (pe_callB (snd_any g.calm) hg hm boot_any ha (by decide) (by decide) he hpl))
  | sum => cases hb; exact nf rfl (e_blt (pe_callB (snd_sum g.calm) hg hm boot_sum ha (by decide) (by decide) he hpl))
  | max2 => cases hb; exact nf rfl (e_blt (pe_callB (snd_max2 g.calm) hg hm boot_max ha (by decide) (by decide) he hpl))
  | min2 => cases hb; exact nf rfl (e_blt (pe_callB (snd_min2 g.calm) hg hm boot_min ha (by decide) (by decide) he hpl))
  | abs => cases hb; exact nf rfl (e_blt (pe_callB snd_abs hg hm PyProof.Rows.boot_abs ha (by decide) (by decide) he hpl))
  | sorted => cases hb; exact fr rfl (e_bltX (pe_callB snd_sorted hg hm boot_sorted ha (by decide) (by decide) he hpl))
  | repr => cases hb; exact nf rfl (e_blt (pe_callB (snd_repr g.gds g.hu) hg hm boot_repr ha (by decide) (by decide) he hpl))
  | _ => cases hb
end
end G
end S_GSnd9
section S_GSnd10
set_option linter.all false
set_option maxRecDepth 100000
set_option maxHeartbeats 4000000
/-! GSnd10: the checker's soundness, expressions. -/
namespace G
open PySem PySem.Spec PyProof.Rows L2
section
variable {XR : XRel} {CX : CXT} {C : G.Cx} {k : Nat}
abbrev RE (XR : XRel) (C : G.Cx) (X : L2.Cx) (W : L2.WX) (e : E) (x : Expr) : Prop := PE X x (tE X.K XR W C e) ∧ (e.fresh = true → PE X x (tEX X.K XR W C e))
theorem nb_of {b : Bool} (h : (!b) = true) : b = false := by
  cases b with
  | false => rfl
  | true => cases h
mutual
theorem sE : ∀ (e : E) (x : Expr) {c : Ck} {X : L2.Cx} {W : L2.WX}, chkE c e x = true → Gd XR CX C k c X W → RE XR C X W e x
  | .k d, x, c, X, W, h, g => by
    unfold chkE at h
    split at h
    · exact nf rfl (e_k h)
    · cases h
  | .v i, x, c, X, W, h, g => by
    unfold chkE at h
    split at h
    · obtain ⟨h1, h2, h3, h4⟩ := g.slot h
      exact nf rfl (e_v h1 h2 h3 h4)
    · cases h
  | .b i, x, c, X, W, h, g => by
    unfold chkE at h
    split at h
    · obtain ⟨h1, h2, h3, h4⟩ := g.slot h
      exact nf rfl (e_b h1 h2 h3 h4)
    · cases h
  | .g i, x, c, X, W, h, g => by
    unfold chkE at h
    split at h
    · obtain ⟨h1, h2, _, v, u, h3, h4, h5⟩ := g.gl h
      exact nf rfl (e_g h1 h3 h4 h2 h5)
    · cases h
  | .tup es, x, c, X, W, h, g => by
    unfold chkE at h
    split at h
    · rw [Bool.and_eq_true, decide_eq_true_eq] at h
      obtain ⟨q, q1, q2⟩ := sL false es _ h.2 g
      exact nf rfl (e_tup (by rw [← q2]; exact h.1) q)
    · cases h
  | .lst es, x, c, X, W, h, g => by
    unfold chkE at h
    split at h
    · rw [Bool.and_eq_true, decide_eq_true_eq] at h
      obtain ⟨q, q1, q2⟩ := sL false es _ h.2 g
      exact fr rfl (e_lst (by rw [← q2]; exact h.1) q)
    · cases h
  | .mk es, x, c, X, W, h, g => by
    unfold chkE at h
    split at h
    · rw [Bool.and_eq_true, decide_eq_true_eq] at h
      obtain ⟨q, q1, q2⟩ := sL false es _ h.2 g
      exact nf rfl (e_mk (by rw [← q2]; exact h.1) q)
    · cases h
  | .bin o a b, x, c, X, W, h, g => by
    unfold chkE at h
    split at h
    · simp only [Bool.and_eq_true, decide_eq_true_eq] at h
      obtain ⟨⟨rfl, h1⟩, h2⟩ := h
      exact fr rfl (e_bin (sE a _ h1 g).1 (sE b _ h2 g).1)
    · cases h
  | .neg a, x, c, X, W, h, g => by
    unfold chkE at h
    split at h
    · simp only [Bool.and_eq_true] at h
      exact nf rfl (e_neg (nb_of h.1) (sE a _ h.2 g).1)
    · cases h
  | .cmp o a b, x, c, X, W, h, g => by
    unfold chkE at h
    split at h
    · simp only [Bool.and_eq_true, decide_eq_true_eq] at h
      obtain ⟨⟨⟨rfl, h0⟩, h1⟩, h2⟩ := h
      exact nf rfl (e_cmp g.hu (nb_of h0) (sE a _ h1 g).1 (sE b _ h2 g).1)
    · cases h
  | .chn o o2 a b d, x, c, X, W, h, g => by
    unfold chkE at h
    split at h
    · simp only [Bool.and_eq_true, decide_eq_true_eq] at h
      obtain ⟨⟨⟨⟨⟨rfl, rfl⟩, h0⟩, h1⟩, h2⟩, h3⟩ := h
      exact nf rfl (e_chn g.hu (nb_of h0) (sE a _ h1 g).1 (sE b _ h2 g).1 (sE d _ h3 g).1)
    · cases h
  | .and es, x, c, X, W, h, g => by
    unfold chkE at h
    split at h
    · rename_i xs pos
      simp only [Bool.and_eq_true] at h
      refine nf rfl (pe_imp (sAV es xs pos (nb_of h.1) h.2 g) fun σ H Q q => ?_)
      obtain ⟨F, r, sl, S, R, so, q⟩ := q
      unfold evE at q
      exact ⟨F, r, sl, S, R, so, q⟩
    · cases h
  | .or es, x, c, X, W, h, g => by
    unfold chkE at h
    split at h
    · rename_i xs pos
      simp only [Bool.and_eq_true] at h
      refine nf rfl (pe_imp (sOV es xs pos (nb_of h.1) h.2 g) fun σ H Q q => ?_)
      obtain ⟨F, r, sl, S, R, so, q⟩ := q
      unfold evE at q
      exact ⟨F, r, sl, S, R, so, q⟩
    · cases h
  | .not t, x, c, X, W, h, g => by
    unfold chkE at h
    split at h
    · cases t with
      | tr e =>
        unfold chkN at h
        exact nf rfl (e_not (sE e _ h g).1)
      | _ => unfold chkN at h; cases h
    · cases h
  | .ite t a b, x, c, X, W, h, g => by
    unfold chkE at h
    split at h
    · simp only [Bool.and_eq_true] at h
      obtain ⟨⟨⟨⟨h1, h2⟩, h3⟩, h4⟩, h5⟩ := h
      exact nf rfl (e_ite (nb_of h1) (nb_of h2) (sT t _ h3 g) (sE a _ h4 g).1 (sE b _ h5 g).1)
    · cases h
  | .ix a b, x, c, X, W, h, g => by
    unfold chkE at h
    split at h
    · simp only [Bool.and_eq_true] at h
      obtain ⟨⟨⟨h1, h2⟩, h3⟩, h4⟩ := h
      exact nf rfl (e_ix (nb_of h1) (nb_of h2) (sE a _ h3 g).1 (sE b _ h4 g).1)
    · cases h
  | .sl a lo hi, x, c, X, W, h, g => by
    unfold chkE at h
    split at h
    · simp only [Bool.and_eq_true] at h
      obtain ⟨⟨h1, h2⟩, h3⟩ := h
      exact fr rfl (e_sl (sE a _ h1 g).1 (sO lo _ h2 g) (sO hi _ h3 g))
    · cases h
  | .cal f es, x, c, X, W, h, g => by
    unfold chkE at h
    split at h
    · rename_i n p xs pos
      simp only [Bool.and_eq_true] at h
      obtain ⟨⟨h1, h2⟩, h3⟩ := h
      obtain ⟨g1, g2, _, fa, fd, ps, g3, g4, g5, g6, _⟩ := g.gl h1
      obtain ⟨q, q1, q2⟩ := sL false es _ h3 g
      cases xs with
      | nil =>
        have e : es = [] := by cases es with | nil => rfl | cons _ _ => cases q2
        subst e
        exact nf rfl (e_cal0 g6 g.gds g.room g1 g3 g4 g5 g.tk g2)
      | cons x xs => exact nf rfl (e_cal g6 g.gds g.room g1 g3 g4 g5 g.tk g2 h2 q)
    · cases h
  | .ixc f e, x, c, X, W, h, g => by
    unfold chkE at h
    split at h
    · simp only [Bool.and_eq_true, decide_eq_true_eq] at h
      obtain ⟨⟨⟨⟨⟨h1, rfl⟩, h2⟩, h3⟩, h4⟩, h5⟩ := h
      obtain ⟨g1, g2, g2', fa, fd, ps, g3, g4, g5, _, g7⟩ := g.gl h1
      have q := (sE e _ h5 g).1
      refine nf rfl ⟨fun pins s σ H Q I hq => ?_⟩
      cases hc : C.cst f with
      | none =>
        obtain ⟨F, r, sl, S, R, so, hq⟩ := hq
        unfold evE at hq
        rw [hc] at hq
        exact hq.elim
      | some ss =>
        obtain ⟨rfl, g6⟩ := g7 ss hc
        exact (e_ixc hc g6 g.gds g.room g1 g3 g4 g5 g.tk g2 g2' h2 h3 (nb_of h4) (a_cons h2 (.inr (nb_of h4)) q a_nil)).run pins s σ H Q I hq
    · cases h
  | .blt b es, x, c, X, W, h, g => by
    unfold chkE at h
    split at h
    · rename_i n p xs pos
      split at h
      · rename_i t
        split at h
        · simp only [Bool.and_eq_true, decide_eq_true_eq] at h
          obtain ⟨⟨⟨⟨rfl, h1⟩, rfl⟩, h2⟩, h3⟩ := h
          obtain ⟨g1, _, _, g3, _⟩ := g.gl h1
          obtain ⟨g4, _, _, g6, _⟩ := g.gl h2
          cases es with
          | nil => unfold chkL at h3; cases h3
          | cons a es =>
            unfold chkL at h3
            simp only [Bool.and_eq_true, Bool.false_or] at h3
            obtain ⟨⟨⟨h4, h5⟩, h6⟩, h7⟩ := h3
            cases es with
            | nil => exact nf rfl (e_isa h5 (nb_of h4) g1 g3 g4 g6 (sE a _ h6 g).1)
            | cons _ _ => unfold chkL at h7; cases h7
        · cases h
      · split at h
        · simp only [Bool.and_eq_true, decide_eq_true_eq] at h
          obtain ⟨⟨⟨⟨rfl, h1⟩, rfl⟩, h2⟩, h3⟩ := h
          obtain ⟨g1, _, _, g3, _⟩ := g.gl h1
          obtain ⟨g4, _, _, g6, _⟩ := g.gl h2
          cases es with
          | nil => unfold chkL at h3; cases h3
          | cons a es =>
            unfold chkL at h3
            simp only [Bool.and_eq_true, Bool.true_or] at h3
            obtain ⟨⟨⟨h4, h5⟩, h6⟩, h7⟩ := h3
            cases es with
            | nil => exact nf rfl (e_lenset g.calm g1 g3 g4 g6 h5 (sE a _ h6 g).1)
            | cons _ _ => unfold chkL at h7; cases h7
        · cases h
      · split at h
        · simp only [Bool.and_eq_true, decide_eq_true_eq] at h
          obtain ⟨⟨⟨⟨rfl, h1⟩, rfl⟩, h2⟩, h3⟩ := h
          obtain ⟨g1, _, _, g3, _⟩ := g.gl h1
          obtain ⟨g4, _, _, g6, _⟩ := g.gl h2
          cases es with
          | nil => unfold chkL at h3; cases h3
          | cons a es =>
            unfold chkL at h3
            simp only [Bool.and_eq_true, Bool.true_or] at h3
            obtain ⟨⟨⟨h4, h5⟩, h6⟩, h7⟩ := h3
            cases es with
            | nil => exact fr rfl (e_sortset g.calm g1 g3 g4 g6 h5 (sE a _ h6 g).1)
            | cons _ _ => unfold chkL at h7; cases h7
        · cases h
      · split at h
        · rename_i nm hb
          simp only [Bool.and_eq_true, decide_eq_true_eq] at h
          obtain ⟨⟨⟨⟨h0, h1⟩, h2⟩, h3⟩, h4⟩ := h
          obtain ⟨g1, _, _, g3, _⟩ := g.gl h1
          obtain ⟨q, q1, q2⟩ := sL true es _ h4 g
          cases xs with
          | nil => cases h2
          | cons x xs => exact s_blt g hb h0 g1 g3 h3 q
        · cases h
    · cases h
  | .mth m o es, x, c, X, W, h, g => by
    unfold chkE at h
    split at h
    · split at h
      · split at h
        · simp only [Bool.and_eq_true, decide_eq_true_eq] at h
          obtain ⟨⟨⟨⟨⟨rfl, h1⟩, h2⟩, h3⟩, h4⟩, h5⟩ := h
          have q := (sE o _ h4 g).1
          obtain ⟨q5, q6, q7⟩ := sL false es _ h5 g
          cases es with
          | nil => cases q7
          | cons b es =>
            cases es with
            | cons _ _ => cases q7
            | nil =>
              unfold chkL at h5
              simp only [Bool.and_eq_true, Bool.false_or] at h5
              exact nf rfl (e_index h1 h2 (nb_of h5.1.1.1) (recv_base h3) q q5)
        · cases h
      · cases h
    · cases h
  | .comp tg it elt cond, x, c, X, W, h, g => by
    unfold chkE at h
    split at h
    · rename_i e t i ifs sc pos
      simp only [Bool.and_eq_true] at h
      obtain ⟨⟨⟨⟨⟨⟨h1, h2⟩, h3⟩, h4⟩, h5⟩, h6⟩, h7⟩ := h
      have ok : BlkOk X.N X.env.scope sc (ownOf c.N tg) := by
        rw [g.N, g.sc]
        exact blkOk_by h1
      refine fr rfl (pe_imp (pe_lc (own := ownOf c.N tg) (wi := tIt X.K XR W C true it) (g := gTg X.K tg) (tt := tCs X.K XR W0 C cond) (te := tE X.K XR W0 C elt) g.calm (g.N ▸ g.nd) (sI true it t i h4 g) ok (fun s H Ca cl fp => sTg tg t h2 (g.blk s H sc Ca cl fp)) (fun s H Ca cl fp => sCs cond ifs h7 (g.blk s H sc Ca cl fp)) (fun s H Ca cl fp => (sE elt e h6 (g.blk s H sc Ca cl fp)).1) (set_folded (nb_of h3))) fun σ H Q q => ?_)
      exact lc_of own_ix (nb_of h5) q
    · cases h
  | .mkx es, x, c, X, W, h, g => by
    unfold chkE at h
    split at h
    · rw [Bool.and_eq_true, decide_eq_true_eq] at h
      obtain ⟨q, q1, q2⟩ := sL false es _ h.2 g
      exact nf rfl (e_mkx (by rw [← q2]; exact h.1) q)
    · cases h
  | .ixx a b, x, c, X, W, h, g => by
    unfold chkE at h
    split at h
    · simp only [Bool.and_eq_true] at h
      obtain ⟨⟨⟨⟨h0, h1⟩, h2⟩, h3⟩, h4⟩ := h
      exact nf rfl (e_ixx (nb_of h0) (nb_of h1) (nb_of h2) (sE a _ h3 g).1 (sE b _ h4 g).1)
    · cases h
  | .dgx a b, x, c, X, W, h, g => by
    unfold chkE at h
    split at h
    · simp only [Bool.and_eq_true] at h
      obtain ⟨⟨⟨⟨h0, h1⟩, h2⟩, h3⟩, h4⟩ := h
      exact nf rfl (e_dgx (by have := g.hu; omega) (nb_of h0) (nb_of h1) (nb_of h2) (sE a _ h3 g).1 (sE b _ h4 g).1)
    · cases h
  | .lenx a, x, c, X, W, h, g => by
    unfold chkE at h
    split at h
    · simp only [Bool.and_eq_true, decide_eq_true_eq] at h
      obtain ⟨⟨⟨⟨rfl, h1⟩, h2⟩, h3⟩, h4⟩ := h
      obtain ⟨g1, _, _, g3, _⟩ := g.gl h1
      exact nf rfl (e_lenx (nb_of h3) h2 g1 g3 (sE a _ h4 g).1)
    · cases h
  | .dcp tg it ke ve, x, c, X, W, h, g => by
    unfold chkE at h
    split at h
    · rename_i k v t i sc pos
      simp only [Bool.and_eq_true] at h
      obtain ⟨⟨⟨⟨⟨⟨⟨h1, h2⟩, h3⟩, h4⟩, h5⟩, h6⟩, h7⟩, h8⟩ := h
      have ok : BlkOk X.N X.env.scope sc (ownOf c.N tg) := by
        rw [g.N, g.sc]
        exact blkOk_by h1
      refine nf rfl (pe_imp (pe_dc (own := ownOf c.N tg) (wi := tIt X.K XR W C true it) (g := gTg X.K tg) (tt := tCs X.K XR W0 C []) (tk := tE X.K XR W0 C ke) (tv := tE X.K XR W0 C ve) g.calm (g.N ▸ g.nd) (sI true it t i h4 g) ok (fun s H Ca cl fp => sTg tg t h2 (g.blk s H sc Ca cl fp)) (fun s H Ca cl fp => c_nil) (fun s H Ca cl fp => (sE ke k h7 (g.blk s H sc Ca cl fp)).1) (fun s H Ca cl fp => (sE ve v h8 (g.blk s H sc Ca cl fp)).1) (set_folded (nb_of h3))) fun σ H Q q => ?_)
      exact dc_of own_ix (nb_of h5) (nb_of h6) q
    · cases h
  | .dps a, x, c, X, W, h, g => by
    unfold chkE at h
    split at h
    · simp only [Bool.and_eq_true, decide_eq_true_eq] at h
      obtain ⟨⟨⟨⟨rfl, h1⟩, h2⟩, h3⟩, h4⟩ := h
      obtain ⟨g1, _, _, g3, _⟩ := g.gl h1
      exact nf rfl (e_dps g.calm (nb_of h3) h2 g1 g3 (sE a _ h4 g).1)
    · cases h
  | .rgx t [a], x, c, X, W, h, g => by
    unfold chkE at h
    split at h
    · simp only [Bool.and_eq_true, decide_eq_true_eq] at h
      obtain ⟨⟨⟨⟨⟨⟨hn, h1⟩, rfl⟩, h2⟩, h3⟩, h4⟩, h5⟩ := h
      obtain ⟨g1, _, _, g3, _⟩ := g.gl h1
      obtain ⟨k1, _, _, k3, _⟩ := g.gl h2
      have z := fun p pos => rg_1 (XR := XR) (W := W) (C := C) (p := p) (pos := pos) h3 (nb_of h4) k1 k3 (sE a _ h5 g).1
      cases t with
      | true =>
        simp only [if_true] at hn
        subst hn
        exact nf rfl (e_rgT g.calm rfl g1 g3 (z _ _))
      | false =>
        simp only [Bool.false_eq_true, if_false] at hn
        subst hn
        exact fr rfl (e_rgL g.calm rfl g1 g3 (z _ _))
    · cases h
  | .rgx t [a, b], x, c, X, W, h, g => by
    unfold chkE at h
    split at h
    · simp only [Bool.and_eq_true, decide_eq_true_eq] at h
      obtain ⟨⟨⟨⟨⟨⟨⟨⟨⟨hn, h1⟩, rfl⟩, h2⟩, h3⟩, h3'⟩, h4⟩, h4'⟩, h5⟩, h6⟩ := h
      obtain ⟨g1, _, _, g3, _⟩ := g.gl h1
      obtain ⟨k1, _, _, k3, _⟩ := g.gl h2
      have z := fun p pos => rg_2 (XR := XR) (W := W) (C := C) (p := p) (pos := pos) h3 h3' (nb_of h4) (nb_of h4') k1 k3 (sE a _ h5 g).1 (sE b _ h6 g).1
      cases t with
      | true =>
        simp only [if_true] at hn
        subst hn
        exact nf rfl (e_rgT g.calm rfl g1 g3 (z _ _))
      | false =>
        simp only [Bool.false_eq_true, if_false] at hn
        subst hn
        exact fr rfl (e_rgL g.calm rfl g1 g3 (z _ _))
    · cases h
  | .rgx t [], x, c, X, W, h, g => by
    unfold chkE at h
    cases h
  | .rgx t (_ :: _ :: _ :: _), x, c, X, W, h, g => by
    unfold chkE at h
    cases h
termination_by e => sizeOf e
theorem sT : ∀ (b : B) (x : Expr) {c : Ck} {X : L2.Cx} {W : L2.WX}, chkT c b x = true → Gd XR CX C k c X W → PT X x (tT X.K XR W C b)
  | .tr e, x, c, X, W, h, g => by
    unfold chkT at h
    rw [Bool.and_eq_true, Bool.or_eq_true] at h
    obtain ⟨h1, h2⟩ := h
    rcases h1 with h1 | h1
    · exact t_tr h1 (sE e _ h2 g).1
    · cases e with
      | cmp o a b =>
        unfold chkE at h2
        split at h2
        · simp only [Bool.and_eq_true, decide_eq_true_eq] at h2
          obtain ⟨⟨⟨rfl, h0⟩, hA⟩, hB⟩ := h2
          exact t_cmp g.hu (nb_of h0) (sE a _ hA g).1 (sE b _ hB g).1
        · cases h2
      | chn o o2 a b d =>
        unfold chkE at h2
        split at h2
        · simp only [Bool.and_eq_true, decide_eq_true_eq] at h2
          obtain ⟨⟨⟨⟨⟨rfl, rfl⟩, h0⟩, hA⟩, hB⟩, hC⟩ := h2
          exact t_chn g.hu (nb_of h0) (sE a _ hA g).1 (sE b _ hB g).1 (sE d _ hC g).1
        · cases h2
      | rgx t es =>
        split at h1
        · match es, h2 with
          | [], h2 => unfold chkE at h2; cases h2
          | [_], h2 => unfold chkE at h2; cases h2
          | [_, _], h2 => unfold chkE at h2; cases h2
          | _ :: _ :: _ :: _, h2 => unfold chkE at h2; cases h2
        · cases h1
      | _ =>
        split at h1
        · unfold chkE at h2
          cases h2
        · cases h1
  | .and bs, x, c, X, W, h, g => by
    unfold chkT at h
    split at h
    · rename_i xs pos
      simp only [Bool.and_eq_true] at h
      refine pt_imp (sAT bs xs pos (nb_of h.1) h.2 g).pt fun σ H Q q => ?_
      obtain ⟨F, r, sl, S, R, so, q⟩ := q
      unfold evT at q
      exact ⟨F, r, sl, S, R, so, q⟩
    · cases h
  | .or bs, x, c, X, W, h, g => by
    unfold chkT at h
    split at h
    · rename_i xs pos
      simp only [Bool.and_eq_true] at h
      refine pt_imp (sOT bs xs pos (nb_of h.1) h.2 g).pt fun σ H Q q => ?_
      obtain ⟨F, r, sl, S, R, so, q⟩ := q
      unfold evT at q
      exact ⟨F, r, sl, S, R, so, q⟩
    · cases h
  | .not b, x, c, X, W, h, g => by
    unfold chkT at h
    split at h
    · exact t_not (sT b _ h g)
    · cases h
termination_by b => sizeOf b
theorem sAT : ∀ (bs : List B) (xs : List Expr) (pos : Pos) {c : Ck} {X : L2.Cx} {W : L2.WX}, xs.isEmpty = false → chkTs c bs xs = true → Gd XR CX C k c X W → PW X (.BoolOp .And xs pos) (tAT X.K XR W C bs)
  | [], [], pos, c, X, W, hn, h, g => by cases hn
  | [], _ :: _, pos, c, X, W, hn, h, g => by unfold chkTs at h; cases h
  | _ :: _, [], pos, c, X, W, hn, h, g => by cases hn
  | b :: bs, x :: xs, pos, c, X, W, hn, h, g => by
    unfold chkTs at h
    rw [Bool.and_eq_true] at h
    have q := sT b x h.1 g
    cases xs with
    | nil =>
      cases bs with
      | nil => exact t_and1 q
      | cons _ _ => unfold chkTs at h; cases h.2
    | cons x2 xs =>
      have q2 := sAT bs (x2 :: xs) pos rfl h.2 g
      cases bs with
      | nil => unfold chkTs at h; cases h.2
      | cons b2 bs => exact t_and q q2
termination_by bs => sizeOf bs
theorem sOT : ∀ (bs : List B) (xs : List Expr) (pos : Pos) {c : Ck} {X : L2.Cx} {W : L2.WX}, xs.isEmpty = false → chkTs c bs xs = true → Gd XR CX C k c X W → PW X (.BoolOp .Or xs pos) (tOT X.K XR W C bs)
  | [], [], pos, c, X, W, hn, h, g => by cases hn
  | [], _ :: _, pos, c, X, W, hn, h, g => by unfold chkTs at h; cases h
  | _ :: _, [], pos, c, X, W, hn, h, g => by cases hn
  | b :: bs, x :: xs, pos, c, X, W, hn, h, g => by
    unfold chkTs at h
    rw [Bool.and_eq_true] at h
    have q := sT b x h.1 g
    cases xs with
    | nil =>
      cases bs with
      | nil => exact t_or1 q
      | cons _ _ => unfold chkTs at h; cases h.2
    | cons x2 xs =>
      have q2 := sOT bs (x2 :: xs) pos rfl h.2 g
      cases bs with
      | nil => unfold chkTs at h; cases h.2
      | cons b2 bs => exact t_or q q2
termination_by bs => sizeOf bs
theorem sAV : ∀ (es : List E) (xs : List Expr) (pos : Pos) {c : Ck} {X : L2.Cx} {W : L2.WX}, xs.isEmpty = false → chkL c false es xs = true → Gd XR CX C k c X W → PE X (.BoolOp .And xs pos) (tAV X.K XR W C es)
  | [], [], pos, c, X, W, hn, h, g => by cases hn
  | [], _ :: _, pos, c, X, W, hn, h, g => by unfold chkL at h; cases h
  | _ :: _, [], pos, c, X, W, hn, h, g => by cases hn
  | b :: bs, x :: xs, pos, c, X, W, hn, h, g => by
    unfold chkL at h
    simp only [Bool.and_eq_true, Bool.false_or] at h
    have q := (sE b x h.1.2 g).1
    have qb := nb_of h.1.1.1
    cases xs with
    | nil =>
      cases bs with
      | nil => exact e_and1 qb q
      | cons _ _ => unfold chkL at h; cases h.2
    | cons x2 xs =>
      have q2 := sAV bs (x2 :: xs) pos rfl h.2 g
      cases bs with
      | nil => unfold chkL at h; cases h.2
      | cons b2 bs => exact e_and qb q q2
termination_by es => sizeOf es
theorem sOV : ∀ (es : List E) (xs : List Expr) (pos : Pos) {c : Ck} {X : L2.Cx} {W : L2.WX}, xs.isEmpty = false → chkL c false es xs = true → Gd XR CX C k c X W → PE X (.BoolOp .Or xs pos) (tOV X.K XR W C es)
  | [], [], pos, c, X, W, hn, h, g => by cases hn
  | [], _ :: _, pos, c, X, W, hn, h, g => by unfold chkL at h; cases h
  | _ :: _, [], pos, c, X, W, hn, h, g => by cases hn
  | b :: bs, x :: xs, pos, c, X, W, hn, h, g => by
    unfold chkL at h
    simp only [Bool.and_eq_true, Bool.false_or] at h
    have q := (sE b x h.1.2 g).1
    have qb := nb_of h.1.1.1
    cases xs with
    | nil =>
      cases bs with
      | nil => exact e_or1 qb q
      | cons _ _ => unfold chkL at h; cases h.2
    | cons x2 xs =>
      have q2 := sOV bs (x2 :: xs) pos rfl h.2 g
      cases bs with
      | nil => unfold chkL at h; cases h.2
      | cons b2 bs => exact e_or qb q q2
termination_by es => sizeOf es
theorem sCs : ∀ (bs : List B) (xs : List Expr) {c : Ck} {X : L2.Cx} {W : L2.WX}, chkCs c bs xs = true → Gd XR CX C k c X W → PTs X xs (tCs X.K XR W C bs)
  | [], [], c, X, W, h, g => c_nil
  | [], _ :: _, c, X, W, h, g => by unfold chkCs at h; cases h
  | _ :: _, [], c, X, W, h, g => by unfold chkCs at h; cases h
  | _ :: _, _ :: _ :: _, c, X, W, h, g => by unfold chkCs at h; cases h
  | b :: bs, [x], c, X, W, h, g => by
    unfold chkCs at h
    rw [Bool.and_eq_true] at h
    cases bs with
    | nil => exact c_one (sT b x h.2 g)
    | cons _ _ => cases h.1
termination_by bs => sizeOf bs
theorem sL : ∀ (w : Bool) (es : List E) (xs : List Expr) {c : Ck} {X : L2.Cx} {W : L2.WX}, chkL c w es xs = true → Gd XR CX C k c X W → PA X xs (tL X.K XR W C w es) ∧ xs.all noStar = true ∧ xs.length = es.length
  | w, [], [], c, X, W, h, g => ⟨a_nil, rfl, rfl⟩
  | w, [], _ :: _, c, X, W, h, g => by unfold chkL at h; cases h
  | w, _ :: _, [], c, X, W, h, g => by unfold chkL at h; cases h
  | w, e :: es, x :: xs, c, X, W, h, g => by
    unfold chkL at h
    simp only [Bool.and_eq_true, Bool.or_eq_true] at h
    obtain ⟨⟨⟨h1, h2⟩, h3⟩, h4⟩ := h
    obtain ⟨q1, q2, q3⟩ := sL w es xs h4 g
    refine ⟨a_cons h2 ?_ (sE e x h3 g).1 q1, by rw [List.all_cons, h2, q2]; rfl, by rw [List.length_cons, List.length_cons, q3]⟩
    rcases h1 with h1 | h1
    · exact .inl h1
    · exact .inr (nb_of h1)
termination_by _ es => sizeOf es
theorem sO : ∀ (o : Option E) (x : Option Expr) {c : Ck} {X : L2.Cx} {W : L2.WX}, chkO c o x = true → Gd XR CX C k c X W → PO X x (tOpt X.K XR W C o)
  | none, none, c, X, W, h, g => o_none
  | none, some _, c, X, W, h, g => by unfold chkO at h; cases h
  | some _, none, c, X, W, h, g => by unfold chkO at h; cases h
  | some e, some x, c, X, W, h, g => by
    unfold chkO at h
    rw [Bool.and_eq_true] at h
    exact o_some (nb_of h.1) (sE e x h.2 g).1
termination_by o => sizeOf o
theorem sI : ∀ (w : Bool) (i : I) (t x : Expr) {c : Ck} {X : L2.Cx} {W : L2.WX}, chkI c w i x = true → Gd XR CX C k c X W → PI X t x (tIt X.K XR W C w i)
  | w, .rng es, t, x, c, X, W, h, g => by
    unfold chkI at h
    split at h
    · rename_i n p xs pos
      simp only [Bool.and_eq_true, decide_eq_true_eq] at h
      obtain ⟨⟨⟨rfl, h1⟩, h2⟩, h3⟩ := h
      obtain ⟨g1, _, _, g3, _⟩ := g.gl h1
      obtain ⟨q1, q2, q3⟩ := sL false es _ h3 g
      cases xs with
      | nil => cases h2
      | cons x xs =>
        cases es with
        | nil => cases q3
        | cons e es =>
          rw [List.all_cons, Bool.and_eq_true] at q2
          cases xs with
          | nil =>
            cases es with
            | cons _ _ => cases q3
            | nil => exact i_rng1 q2.1 g1 g3 q1
          | cons x2 xs =>
            cases xs with
            | cons _ _ => simp at h2
            | nil =>
              cases es with
              | nil => cases q3
              | cons e2 es =>
                cases es with
                | cons _ _ => cases q3
                | nil =>
                  rw [List.all_cons, Bool.and_eq_true] at q2
                  exact i_rng2 q2.1 q2.2.1 g1 g3 q1
    · cases h
  | w, .e e, t, x, c, X, W, h, g => by
    unfold chkI at h
    rw [Bool.and_eq_true, Bool.or_eq_true] at h
    refine i_e ?_ (sE e x h.2 g).1
    rcases h.1 with h1 | h1
    · exact .inl h1
    · exact .inr (nb_of h1)
termination_by _ i => sizeOf i
end
end
end G
end S_GSnd10
section S_GSt
set_option linter.all false
set_option maxRecDepth 100000
set_option maxHeartbeats 2000000
/-! GSt: statements over the judgements of the hand layer. -/
namespace G
open PySem PySem.Spec PyProof.Rows L2

/-- the state ahead of a statement; F0, H0, r0: at the def's entry -/
structure StI (K : Fg) (F0 H0 : Hp) (r0 : List Addr) (Fm : Hp) (rm : List Addr) (F H : Hp) (r : List Addr) (S : List Cell) (sl : List Sl) (σ : L2.St) : Prop where
  R : Rel K F H r S
  so : SlOk K F H r σ sl
  e : Ext F0 H0 r0 F H r
  nw : ∀ (i : Nat) (ds : List D) (a : Addr), sl[i]? = some (.own ds) → σ[i]? = some (some (.ref a)) → H0 a = none
  fl : ∀ a o, Fm a = some o → F a = some o
  pr : Pre rm r
section
variable (K : Fg) (XR : XRel) (W : L2.WX) (F0 H0 : Hp) (r0 : List Addr)
def PostF (Fm : Hp) (rm : List Addr) (D : Ends) : Fl → Prop
  | .nx sl S => ∀ F H r σ, StI K F0 H0 r0 Fm rm F H r S sl σ → D.nx σ H
  | .ret d S => ∀ F H r, Ext F0 H0 r0 F H r → Rel K F H r S → ∀ v, Rp K F r v d → D.rt v H
  | .brk sl S => ∀ F H r σ, StI K F0 H0 r0 Fm rm F H r S sl σ → D.bk σ H
  | .cnt sl S => ∀ F H r σ, StI K F0 H0 r0 Fm rm F H r S sl σ → D.ct σ H
  | .exc c x sl S => ∀ F H r σ cls d, StI K F0 H0 r0 Fm rm F H r S sl σ → XR c x cls d F H r → W cls d σ H
  | .stk => False
def tS (C : G.Cx) (t : T) : TS := fun D σ H => ∃ Fm rm F r sl S, StI K F0 H0 r0 Fm rm F H r S sl σ ∧ PostF K XR W F0 H0 r0 Fm rm D (evS C t sl S)
def tB (C : G.Cx) (ts : List T) : TS := fun D σ H => ∃ Fm rm F r sl S, StI K F0 H0 r0 Fm rm F H r S sl σ ∧ PostF K XR W F0 H0 r0 Fm rm D (evB C ts sl S)
end
theorem ps_imp {X : L2.Cx} {st : Stmt} {t t' : TS} (h : PS X st t) (k : ∀ D σ H, t' D σ H → t D σ H) : PS X st t' := ⟨fun pins s σ H D I q => h.run pins s σ H D I (k D σ H q)⟩
theorem pss_imp {X : L2.Cx} {st : List Stmt} {t t' : TS} (h : PSs X st t) (k : ∀ D σ H, t' D σ H → t D σ H) : PSs X st t' := ⟨fun pins s σ H D I q => h.run pins s σ H D I (k D σ H q)⟩
theorem Pre.trans {a b c : List Addr} (h : Pre a b) (k : Pre b c) : Pre a c := by
  obtain ⟨t, rfl⟩ := h
  obtain ⟨u, rfl⟩ := k
  exact ⟨t ++ u, by rw [List.append_assoc]⟩
section
variable {K : Fg} {XR : XRel} {W : L2.WX} {C : G.Cx} {F0 H0 Fm F H F' H' : Hp} {r0 rm r r' : List Addr} {S S' : List Cell} {sl sl' : List Sl} {σ σ' : L2.St} {D : Ends}
theorem StI.ext (I : StI K F0 H0 r0 Fm rm F H r S sl σ) (e : Ext F H r F' H' r') (R : Rel K F' H' r' S') : StI K F0 H0 r0 Fm rm F' H' r' S' sl σ :=
  ⟨R, I.so.ext e, I.e.trans e, I.nw, fun a o h => e.f a o (I.fl a o h), I.pr.trans e.pre⟩
/-- the slots of a value set -/
theorem StI.set {i : Nat} {v : V} {d : G.D} (I : StI K F0 H0 r0 Fm rm F H r S sl σ) (h : Rp K F r v d) : StI K F0 H0 r0 Fm rm F H r S (sl.set i (.v d)) (σ.set i (some v)) := by
  refine ⟨I.R, I.so.set i h, I.e, fun j ds a h1 h2 => ?_, I.fl, I.pr⟩
  by_cases z : i = j
  · subst z
    by_cases hl : i < sl.length
    · rw [List.getElem?_set_self hl] at h1
      cases h1
    · rw [List.getElem?_eq_none (by rw [List.length_set]; omega)] at h1
      cases h1
  · rw [List.getElem?_set_ne z] at h1 h2
    exact I.nw j ds a h1 h2
theorem StI.setO {i : Nat} {p : Addr} {vs : List V} {ds : List G.D} {Hb : Hp} (I : StI K F0 H0 r0 Fm rm F H r S sl σ) (t : RpL K F r vs ds) (m : Mine F H r p vs) (n : ∀ (j : Nat) (es : List G.D), sl[j]? = some (.own es) → σ[j]? ≠ some (some (.ref p))) (n0 : H0 p = none) : StI K F0 H0 r0 Fm rm F H r S (sl.set i (.own ds)) (σ.set i (some (.ref p))) := by
  have gt : ∀ {j : Nat} {x : Sl}, (sl.set i (.own ds))[j]? = some x → (i = j ∧ x = .own ds ∧ (σ.set i (some (V.ref p)))[j]? = some (some (.ref p))) ∨ (i ≠ j ∧ sl[j]? = some x ∧ (σ.set i (some (V.ref p)))[j]? = σ[j]?) := fun {j x} h => by
    by_cases z : i = j
    · subst z
      by_cases hl : i < sl.length
      · rw [List.getElem?_set_self hl] at h
        cases h
        exact .inl ⟨rfl, rfl, List.getElem?_set_self (by rw [← I.so.len]; exact hl)⟩
      · rw [List.getElem?_eq_none (by rw [List.length_set]; omega)] at h
        cases h
    · rw [List.getElem?_set_ne z] at h
      exact .inr ⟨z, h, List.getElem?_set_ne z⟩
  refine ⟨I.R, ⟨by rw [List.length_set, List.length_set, I.so.len], fun j d h => ?_, fun j es h => ?_, fun j k es fs a h1 h2 h3 h4 => ?_⟩, I.e, fun j es a h1 h2 => ?_, I.fl, I.pr⟩
  · rcases gt h with ⟨_, q, _⟩ | ⟨_, q, e⟩
    · cases q
    · rw [e]
      exact I.so.v j d q
  · rcases gt h with ⟨_, q, e⟩ | ⟨_, q, e⟩
    · cases q
      exact ⟨p, vs, e, m.h, m.f, m.r, t⟩
    · rw [e]
      exact I.so.own j es q
  · rcases gt h1 with ⟨z1, q1, e1⟩ | ⟨z1, q1, e1⟩ <;> rcases gt h2 with ⟨z2, q2, e2⟩ | ⟨z2, q2, e2⟩
    · exact z1.symm.trans z2
    · rw [e1] at h3
      cases h3
      rw [e2] at h4
      exact absurd h4 (n k fs q2)
    · rw [e2] at h4
      cases h4
      rw [e1] at h3
      exact absurd h3 (n j es q1)
    · rw [e1] at h3
      rw [e2] at h4
      exact I.so.ap j k es fs a q1 q2 h3 h4
  · rcases gt h1 with ⟨z1, q1, e1⟩ | ⟨z1, q1, e1⟩
    · rw [e1] at h2
      cases h2
      exact n0
    · rw [e1] at h2
      exact I.nw j es a q1 h2
/-- an own list frozen -/
theorem StI.frz {i : Nat} {xs : List G.D} (I : StI K F0 H0 r0 Fm rm F H r S sl σ) (h : sl[i]? = some (.own xs)) : ∃ F', StI K F0 H0 r0 Fm rm F' H r S (sl.set i (.v (.lst xs))) σ := by
  obtain ⟨p, vs, e1, e2, e3, e4, e5⟩ := I.so.own i xs h
  have m : Mine F H r p vs := ⟨e2, e3, e4⟩
  have n0 := I.nw i xs p h e1
  have up := m.up
  have gt : ∀ {j : Nat} {x : Sl}, (sl.set i (.v (.lst xs)))[j]? = some x → (i = j ∧ x = .v (.lst xs)) ∨ (i ≠ j ∧ sl[j]? = some x) := fun {j x} h => by
    by_cases z : i = j
    · subst z
      by_cases hl : i < sl.length
      · rw [List.getElem?_set_self hl] at h
        cases h
        exact .inl ⟨rfl, rfl⟩
      · rw [List.getElem?_eq_none (by rw [List.length_set]; omega)] at h
        cases h
    · rw [List.getElem?_set_ne z] at h
      exact .inr ⟨z, h⟩
  refine ⟨upd F p (.lst vs), I.R.frz m, ⟨by rw [List.length_set, I.so.len], fun j d h => ?_, fun j es hj => ?_, fun j k es fs a h1 h2 h3 h4 => ?_⟩, I.e.frz m n0, fun j es a h1 h2 => ?_, fun a o h => up _ _ (I.fl a o h), I.pr⟩
  · rcases gt h with ⟨rfl, q⟩ | ⟨_, q⟩
    · cases q
      exact ⟨_, e1, .lst (SqL.of upd_same) (e5.up up (Pre.refl _))⟩
    · obtain ⟨x, g1, g2⟩ := I.so.v j d q
      exact ⟨x, g1, g2.up up (Pre.refl _)⟩
  · rcases gt hj with ⟨rfl, q⟩ | ⟨z, q⟩
    · cases q
    · obtain ⟨a, ys, g1, g2, g3, g4, g5⟩ := I.so.own j es q
      have ne : a ≠ p := fun y => z (I.so.ap i j xs es p h q e1 (by rw [← y]; exact g1))
      exact ⟨a, ys, g1, g2, by rw [upd_ne ne]; exact g3, g4, g5.up up (Pre.refl _)⟩
  · rcases gt h1 with ⟨_, q1⟩ | ⟨_, q1⟩ <;> rcases gt h2 with ⟨_, q2⟩ | ⟨_, q2⟩ <;> first | cases q1 | cases q2 | exact I.so.ap j k es fs a q1 q2 h3 h4
  · rcases gt h1 with ⟨_, q1⟩ | ⟨_, q1⟩
    · cases q1
    · exact I.nw j es a q1 h2
/-- from a statement to its expression -/
theorem PostF.ofE {α : Type} {m : Rs α} {f : α → List Cell → Fl} (I : StI K F0 H0 r0 Fm rm F H r S sl σ) (h : PostF K XR W F0 H0 r0 Fm rm D (m.fl sl f)) : PostE K XR W F H r σ m fun a S' F' H' r' => Ext F H r F' H' r' ∧ StI K F0 H0 r0 Fm rm F' H' r' S' sl σ ∧ PostF K XR W F0 H0 r0 Fm rm D (f a S') := by
  cases m with
  | ok a S' => exact fun F' H' r' e R => ⟨e, I.ext e R, h⟩
  | exc c x S' => exact fun F' H' r' cls d e R z => h F' H' r' σ cls d (I.ext e R) z
  | stk => exact h
section
variable {a : E} {es : List E} {b : B}
theorem tE.st {f : G.D → List Cell → Fl} {G : V → Hp → Prop} (h : PostF K XR W F0 H0 r0 Fm rm D ((evE C a sl S).fl sl f)) (I : StI K F0 H0 r0 Fm rm F H r S sl σ)
    (k : ∀ x d F' H' r' S', Ext F H r F' H' r' → StI K F0 H0 r0 Fm rm F' H' r' S' sl σ → RpX K a.isB F' H' r' x d → PostF K XR W F0 H0 r0 Fm rm D (f d S') → G x H') : tE K XR W C a σ H G :=
  ⟨F, r, sl, S, I.R, I.so, PostE.imp (PostF.ofE I h) fun d S1 F1 H1 r1 e1 R1 ⟨e1', I1, h1⟩ v hv => k v d F1 H1 r1 S1 e1 I1 hv h1⟩
theorem tEX.st {f : G.D → List Cell → Fl} {G : V → Hp → Prop} (h : PostF K XR W F0 H0 r0 Fm rm D ((evE C a sl S).fl sl f)) (I : StI K F0 H0 r0 Fm rm F H r S sl σ)
    (k : ∀ ds F' H' r' S' p xs, Ext F H r F' H' r' → StI K F0 H0 r0 Fm rm F' H' r' S' sl σ → RpL K F' r' xs ds → Mine F' H' r' p xs → H p = none → PostF K XR W F0 H0 r0 Fm rm D (f (.lst ds) S') → G (.ref p) H')
    (k2 : ∀ d S', (∀ ds, d ≠ .lst ds) → PostF K XR W F0 H0 r0 Fm rm D (f d S') → False) : tEX K XR W C a σ H G :=
  ⟨F, r, sl, S, I.R, I.so, PostE.imp (PostF.ofE I h) fun d S1 F1 H1 r1 e1 R1 ⟨e1', I1, h1⟩ => by
    cases d with
    | lst ds => exact fun p xs t m n => k ds F1 H1 r1 S1 p xs e1 I1 t m n h1
    | _ => exact (k2 _ _ (by intro ds z; cases z) h1).elim⟩
theorem tT.st {f : Bool → List Cell → Fl} {G : Bool → Hp → Prop} (h : PostF K XR W F0 H0 r0 Fm rm D ((evT C b sl S).fl sl f)) (I : StI K F0 H0 r0 Fm rm F H r S sl σ)
    (k : ∀ t F' H' r' S', Ext F H r F' H' r' → StI K F0 H0 r0 Fm rm F' H' r' S' sl σ → PostF K XR W F0 H0 r0 Fm rm D (f t S') → G t H') : tT K XR W C b σ H G :=
  ⟨F, r, sl, S, I.R, I.so, PostE.imp (PostF.ofE I h) fun d S1 F1 H1 r1 e1 R1 ⟨e1', I1, h1⟩ => k d F1 H1 r1 S1 e1 I1 h1⟩
theorem tL.st {w : Bool} {f : List G.D → List Cell → Fl} {G : List V → Hp → Prop} (h : PostF K XR W F0 H0 r0 Fm rm D ((evL C es sl S).fl sl f)) (I : StI K F0 H0 r0 Fm rm F H r S sl σ)
    (k : ∀ xs ds F' H' r' S', Ext F H r F' H' r' → StI K F0 H0 r0 Fm rm F' H' r' S' sl σ → RpXL K w F' H' r' xs ds → PostF K XR W F0 H0 r0 Fm rm D (f ds S') → G xs H') : tL K XR W C w es σ H G :=
  ⟨F, r, sl, S, I.R, I.so, PostE.imp (PostF.ofE I h) fun d S1 F1 H1 r1 e1 R1 ⟨e1', I1, h1⟩ v hv => k v d F1 H1 r1 S1 e1 I1 hv h1⟩
end
end

/-! ### plain statements -/
def isCompX : Expr → Bool
  | .ListComp .. => true
  | .SetComp .. => true
  | .DictComp .. => true
  | _ => false
theorem sw_none {e : Expr} {t : Option Expr} {l : Nat} {env : Env} (h : isCompX e = false) : swapsWith e t l env = pure false := by
  cases e <;> first | rfl | cases h
theorem sw_false {elt : Expr} {gs : List Comprehension} {scope : Scope} {pos py : Pos} {y : Str} {l : Nat} {env : Env}
    (h : (env.scope.names.lookup y == some .local && py.line == pos.line && !(scope.names.any fun (n, k) => n == y && (k == .local || k == .cell))) = false) : swapsWith (.ListComp elt gs scope pos) (some (.Name y py)) l env = pure false := by
  unfold swapsWith
  show (pure (env.blockKind == .function && env.scope.names.lookup y == some .local && py.line == pos.line && !(scope.names.any fun (n, k) => n == y && (k == .local || k == .cell))) : Sem Bool) = _
  have e : (env.blockKind == .function && env.scope.names.lookup y == some .local && py.line == pos.line && !(scope.names.any fun (n, k) => n == y && (k == .local || k == .cell))) = false := by
    cases hb : env.blockKind == .function
    · simp
    · simpa using h
  rw [e]
theorem Rs.fl_bind {α : Type} {m : Rs α} {sl : List Sl} {f : α → List Cell → Fl} : m.fl sl f = m.fl sl f := rfl
mutual
theorem tgSet_own : ∀ {tg : Tg} {d : G.D} {s s' : List Sl} {i : Nat} {ds : List G.D}, tgSet tg d s = some s' → s'[i]? = some (.own ds) → s[i]? = some (.own ds) ∧ i ∉ tgs tg
  | .s j, d, s, s', i, ds, e, h => by
    have e : some (s.set j (.v d)) = some s' := e
    cases e
    by_cases z : j = i
    · subst z
      by_cases hl : j < s.length
      · rw [List.getElem?_set_self hl] at h
        cases h
      · rw [List.getElem?_eq_none (by rw [List.length_set]; omega)] at h
        cases h
    · rw [List.getElem?_set_ne z] at h
      exact ⟨h, fun m => z (List.mem_singleton.mp m).symm⟩
  | .t ts, d, s, s', i, ds, e, h => by
    cases d with
    | tup es => exact tgSetL_own (ts := ts) e h
    | _ => cases e
theorem tgSetL_own : ∀ {ts : List Tg} {es : List G.D} {s s' : List Sl} {i : Nat} {ds : List G.D}, tgSetL ts es s = some s' → s'[i]? = some (.own ds) → s[i]? = some (.own ds) ∧ i ∉ tgsL ts
  | [], [], _, _, i, ds, e, h => by
    cases e
    exact ⟨h, by unfold tgsL; simp⟩
  | [], _ :: _, _, _, _, _, e, _ => by cases e
  | _ :: _, [], _, _, _, _, e, _ => by cases e
  | tg :: ts, d :: es, s, s', i, ds, e, h => by
    have e : (tgSet tg d s).bind (fun sl => tgSetL ts es sl) = some s' := e
    cases e1 : tgSet tg d s with
    | none => rw [e1] at e; cases e
    | some s1 =>
      rw [e1] at e
      obtain ⟨q1, n1⟩ := tgSetL_own (ts := ts) e h
      obtain ⟨q2, n2⟩ := tgSet_own e1 q1
      refine ⟨q2, fun m => ?_⟩
      rcases List.mem_append.mp m with m | m
      · exact n2 m
      · exact n1 m
end
theorem StI.tg {K : Fg} {F0 H0 Fm F H : Hp} {r0 rm r : List Addr} {S : List Cell} {sl sl' : List Sl} {σ σ' : L2.St} {tg : Tg} {d : G.D} (I : StI K F0 H0 r0 Fm rm F H r S sl σ) (e : tgSet tg d sl = some sl') (so : SlOk K F H r σ' sl') (ag : ∀ i, i ∉ tgs tg → σ'[i]? = σ[i]?) : StI K F0 H0 r0 Fm rm F H r S sl' σ' := by
  refine ⟨I.R, so, I.e, fun i ds a h1 h2 => ?_, I.fl, I.pr⟩
  obtain ⟨q1, q2⟩ := tgSet_own e h1
  rw [ag i q2] at h2
  exact I.nw i ds a q1 h2
section
variable {XR : XRel} {CX : CXT} {C : G.Cx} {k : Nat} {c : Ck} {X : L2.Cx} {W : L2.WX} {F0 H0 : Hp} {r0 : List Addr} {pos : Pos} {a b : E} {xa xb tgx : Expr} {i : Nat} {x : Str} {st : Stmt} {sts sts2 : List Stmt} {ts ts2 : List T} {cb : B} {tg : Tg}
theorem s_set (hb : a.isB = false) (h : PS X st (tAsg (tE X.K XR W C a) (gName i))) : PS X st (tS X.K XR W F0 H0 r0 C (.set i a)) := by
  refine ps_imp h fun D σ H ⟨Fm, rm, F, r, sl, S, I, q⟩ => ?_
  unfold evS at q
  refine tE.st q I fun x d F' H' r' S' e I' rx q' => ?_
  rw [hb] at rx
  exact q' F' H' r' _ (I'.set rx)
theorem s_setO (h : PS X st (tAsg (tEX X.K XR W C a) (gName i))) : PS X st (tS X.K XR W F0 H0 r0 C (.setO i a)) := by
  refine ps_imp h fun D σ H ⟨Fm, rm, F, r, sl, S, I, q⟩ => ?_
  unfold evS at q
  refine tEX.st q I (fun ds F' H' r' S' p xs e I' t m n q' => ?_) fun d S' hd q' => ?_
  · refine q' F' H' r' _ (I'.setO (Hb := H) t m (fun j es h1 h2 => ?_) (I.e.free n))
    obtain ⟨a, ys, g1, g2, _⟩ := I.so.own j es h1
    rw [g1] at h2
    cases h2
    rw [n] at g2
    cases g2
  · cases d with
    | lst ds => exact hd ds rfl
    | _ => exact q'
theorem s_unp (hb : a.isB = false) (h : PS X st (tAsg (tE X.K XR W C a) (gTg X.K tg))) : PS X st (tS X.K XR W F0 H0 r0 C (.unp tg a)) := by
  refine ps_imp h fun D σ H ⟨Fm, rm, F, r, sl, S, I, q⟩ => ?_
  unfold evS at q
  refine tE.st q I fun x d F' H' r' S' e I' rx q' => ?_
  rw [hb] at rx
  cases ht : tgSet tg d sl with
  | none => rw [ht] at q'; exact q'.elim
  | some sl' =>
    rw [ht] at q'
    exact ⟨F', r', S', sl, d, sl', I'.R, I'.so, rx, ht, fun σ' so ag => q' F' H' r' σ' (I'.tg ht so ag)⟩
theorem s_exp (h : PS X st (tDrop (tE X.K XR W C a))) : PS X st (tS X.K XR W F0 H0 r0 C (.exp a)) := by
  refine ps_imp h fun D σ H ⟨Fm, rm, F, r, sl, S, I, q⟩ => ?_
  unfold evS at q
  exact tE.st q I fun x d F' H' r' S' e I' rx q' => q' F' H' r' σ I'
theorem s_ret (hb : a.isB = false) (h : PE X xa (tE X.K XR W C a)) : PS X (.Return (some xa) pos) (tS X.K XR W F0 H0 r0 C (.ret a)) := by
  refine ps_imp (ps_ret h) fun D σ H ⟨Fm, rm, F, r, sl, S, I, q⟩ => ?_
  unfold evS at q
  refine tE.st q I fun x d F' H' r' S' e I' rx q' => ?_
  rw [hb] at rx
  exact q' F' H' r' I'.e I'.R x rx
theorem s_ret0 : PS X (.Return none pos) (tS X.K XR W F0 H0 r0 C .ret0) := by
  refine ps_imp ps_retN fun D σ H ⟨Fm, rm, F, r, sl, S, I, q⟩ => ?_
  unfold evS at q
  exact q F H r I.e I.R _ .non
theorem s_brk : PS X (.Break pos) (tS X.K XR W F0 H0 r0 C .brk) := by
  refine ps_imp ps_break fun D σ H ⟨Fm, rm, F, r, sl, S, I, q⟩ => ?_
  unfold evS at q
  exact q F H r σ I
theorem s_cnt : PS X (.Continue pos) (tS X.K XR W F0 H0 r0 C .cnt) := by
  refine ps_imp ps_continue fun D σ H ⟨Fm, rm, F, r, sl, S, I, q⟩ => ?_
  unfold evS at q
  exact q F H r σ I
theorem s_pas : PS X (.Pass pos) (tS X.K XR W F0 H0 r0 C .pas) := by
  refine ps_imp ps_pass fun D σ H ⟨Fm, rm, F, r, sl, S, I, q⟩ => ?_
  unfold evS at q
  exact q F H r σ I
theorem s_if (hc : PT X xa (tT X.K XR W C cb)) (h1 : PSs X sts (tB X.K XR W F0 H0 r0 C ts)) (h2 : PSs X sts2 (tB X.K XR W F0 H0 r0 C ts2)) : PS X (.If xa sts sts2 pos) (tS X.K XR W F0 H0 r0 C (.ife cb ts ts2)) := by
  refine ps_imp (ps_if hc h1 h2) fun D σ H ⟨Fm, rm, F, r, sl, S, I, q⟩ => ?_
  unfold evS at q
  refine tT.st q I fun t F' H' r' S' e I' q' => ?_
  cases t with
  | true => exact ⟨Fm, rm, F', r', sl, S', I', q'⟩
  | false => exact ⟨Fm, rm, F', r', sl, S', I', q'⟩
/-! ### blocks -/
theorem b_nil : PSs X [] (tB X.K XR W F0 H0 r0 C []) := by
  refine pss_imp pss_nil fun D σ H ⟨Fm, rm, F, r, sl, S, I, q⟩ => ?_
  unfold evB at q
  exact q F H r σ I
theorem b_cons {t : T} (h1 : PS X st (tS X.K XR W F0 H0 r0 C t)) (h2 : PSs X sts (tB X.K XR W F0 H0 r0 C ts)) : PSs X (st :: sts) (tB X.K XR W F0 H0 r0 C (t :: ts)) := by
  refine pss_imp (pss_cons h1 h2) fun D σ H ⟨Fm, rm, F, r, sl, S, I, q⟩ => ?_
  unfold evB at q
  refine ⟨Fm, rm, F, r, sl, S, I, ?_⟩
  cases he : evS C t sl S with
  | nx sl' S' =>
    rw [he] at q
    exact fun F' H' r' σ' I' => ⟨Fm, rm, F', r', sl', S', I', q⟩
  | _ =>
    rw [he] at q
    exact q
theorem b_frz (h : PSs X sts (tB X.K XR W F0 H0 r0 C ts)) : PSs X sts (tB X.K XR W F0 H0 r0 C (.frz i :: ts)) := by
  refine pss_imp h fun D σ H ⟨Fm, rm, F, r, sl, S, I, q⟩ => ?_
  unfold evB evS at q
  cases hs : sl[i]? with
  | none => rw [hs] at q; exact q.elim
  | some y =>
    rw [hs] at q
    cases y with
    | nil => exact q.elim
    | v d => exact ⟨Fm, rm, F, r, sl, S, I, q⟩
    | own xs =>
      obtain ⟨F', I'⟩ := I.frz hs
      exact ⟨Fm, rm, F', r, _, S, I', q⟩
/-! ### loops -/
theorem s_while (hp : PassesOwn (model X.prog X.w) X.A X.env X.xe) (hc : PT X xa (tT X.K XR W C cb)) (hb : PSs X sts (tB X.K XR W F0 H0 r0 C ts)) : PS X (.While xa sts [] pos) (tS X.K XR W F0 H0 r0 C (.whl cb ts)) := by
  refine ps_imp (ps_while hp hc hb) fun D σ H ⟨Fm, rm, F, r, sl, S, I, q⟩ => ?_
  unfold evS at q
  refine ⟨fun n σ H => ∃ F r sl S, StI X.K F0 H0 r0 Fm rm F H r S sl σ ∧ PostF X.K XR W F0 H0 r0 Fm rm D (whlL (fun sl S => evT C cb sl S) (fun sl S => evB C ts sl S) n sl S), ⟨_, F, r, sl, S, I, q⟩, ?_⟩
  rintro n σ H ⟨F, r, sl, S, I, q⟩
  cases n with
  | zero => exact q.elim
  | succ n =>
    unfold whlL at q
    refine tT.st q I fun t F' H' r' S' e I' q' => ?_
    cases t with
    | false => exact q' F' H' r' σ I'
    | true =>
      rw [if_pos rfl] at q' ⊢
      refine ⟨fun σ H => ∃ F r sl S, StI X.K F0 H0 r0 Fm rm F H r S sl σ ∧ PostF X.K XR W F0 H0 r0 Fm rm D (whlL (fun sl S => evT C cb sl S) (fun sl S => evB C ts sl S) n sl S), fun σ' H' p => ⟨n, Nat.lt_succ_self n, p⟩, Fm, rm, F', r', sl, S', I', ?_⟩
      cases he : evB C ts sl S' with
      | nx sl' S2 =>
        rw [he] at q'
        exact fun F2 H2 r2 σ2 I2 => ⟨F2, r2, sl', S2, I2, q'⟩
      | cnt sl' S2 =>
        rw [he] at q'
        exact fun F2 H2 r2 σ2 I2 => ⟨F2, r2, sl', S2, I2, q'⟩
      | _ =>
        rw [he] at q'
        exact q'
theorem s_for {it : I} (hp : PassesOwn (model X.prog X.w) X.A X.env X.xe) (hc : X.calm = true) (hi : PI X tgx xa (tIt X.K XR W C false it)) (hg : PG X tgx (gTg X.K tg)) (hb : PSs X sts (tB X.K XR W F0 H0 r0 C ts)) (hs : isSetX xa = false) :
    PS X (.For tgx xa sts [] pos) (tS X.K XR W F0 H0 r0 C (.for_ tg it ts)) := by
  refine ps_imp (ps_for hp hc hi hg hb (set_folded hs)) fun D σ H ⟨Fm, rm, F, r, sl, S, I, q⟩ => ?_
  unfold evS at q
  generalize hf : (fun d sl S => match tgSet tg d sl with
    | some sl => evB C ts sl S
    | none => .stk : G.D → List Sl → List Cell → Fl) = f at q
  refine ⟨F, r, sl, S, I.R, I.so, PostE.imp (PostF.ofE I q) fun ds S1 F1 H1 r1 e1 R1 ⟨e1', I1, h1⟩ J wk => ?_⟩
  refine ⟨fun i m σ H => m = ds.length - i ∧ i ≤ ds.length ∧ ∃ F2 r2 sl2 S2, StI X.K F0 H0 r0 Fm rm F2 H r2 S2 sl2 σ ∧ UpW F1 r1 F2 H r2 ∧ PostF X.K XR W F0 H0 r0 Fm rm D (forL f (ds.drop i) sl2 S2),
    ⟨ds.length, by simp, Nat.zero_le _, F1, r1, sl, S1, I1, ⟨fun _ _ h => h, Pre.refl _⟩, h1⟩, ?_⟩
  rintro i m σ2 H2 ⟨rfl, hi, F2, r2, sl2, S2, I2, u2, h2⟩
  by_cases hlt : i < ds.length
  · have hd : ds.drop i = ds[i] :: ds.drop (i + 1) := List.drop_eq_getElem_cons hlt
    rw [hd] at h2
    unfold forL at h2
    refine .inr ⟨wk.go i F2 H2 r2 S2 u2 I2.R hlt, fun σ H => i + 1 ≤ ds.length ∧ ∃ F2 r2 sl2 S2, StI X.K F0 H0 r0 Fm rm F2 H r2 S2 sl2 σ ∧ UpW F1 r1 F2 H r2 ∧ PostF X.K XR W F0 H0 r0 Fm rm D (forL f (ds.drop (i + 1)) sl2 S2),
      fun σ' H' p => ⟨ds.length - (i + 1), by omega, rfl, p⟩, fun x H' hy => ?_⟩
    obtain ⟨F3, e3, R3, rx⟩ := wk.yl i ds[i] F2 H2 r2 S2 x H' u2 I2.R (List.getElem?_eq_getElem hlt) hy
    have I3 := I2.ext e3 R3
    have hfd : f ds[i] sl2 S2 = match tgSet tg ds[i] sl2 with
      | some sl => evB C ts sl S2
      | none => .stk := by rw [← hf]
    cases ht : tgSet tg ds[i] sl2 with
    | none =>
      rw [hfd, ht] at h2
      exact h2.elim
    | some sl3 =>
      rw [hfd, ht] at h2
      dsimp only at h2
      refine ⟨F3, r2, S2, sl2, ds[i], sl3, R3, I3.so, rx, ht, fun σ3 so3 ag => ?_⟩
      have I4 := I3.tg ht so3 ag
      have I5 : StI X.K F0 H0 r0 F3 r2 F3 H' r2 S2 sl3 σ3 := ⟨I4.R, I4.so, I4.e, I4.nw, fun _ _ h => h, Pre.refl _⟩
      have fin : ∀ {F H : Hp} {r : List Addr} {S : List Cell} {sl : List Sl} {σ : L2.St}, StI X.K F0 H0 r0 F3 r2 F H r S sl σ → StI X.K F0 H0 r0 Fm rm F H r S sl σ ∧ UpW F1 r1 F H r := fun {F H r S sl σ} J =>
        ⟨⟨J.R, J.so, J.e, J.nw, fun a o h => J.fl a o (I4.fl a o h), I4.pr.trans J.pr⟩, fun a o h => J.fl a o (e3.f a o (u2.1 a o h)), u2.2.trans J.pr⟩
      refine ⟨F3, r2, F3, r2, sl3, S2, I5, ?_⟩
      cases he : evB C ts sl3 S2 with
      | nx sl' S' =>
        rw [he] at h2
        exact fun F' H' r' σ' J => ⟨hlt, F', r', sl', S', (fin J).1, (fin J).2, h2⟩
      | cnt sl' S' =>
        rw [he] at h2
        exact fun F' H' r' σ' J => ⟨hlt, F', r', sl', S', (fin J).1, (fin J).2, h2⟩
      | brk sl' S' =>
        rw [he] at h2
        exact fun F' H' r' σ' J => h2 F' H' r' σ' (fin J).1
      | ret d S' =>
        rw [he] at h2
        exact h2
      | exc c x sl' S' =>
        rw [he] at h2
        exact fun F' H' r' σ' cls d J => h2 F' H' r' σ' cls d (fin J).1
      | stk =>
        rw [he] at h2
        exact h2
  · have e : i = ds.length := by omega
    subst e
    refine .inl ⟨wk.st F2 H2 r2 S2 u2 I2.R, ?_⟩
    rw [List.drop_length] at h2
    unfold forL at h2
    exact h2 F2 H2 r2 σ2 I2
end
end G
end S_GSt
section S_GSt2
set_option linter.all false
set_option maxRecDepth 100000
set_option maxHeartbeats 2000000
/-! GSt2: statements that change a list; the checker of statements. -/
namespace G
open PySem PySem.Spec PyProof.Rows L2

section
variable {K : Fg} {F0 H0 Fm F H F' H' : Hp} {r0 rm r r' : List Addr} {S S' : List Cell} {sl sl' : List Sl} {σ σ' : L2.St}
/-- an own list changed -/
theorem StI.putO {i : Nat} {p : Addr} {vs : List V} {xs ys : List G.D} (I : StI K F0 H0 r0 Fm rm F H r S sl σ) (h : sl[i]? = some (.own xs)) (hp : σ[i]? = some (some (.ref p))) (t : RpL K F r vs ys) : StI K F0 H0 r0 Fm rm F (upd H p (.lst vs)) r S (sl.set i (.own ys)) σ := by
  obtain ⟨p', us, e1, e2, e3, e4, e5⟩ := I.so.own i xs h
  rw [hp] at e1
  cases e1
  have gt : ∀ {j : Nat} {x : Sl}, (sl.set i (.own ys))[j]? = some x → (i = j ∧ x = .own ys) ∨ (i ≠ j ∧ sl[j]? = some x) := fun {j x} h => by
    by_cases z : i = j
    · subst z
      by_cases hl : i < sl.length
      · rw [List.getElem?_set_self hl] at h
        cases h
        exact .inl ⟨rfl, rfl⟩
      · rw [List.getElem?_eq_none (by rw [List.length_set]; omega)] at h
        cases h
    · rw [List.getElem?_set_ne z] at h
      exact .inr ⟨z, h⟩
  have ow : ∀ {j : Nat} {ds : List G.D}, (sl.set i (.own ys))[j]? = some (.own ds) → ∃ es, sl[j]? = some (.own es) := fun {j ds} hj => by
    rcases gt hj with ⟨rfl, _⟩ | ⟨_, q⟩
    · exact ⟨xs, h⟩
    · exact ⟨ds, q⟩
  refine ⟨I.R.put e3 e4, ⟨by rw [List.length_set, I.so.len], fun j d hj => ?_, fun j ds hj => ?_, fun j k ds es a h1 h2 h3 h4 => ?_⟩, I.e.own (I.nw i xs p h hp), fun j ds a h1 h2 => ?_, I.fl, I.pr⟩
  · rcases gt hj with ⟨_, q⟩ | ⟨_, q⟩
    · cases q
    · exact I.so.v j d q
  · rcases gt hj with ⟨rfl, q⟩ | ⟨z, q⟩
    · cases q
      exact ⟨p, vs, hp, upd_same, e3, e4, t⟩
    · obtain ⟨a, ws, g1, g2, g3, g4, g5⟩ := I.so.own j ds q
      have ne : a ≠ p := fun y => z (I.so.ap i j xs ds p h q hp (by rw [← y]; exact g1))
      exact ⟨a, ws, g1, by rw [upd_ne ne]; exact g2, g3, g4, g5⟩
  · obtain ⟨es1, q1⟩ := ow h1
    obtain ⟨es2, q2⟩ := ow h2
    exact I.so.ap j k es1 es2 a q1 q2 h3 h4
  · obtain ⟨es1, q1⟩ := ow h1
    exact I.nw j es1 a q1 h2
/-- a cell changed -/
theorem StI.putC {n : Nat} {p : Addr} {vs : List V} {ys : List G.D} (I : StI K F0 H0 r0 Fm rm F H r S sl σ) (hp : r[n]? = some p) (t : RpL K F r vs ys) : StI K F0 H0 r0 Fm rm F (upd H p (.lst vs)) r (S.set n (.lst ys)) sl σ := by
  have nf := I.R.nf n p hp
  refine ⟨⟨fun a o h => ?_, by rw [List.length_set, I.R.len], I.R.inj, I.R.nf, fun i a c h1 h2 => ?_⟩, ⟨I.so.len, I.so.v, fun j ds h => ?_, I.so.ap⟩, ?_, I.nw, I.fl, I.pr⟩
  · rw [upd_ne fun z => by rw [z, nf] at h; cases h]
    exact I.R.sub a o h
  · by_cases z : n = i
    · subst z
      rw [hp] at h1
      cases h1
      by_cases hl : n < S.length
      · rw [List.getElem?_set_self hl] at h2
        cases h2
        exact ⟨vs, upd_same, t⟩
      · rw [List.getElem?_eq_none (by rw [List.length_set]; omega)] at h2
        cases h2
    · rw [List.getElem?_set_ne z] at h2
      have ne : a ≠ p := fun y => z (I.R.inj n i p hp (by rw [← y]; exact h1))
      have k := I.R.cell i a c h1 h2
      cases c with
      | lst ds =>
        obtain ⟨xs, g1, g2⟩ := k
        exact ⟨xs, by rw [upd_ne ne]; exact g1, g2⟩
      | lsx ds =>
        obtain ⟨xs, g1, g2⟩ := k
        exact ⟨xs, by rw [upd_ne ne]; exact g1, g2⟩
      | dki ds =>
        obtain ⟨xs, g1, g2⟩ := k
        exact ⟨xs, by rw [upd_ne ne]; exact g1, g2⟩
      | dead =>
        obtain ⟨o, g1⟩ := k
        exact ⟨o, by rw [upd_ne ne]; exact g1⟩
  · obtain ⟨a, ws, g1, g2, g3, g4, g5⟩ := I.so.own j ds h
    have ne : a ≠ p := fun y => g4 (by rw [y]; exact mem_r hp)
    exact ⟨a, ws, g1, by rw [upd_ne ne]; exact g2, g3, g4, g5⟩
  · obtain ⟨t', rt, nt⟩ := I.e.p
    have old : ∀ o, H0 p = some o → p ∈ r0 := fun o ho => by
      have m := mem_r hp
      rw [rt] at m
      rcases List.mem_append.mp m with m | m
      · exact m
      · rw [nt p m] at ho
        cases ho
    refine ⟨I.e.f, I.e.fn, fun a o h hr => ?_, fun a o h => ?_, I.e.p⟩
    · rw [upd_ne fun z => hr (by rw [z]; rw [z] at h; exact old o h)]
      exact I.e.h a o h hr
    · by_cases z : a = p
      · subst z
        exact ⟨_, upd_same⟩
      · rw [upd_ne z]
        exact I.e.t a o h
end
/-- where a list stands that may be changed -/
structure AtL (K : Fg) (F H : Hp) (r : List Addr) (S : List Cell) (sl : List Sl) (σ : L2.St) (i : Nat) (p : Addr) (vs : List V) (xs : List D) : Prop where
  h : H p = some (.lst vs)
  t : RpL K F r vs xs
  w : (sl[i]? = some (.own xs) ∧ σ[i]? = some (some (.ref p))) ∨ (∃ n, sl[i]? = some (.v (.loc n)) ∧ r[n]? = some p ∧ S[n]? = some (.lst xs) ∧ σ[i]? = some (some (.ref p)))
section
variable {K : Fg} {XR : XRel} {W : L2.WX} {F0 H0 Fm F H F' H' : Hp} {r0 rm r r' : List Addr} {S S' : List Cell} {sl sl' : List Sl} {σ σ' : L2.St} {i : Nat} {C : G.Cx} {D : Ends}
theorem lst_at (I : StI K F0 H0 r0 Fm rm F H r S sl σ) (h : lstAt (.b i) sl S = true) : ∃ p vs xs, AtL K F H r S sl σ i p vs xs := by
  unfold lstAt at h
  cases hs : sl[i]? with
  | none => simp only [hs] at h; cases h
  | some y =>
    simp only [hs] at h
    cases y with
    | nil => cases h
    | own xs =>
      obtain ⟨p, vs, e1, e2, e3, e4, e5⟩ := I.so.own i xs hs
      exact ⟨p, vs, xs, e2, e5, .inl ⟨hs, e1⟩⟩
    | v d =>
      cases d with
      | loc n =>
        simp only at h
        cases hc : S[n]? with
        | none => simp only [hc] at h; cases h
        | some c =>
          simp only [hc] at h
          cases c with
          | dead => cases h
          | lsx _ => cases h
          | dki _ => cases h
          | lst xs =>
            obtain ⟨x, e1, e2⟩ := I.so.v i _ hs
            cases e2 with
            | @loc _ p q =>
              obtain ⟨vs, g1, g2⟩ := I.R.cell n p _ q hc
              exact ⟨p, vs, xs, g1, g2, .inr ⟨n, hs, q, hc, e1⟩⟩
      | _ => cases h
/-- what a change comes to -/
theorem chg_at {f : List G.D → Option (List G.D)} (I : StI K F0 H0 r0 Fm rm F H r S sl σ) (q : PostF K XR W F0 H0 r0 Fm rm D (chg (.b i) f C sl S)) : ∃ p vs xs ys, AtL K F H r S sl σ i p vs xs ∧ f xs = some ys ∧ ∀ us, RpL K F r us ys → D.nx σ (upd H p (.lst us)) := by
  unfold chg at q
  cases hs : sl[i]? with
  | none => simp only [hs] at q; exact q.elim
  | some y =>
    simp only [hs] at q
    cases y with
    | nil => exact q.elim
    | own xs =>
      obtain ⟨p, vs, e1, e2, e3, e4, e5⟩ := I.so.own i xs hs
      simp only at q
      cases hf : f xs with
      | none => simp only [hf] at q; exact q.elim
      | some ys =>
        simp only [hf] at q
        exact ⟨p, vs, xs, ys, ⟨e2, e5, .inl ⟨hs, e1⟩⟩, hf, fun us t => q _ _ _ _ (I.putO hs e1 t)⟩
    | v d =>
      cases d with
      | loc n =>
        simp only at q
        cases hc : S[n]? with
        | none => simp only [hc] at q; exact q.elim
        | some c =>
          simp only [hc] at q
          cases c with
          | dead => exact q.elim
          | lsx _ => exact q.elim
          | dki _ => exact q.elim
          | lst xs =>
            obtain ⟨x, e1, e2⟩ := I.so.v i _ hs
            cases e2 with
            | @loc _ p qr =>
              obtain ⟨vs, g1, g2⟩ := I.R.cell n p _ qr hc
              simp only at q
              cases hf : f xs with
              | none => simp only [hf] at q; exact q.elim
              | some ys =>
                simp only [hf] at q
                exact ⟨p, vs, xs, ys, ⟨g1, g2, .inr ⟨n, hs, qr, hc, e1⟩⟩, hf, fun us t => q _ _ _ _ (I.putC qr t)⟩
      | _ => exact q.elim
theorem AtL.s {p p' : Addr} {vs vs' : List V} {xs xs' : List G.D} {F' H' : Hp} {r' : List Addr} {S' : List Cell} (a : AtL K F H r S sl σ i p vs xs) (b : AtL K F' H' r' S' sl σ i p' vs' xs') : p' = p := by
  have e1 : σ[i]? = some (some (.ref p)) := by rcases a.w with ⟨_, e⟩ | ⟨_, _, _, _, e⟩ <;> exact e
  have e2 : σ[i]? = some (some (.ref p')) := by rcases b.w with ⟨_, e⟩ | ⟨_, _, _, _, e⟩ <;> exact e
  rw [e1] at e2
  cases e2
  rfl
theorem AtL.slt {p : Addr} {vs : List V} {xs : List G.D} (a : AtL K F H r S sl σ i p vs xs) : σ[i]? = some (some (.ref p)) := by rcases a.w with ⟨_, e⟩ | ⟨_, _, _, _, e⟩ <;> exact e
end
def appS : Str := "append"
def extS : Str := "extend"
section
variable {XR : XRel} {C : G.Cx} {X : L2.Cx} {W : L2.WX} {F0 H0 : Hp} {r0 : List Addr} {p pos ap cp p2 : Pos} {a b : E} {xa xb : Expr} {i : Nat} {x : Str}
theorem sole {t v : Expr} {l : Nat} {env : Env} : swapsWithSole [t] v l env = swapsWith v (some t) l env := rfl
theorem s_app (hN : X.N[i]? = some x) (hv : Vis X.env.scope x) (hd : (x == ("__debug__" : Str)) = false) (hcd : (x == ("__classdict__" : Str)) = false) (hy : noStar xa = true) (hl : (ap.endLine == cp.line) = true) (hb : a.isB = false) (ha : PE X xa (tE X.K XR W C a)) :
    PS X (.Expr (.Call (.Attribute (.Name x p) appS ap) [xa] [] cp) pos) (tS X.K XR W F0 H0 r0 C (.app (.b i) a)) := by
  have ho : PE X (.Name x p) (tVar i) := pe_var hN hv hd hcd
  have hA : PA X [xa] (tCons (tE X.K XR W C a) tNil) := pa_cons ha pa_nil (star_cons hy)
  refine ps_imp (ps_expr (pe_bm PySem.F.plainAttrs_list PySem.F.slot_list_append PySem.F.type_list_append mt_append ho hA rfl (few_ok (by rw [List.all_cons, hy]; rfl) (by show 1 < 30; decide)) hl (star_cons hy) rfl) rfl) fun D σ H ⟨Fm, rm, F, r, sl, S, I, q⟩ => ?_
  unfold evS at q
  by_cases hat : lstAt (.b i) sl S = true
  · rw [if_pos hat] at q
    obtain ⟨p1, vs1, xs1, A1⟩ := lst_at I hat
    refine ⟨.ref p1, A1.slt, .inl ⟨rfl, vs1, SqL.of A1.h⟩, tE.st q I fun y d F' H' r' S' e I' ry q' => ?_⟩
    rw [hb] at ry
    by_cases hp : d.pur = true
    · rw [if_pos hp] at q'
      obtain ⟨p2, vs, xs, ys, A2, hf, fin⟩ := chg_at I' q'
      have e := A1.s A2
      subst e
      by_cases hn : xs.length < lim
      · rw [if_pos hn] at hf
        cases hf
        exact ⟨p2, vs, y, rfl, rfl, A2.h, by rw [A2.t.len, ← lim_eq]; exact hn, fin _ (A2.t.app (.one ry hp))⟩
      · rw [if_neg hn] at hf
        cases hf
    · rw [if_neg hp] at q'
      exact q'.elim
  · rw [if_neg hat] at q
    exact q.elim
theorem s_ext (hN : X.N[i]? = some x) (hv : Vis X.env.scope x) (hd : (x == ("__debug__" : Str)) = false) (hcd : (x == ("__classdict__" : Str)) = false) (hy : noStar xa = true) (hl : (ap.endLine == cp.line) = true) (ha : PE X xa (tEX X.K XR W C a)) :
    PS X (.Expr (.Call (.Attribute (.Name x p) extS ap) [xa] [] cp) pos) (tS X.K XR W F0 H0 r0 C (.ext (.b i) a)) := by
  have ho : PE X (.Name x p) (tVar i) := pe_var hN hv hd hcd
  have hA : PA X [xa] (tCons (tEX X.K XR W C a) tNil) := pa_cons ha pa_nil (star_cons hy)
  refine ps_imp (ps_expr (pe_bm PySem.F.plainAttrs_list PySem.F.slot_list_extend PySem.F.type_list_extend mt_extend ho hA rfl (few_ok (by rw [List.all_cons, hy]; rfl) (by show 1 < 30; decide)) hl (star_cons hy) rfl) rfl) fun D σ H ⟨Fm, rm, F, r, sl, S, I, q⟩ => ?_
  unfold evS at q
  by_cases hat : lstAt (.b i) sl S = true
  · rw [if_pos hat] at q
    obtain ⟨p1, vs1, xs1, A1⟩ := lst_at I hat
    refine ⟨.ref p1, A1.slt, .inl ⟨rfl, vs1, SqL.of A1.h⟩, tEX.st q I (fun ds F' H' r' S' p us e I' t m n q' => ?_) fun d S' hd q' => ?_⟩
    · obtain ⟨p2, vs, xs, ys, A2, hf, fin⟩ := chg_at I' q'
      have e := A1.s A2
      subst e
      by_cases hn : xs.length + ds.length ≤ lim
      · rw [if_pos hn] at hf
        cases hf
        exact ⟨p2, p, vs, us, rfl, rfl, A2.h, m.h, by rw [A2.t.len, t.len, ← lim_eq]; exact hn, fin _ (A2.t.app t)⟩
      · rw [if_neg hn] at hf
        cases hf
    · cases d with
      | lst ds => exact hd ds rfl
      | _ => exact q'
  · rw [if_neg hat] at q
    exact q.elim
theorem s_sub (hN : X.N[i]? = some x) (hv : Vis X.env.scope x) (hd : (x == ("__debug__" : Str)) = false) (hcd : (x == ("__classdict__" : Str)) = false) (hb : a.isB = false) (hc : b.isB = false) (hs : isCompX xa = false) (hsl : isSliceX xb = false) (hb : a.isB = false) (ha : PE X xa (tE X.K XR W C a)) (hi : PE X xb (tE X.K XR W C b)) :
    PS X (.Assign [.Subscript (.Name x p) xb p2] xa pos) (tS X.K XR W F0 H0 r0 C (.sub (.b i) b a)) := by
  have ho : PE X (.Name x p) (tVar i) := pe_var hN hv hd hcd
  have hg : PG X (.Subscript (.Name x p) xb p2) (gSub (tVar i) (tE X.K XR W C b) rSetL) := pg_sub ho hi set_list (fun v => by cases xb <;> first | rfl | cases hsl)
  refine ps_imp (ps_asg ha hg (by rw [sole]; exact sw_none hs) (by cases xa <;> rfl) rfl) fun D σ H ⟨Fm, rm, F, r, sl, S, I, q⟩ => ?_
  unfold evS at q
  refine tE.st q I fun y d F' H' r' S' e I' ry q' => ?_
  rw [hb] at ry
  by_cases hat : lstAt (.b i) sl S' = true
  · rw [if_pos hat] at q'
    obtain ⟨p1, vs1, xs1, A1⟩ := lst_at I' hat
    refine ⟨.ref p1, A1.slt, tE.st q' I' fun j dj F2 H2 r2 S2 e2 I2 rj q2 => ?_⟩
    cases dj with
    | int j' =>
      have ej : j = .int j' := by
        rcases rj.b with g | g
        exact Rp.toInt g
      subst ej
      by_cases hp : d.pur = true
      · simp only [hp, if_true] at q2
        obtain ⟨p2, vs, xs, ys, A2, hf, fin⟩ := chg_at I2 q2
        have e := A1.s A2
        subst e
        cases hk : ixN xs.length j' with
        | none => rw [hk] at hf; cases hf
        | some k =>
          rw [hk] at hf
          cases hf
          exact ⟨p2, vs, j', k, rfl, rfl, A2.h, by rw [A2.t.len]; exact hk, fin _ (A2.t.set (ry.up e2.f e2.pre) hp k)⟩
      · simp only [hp, if_false] at q2
        exact q2.elim
    | _ => exact q2.elim
  · rw [if_neg hat] at q'
    exact q'.elim
def ipA (o : Op2) : TIp := fun x y H Q => ∃ i j z, x = .int i ∧ y = .int j ∧ pAug o (.int i) (.int j) = some (.int z) ∧ Q (.int z) H
theorem ip_aug (o : Op2) : PIp X (opM o) (ipA o) := by
  intro pins s σ H x y v u Q I r1 r2 h
  obtain ⟨i, j, z, e1, e2, hz, q⟩ := h
  subst e1; subst e2
  obtain ⟨t, rfl⟩ := r1
  obtain ⟨t', rfl⟩ := r2
  cases o with
  | add =>
    cases hz
    exact iadd_int ⟨.int _, H, I.tok _, ⟨_, rfl⟩, q⟩
  | sub =>
    cases hz
    exact isub_int ⟨.int _, H, I.tok _, ⟨_, rfl⟩, q⟩
  | mul =>
    have hz : (if (smallI i || smallI j) = true then some (D.int (i * j)) else none) = some (.int z) := hz
    by_cases hs : (smallI i || smallI j) = true
    · rw [if_pos hs] at hz
      cases hz
      refine imul_int ⟨.int _, H, I.tok _, ⟨_, rfl⟩, q⟩ ?_
      rw [Bool.or_eq_true] at hs
      rcases hs with hs | hs
      · simp only [smallI, Bool.and_eq_true, decide_eq_true_eq] at hs
        exact .of_left (intBits_le_64 hs.1 hs.2)
      · simp only [smallI, Bool.and_eq_true, decide_eq_true_eq] at hs
        exact .of_right (intBits_le_64 hs.1 hs.2)
    · rw [if_neg hs] at hz
      cases hz
  | _ => cases hz
theorem s_aug {o : Op2} (hN : X.N.Nodup) (hi : X.N[i]? = some x) (hx : Loc X.env.scope x) (hf : X.fn x = true ∨ X.env.scope.names.lookup x = some .local) (hb : a.isB = false) (ha : PE X xa (tE X.K XR W C a)) : PS X (.AugAssign (.Name x p) (opM o) xa pos) (tS X.K XR W F0 H0 r0 C (.aug i o a)) := by
  refine ps_imp (ps_aug hN hi hx ha (ip_aug o) hf) fun D σ H ⟨Fm, rm, F, r, sl, S, I, q⟩ => ?_
  unfold evS at q
  cases hs : sl[i]? with
  | none => rw [hs] at q; exact q.elim
  | some y =>
    rw [hs] at q
    cases y with
    | nil => exact q.elim
    | own _ => exact q.elim
    | v d =>
      obtain ⟨v, e1, e2⟩ := I.so.v i d hs
      refine ⟨v, e1, tE.st q I fun y d2 F' H' r' S' e I' ry q' => ?_⟩
      rw [hb] at ry
      cases hz : pAug o d d2 with
      | none => rw [hz] at q'; exact q'.elim
      | some z =>
        rw [hz] at q'
        have key : ∃ i j k, d = .int i ∧ d2 = .int j ∧ z = .int k := by
          unfold pAug at hz
          split at hz
          · cases hz
            exact ⟨_, _, _, rfl, rfl, rfl⟩
          · cases hz
            exact ⟨_, _, _, rfl, rfl, rfl⟩
          · split at hz
            · cases hz
              exact ⟨_, _, _, rfl, rfl, rfl⟩
            · cases hz
          · cases hz
        obtain ⟨i1, j1, k1, rfl, rfl, rfl⟩ := key
        cases Rp.toInt e2
        have ry : Rp X.K F' r' y (.int j1) := ry
        cases Rp.toInt ry
        exact ⟨i1, j1, k1, rfl, rfl, hz, q' F' H' r' _ (I'.set (.int k1))⟩
end
end G
end S_GSt2
section S_GX3
set_option linter.all false
set_option maxRecDepth 100000
set_option maxHeartbeats 2000000
/-! GX3: statements over list cells. -/
namespace G
open PySem PySem.Spec PyProof.Rows L2
section
variable {K : Fg} {XR : XRel} {W : L2.WX} {F0 H0 Fm F H F' H' : Hp} {r0 rm r r' : List Addr} {S S' : List Cell} {sl sl' : List Sl} {σ σ' : L2.St} {C : G.Cx} {D : Ends}
/-- the list at a list cell -/
theorem isLoc_at (R : Rel K F H r S) {d : G.D} {v : V} (h : isLoc S d = true) (rv : Rp K F r v d) : ∃ n q vs, d = .loc n ∧ v = .ref q ∧ r[n]? = some q ∧ H q = some (.lst vs) := by
  unfold isLoc at h
  split at h
  · rename_i n
    split at h
    · rename_i xs hc
      obtain ⟨q, e1, e2, vs, e3, e4⟩ := loc_of R rv hc
      exact ⟨n, q, vs, rfl, e1, e2, e3⟩
    · rename_i xs hc
      obtain ⟨q, e1, e2, vs, e3, e4⟩ := loc_of R rv hc
      exact ⟨n, q, vs, rfl, e1, e2, e3⟩
    · cases h
  · cases h
/-- a cell's object and what it says, both changed -/
theorem StI.putX {n : Nat} {p : Addr} {o : HO} {c : Cell} (I : StI K F0 H0 r0 Fm rm F H r S sl σ) (hp : r[n]? = some p) (ok : CellOk K F (upd H p o) r p c) : StI K F0 H0 r0 Fm rm F (upd H p o) r (S.set n c) sl σ := by
  have nf := I.R.nf n p hp
  refine ⟨⟨fun a o' h => ?_, by rw [List.length_set, I.R.len], I.R.inj, I.R.nf, fun i a c' h1 h2 => ?_⟩, ⟨I.so.len, I.so.v, fun j ds h => ?_, I.so.ap⟩, ?_, I.nw, I.fl, I.pr⟩
  · rw [upd_ne fun z => by rw [z, nf] at h; cases h]
    exact I.R.sub a o' h
  · by_cases z : n = i
    · subst z
      rw [hp] at h1
      cases h1
      by_cases hl : n < S.length
      · rw [List.getElem?_set_self hl] at h2
        cases h2
        exact ok
      · rw [List.getElem?_eq_none (by rw [List.length_set]; omega)] at h2
        cases h2
    · rw [List.getElem?_set_ne z] at h2
      exact (I.R.cell i a c' h1 h2).addr fun y => z (I.R.inj n i p hp (by rw [← y]; exact h1))
  · obtain ⟨a, ws, g1, g2, g3, g4, g5⟩ := I.so.own j ds h
    have ne : a ≠ p := fun y => g4 (by rw [y]; exact mem_r hp)
    exact ⟨a, ws, g1, by rw [upd_ne ne]; exact g2, g3, g4, g5⟩
  · obtain ⟨t', rt, nt⟩ := I.e.p
    have old : ∀ o', H0 p = some o' → p ∈ r0 := fun o' ho => by
      have m := mem_r hp
      rw [rt] at m
      rcases List.mem_append.mp m with m | m
      · exact m
      · rw [nt p m] at ho
        cases ho
    refine ⟨I.e.f, I.e.fn, fun a o' h hr => ?_, fun a o' h => ?_, I.e.p⟩
    · rw [upd_ne fun z => hr (by rw [z]; rw [z] at h; exact old o' h)]
      exact I.e.h a o' h hr
    · by_cases z : a = p
      · subst z
        exact ⟨_, upd_same⟩
      · rw [upd_ne z]
        exact I.e.t a o' h
/-- what a change of a list cell comes to -/
theorem chgx_at {f : List G.D → Option (List G.D)} {d : G.D} {v : V} (I : StI K F0 H0 r0 Fm rm F H r S sl σ) (rv : Rp K F r v d) (q : PostF K XR W F0 H0 r0 Fm rm D (chgx f sl S d)) :
    ∃ p vs xs ys, v = .ref p ∧ H p = some (.lst vs) ∧ RpM K F r vs xs ∧ f xs = some ys ∧ ∀ us, RpM K F r us ys → D.nx σ (upd H p (.lst us)) := by
  unfold chgx at q
  split at q
  · rename_i n
    split at q
    · rename_i xs hc
      obtain ⟨p, e1, e2, vs, e3, e4⟩ := loc_of I.R rv hc
      split at q
      · rename_i ys hf
        exact ⟨p, vs, xs, ys, e1, e3, e4, hf, fun us t => q _ _ _ _ (I.putX e2 ⟨us, upd_same, t⟩)⟩
      · exact q.elim
    · rename_i xs hc
      obtain ⟨p, e1, e2, vs, e3, e4⟩ := loc_of I.R rv hc
      split at q
      · rename_i ys hf
        split at q
        · rename_i hp
          exact ⟨p, vs, xs, ys, e1, e3, e4.m, hf, fun us t => q _ _ _ _ (I.putX e2 ⟨us, upd_same, t.pure hp⟩)⟩
        · exact q.elim
      · exact q.elim
    · exact q.elim
  · exact q.elim
end
section
variable {XR : XRel} {C : G.Cx} {X : L2.Cx} {W : L2.WX} {F0 H0 : Hp} {r0 : List Addr} {p pos ap cp p2 : Pos} {a b o : E} {xa xb xo tgx : Expr} {i : Nat} {x : Str} {sts : List Stmt} {ts : List T} {tg : Tg}
theorem s_appx (hr : recvPlain xo = true) (hy : noStar xa = true) (hl : (ap.endLine == cp.line) = true) (h1 : o.isB = false) (hb : a.isB = false) (ho : PE X xo (tE X.K XR W C o)) (ha : PE X xa (tE X.K XR W C a)) :
    PS X (.Expr (.Call (.Attribute xo appS ap) [xa] [] cp) pos) (tS X.K XR W F0 H0 r0 C (.appx o a)) := by
  have hA : PA X [xa] (tCons (tE X.K XR W C a) tNil) := pa_cons ha pa_nil (star_cons hy)
  refine ps_imp (ps_expr (pe_bm PySem.F.plainAttrs_list PySem.F.slot_list_append PySem.F.type_list_append mt_append ho hA (recv_base hr) (few_ok (by rw [List.all_cons, hy]; rfl) (by show 1 < 30; decide)) hl (star_cons hy) rfl) rfl) fun D σ H ⟨Fm, rm, F, r, sl, S, I, q⟩ => ?_
  unfold evS at q
  refine tE.st q I fun y d F' H' r' S' e I' ry q' => ?_
  rw [h1] at ry
  by_cases hat : isLoc S' d = true
  · rw [if_pos hat] at q'
    obtain ⟨n, q1, vs1, rfl, rfl, z1, z2⟩ := isLoc_at I'.R hat ry
    refine ⟨.inl ⟨rfl, vs1, SqL.of z2⟩, tE.st q' I' fun u d2 F2 H2 r2 S2 e2 I2 ru q2 => ?_⟩
    rw [hb] at ru
    obtain ⟨p2, vs, xs, ys, ev, hv, tv, hf, fin⟩ := chgx_at I2 (Rp.up e2.f e2.pre ry) q2
    cases ev
    by_cases hn : xs.length < lim
    · rw [if_pos hn] at hf
      cases hf
      exact ⟨q1, vs, u, rfl, rfl, hv, by rw [tv.len, ← lim_eq]; exact hn, fin _ (RpM.app ru tv)⟩
    · rw [if_neg hn] at hf
      cases hf
  · rw [if_neg hat] at q'
    exact q'.elim
theorem s_subx (h1 : o.isB = false) (hb : a.isB = false) (hc : b.isB = false) (hs : isCompX xa = false) (hsl : isSliceX xb = false) (ho : PE X xo (tE X.K XR W C o)) (ha : PE X xa (tE X.K XR W C a)) (hi : PE X xb (tE X.K XR W C b)) :
    PS X (.Assign [.Subscript xo xb p2] xa pos) (tS X.K XR W F0 H0 r0 C (.subx o b a)) := by
  have hg : PG X (.Subscript xo xb p2) (gSub (tE X.K XR W C o) (tE X.K XR W C b) rSetL) := pg_sub ho hi set_list (fun v => by cases xb <;> first | rfl | cases hsl)
  refine ps_imp (ps_asg ha hg (by rw [sole]; exact sw_none hs) (by cases xa <;> rfl) rfl) fun D σ H ⟨Fm, rm, F, r, sl, S, I, q⟩ => ?_
  unfold evS at q
  refine tE.st q I fun y d F' H' r' S' e I' ry q' => ?_
  rw [hb] at ry
  refine tE.st q' I' fun x dx F1 H1 r1 S1 e1 I1 rx q1 => ?_
  rw [h1] at rx
  refine tE.st q1 I1 fun j dj F2 H2 r2 S2 e2 I2 rj q2 => ?_
  rw [hc] at rj
  cases dj with
  | int j' =>
    have ej : j = .int j' := Rp.toInt rj
    subst ej
    obtain ⟨p2, vs, xs, ys, ev, hv, tv, hf, fin⟩ := chgx_at I2 (Rp.up e2.f e2.pre rx) q2
    cases hk : ixN xs.length j' with
    | none => rw [hk] at hf; cases hf
    | some k =>
      rw [hk] at hf
      cases hf
      have ry2 : Rp X.K F2 r2 y d := Rp.up e2.f e2.pre (Rp.up e1.f e1.pre ry)
      exact ⟨p2, vs, j', k, ev, rfl, hv, by rw [tv.len]; exact hk, fin _ (RpM.set ry2 k tv)⟩
  | _ => exact q2.elim
theorem s_forc (hp : PassesOwn (model X.prog X.w) X.A X.env X.xe) (hc : X.calm = true) (h1 : a.isB = false) (hi : PE X xa (tE X.K XR W C a)) (hg : PG X tgx (gTg X.K tg)) (hb : PSs X sts (tB X.K XR W F0 H0 r0 C ts)) (hs : isSetX xa = false) :
    PS X (.For tgx xa sts [] pos) (tS X.K XR W F0 H0 r0 C (.forc tg a ts)) := by
  refine ps_imp (ps_for hp hc (pi_any hi) hg hb (set_folded hs)) fun D σ H ⟨Fm, rm, F, r, sl, S, I, q⟩ => ?_
  unfold evS at q
  generalize hf : (fun d sl S => match tgSet tg d sl with
    | some sl => evB C ts sl S
    | none => .stk : G.D → List Sl → List Cell → Fl) = f at q
  refine tE.st q I fun x d F1 H1 r1 S1 e1 I1 rx h1' => ?_
  rw [h1] at rx
  cases d with
  | loc n =>
    have h1' : PostF X.K XR W F0 H0 r0 Fm rm D (if isLoc S1 (.loc n) then forCL f n C.wf 0 sl S1 else .stk) := h1'
    by_cases hat : isLoc S1 (.loc n) = true
    · rw [if_pos hat] at h1'
      obtain ⟨n', q1, vs1, e0, rfl, z1, z2⟩ := isLoc_at I1.R hat rx
      cases e0
      refine .inl ⟨q1, rfl, ⟨vs1, SqL.of z2⟩, ?_⟩
      -- what stands at the cell
      have cellIs : ∀ {F H : Hp} {r : List Addr} {S : List Cell} {i : Nat} {o : Option G.D}, Rel X.K F H r S → r[n]? = some q1 → cellAt S i n = some o → ∃ vs xs, H q1 = some (.lst vs) ∧ RpM X.K F r vs xs ∧ xs[i]? = o := by
        intro F H r S i o R hr hc
        unfold cellAt at hc
        split at hc
        · rename_i xs hs
          cases hc
          obtain ⟨vs, e3, e4⟩ := R.cell n q1 _ hr hs
          exact ⟨vs, xs, e3, e4, rfl⟩
        · rename_i xs hs
          cases hc
          obtain ⟨vs, e3, e4⟩ := R.cell n q1 _ hr hs
          exact ⟨vs, xs, e3, e4.m, rfl⟩
        · cases hc
      refine ⟨fun i m σ H => ∃ F2 r2 sl2 S2, StI X.K F0 H0 r0 Fm rm F2 H r2 S2 sl2 σ ∧ r2[n]? = some q1 ∧ PostF X.K XR W F0 H0 r0 Fm rm D (forCL f n m i sl2 S2), ⟨C.wf, F1, r1, sl, S1, I1, z1, h1'⟩, ?_⟩
      rintro i m σ2 H2 ⟨F2, r2, sl2, S2, I2, zr, h2⟩
      cases m with
      | zero => exact h2.elim
      | succ m =>
        unfold forCL at h2
        cases hcell : cellAt S2 i n with
        | none => rw [hcell] at h2; exact h2.elim
        | some o =>
          rw [hcell] at h2
          obtain ⟨vs, xs, hv, tv, ho⟩ := cellIs I2.R zr hcell
          cases o with
          | none =>
            have hlen : xs.length ≤ i := List.getElem?_eq_none_iff.mp ho
            exact .inl ⟨⟨vs, SqL.of hv, by rw [tv.len]; exact hlen⟩, h2 F2 H2 r2 σ2 I2⟩
          | some d =>
            obtain ⟨v, hv1, hv2⟩ := tv.get ho
            refine .inr ⟨⟨vs, v, SqL.of hv, hv1⟩, fun σ H => ∃ F2 r2 sl2 S2, StI X.K F0 H0 r0 Fm rm F2 H r2 S2 sl2 σ ∧ r2[n]? = some q1 ∧ PostF X.K XR W F0 H0 r0 Fm rm D (forCL f n m (i + 1) sl2 S2), fun σ' H' p => ⟨m, Nat.lt_succ_self m, p⟩, fun x H' hy => ?_⟩
            obtain ⟨rfl, hy⟩ := hy
            have ex := hy vs (SqL.of hv)
            rw [hv1] at ex
            cases ex
            have hfd : f d sl2 S2 = match tgSet tg d sl2 with
              | some sl => evB C ts sl S2
              | none => .stk := by rw [← hf]
            cases ht : tgSet tg d sl2 with
            | none =>
              simp only [hfd, ht] at h2
              exact h2.elim
            | some sl3 =>
              simp only [hfd, ht] at h2
              refine ⟨F2, r2, S2, sl2, d, sl3, I2.R, I2.so, hv2, ht, fun σ3 so3 ag => ?_⟩
              have I4 := I2.tg ht so3 ag
              have I5 : StI X.K F0 H0 r0 F2 r2 F2 H' r2 S2 sl3 σ3 := ⟨I4.R, I4.so, I4.e, I4.nw, fun _ _ h => h, Pre.refl _⟩
              have fin : ∀ {F H : Hp} {r : List Addr} {S : List Cell} {sl : List Sl} {σ : L2.St}, StI X.K F0 H0 r0 F2 r2 F H r S sl σ → StI X.K F0 H0 r0 Fm rm F H r S sl σ ∧ r[n]? = some q1 := fun {F H r S sl σ} J =>
                ⟨⟨J.R, J.so, J.e, J.nw, fun a o h => J.fl a o (I4.fl a o h), I4.pr.trans J.pr⟩, J.pr.at zr⟩
              refine ⟨F2, r2, F2, r2, sl3, S2, I5, ?_⟩
              cases he : evB C ts sl3 S2 with
              | nx sl' S' =>
                rw [he] at h2
                exact fun F' H' r' σ' J => ⟨F', r', sl', S', (fin J).1, (fin J).2, h2⟩
              | cnt sl' S' =>
                rw [he] at h2
                exact fun F' H' r' σ' J => ⟨F', r', sl', S', (fin J).1, (fin J).2, h2⟩
              | brk sl' S' =>
                rw [he] at h2
                exact fun F' H' r' σ' J => h2 F' H' r' σ' (fin J).1
              | ret d S' =>
                rw [he] at h2
                exact h2
              | exc c x sl' S' =>
                rw [he] at h2
                exact fun F' H' r' σ' cls d J => h2 F' H' r' σ' cls d (fin J).1
              | stk =>
                rw [he] at h2
                exact h2
    · rw [if_neg hat] at h1'
      exact h1'.elim
  | _ => exact h1'.elim
end
end G
end S_GX3
section S_GX4
set_option linter.all false
set_option maxRecDepth 100000
set_option maxHeartbeats 2000000
/-! GX4: errors of own classes (without __init__): raised, caught around a return. -/
namespace G
open PySem PySem.Spec PyProof.Rows L2
section
variable {XR : XRel} {C : G.Cx} {X : L2.Cx} {W : L2.WX} {F0 H0 : Hp} {r0 : List Addr} {p pos ap cp p2 p3 p4 p5 p6 : Pos} {a b o : E} {xa xb xo tgx : Expr} {i k : Nat} {x n : Str} {A : Addr}
theorem s_rse (hc : X.calm = true) (tk : Takes X W) (E : ClsE XR X.K X.mg x k A) (hg : Gl X x) (hd : (x == ("__debug__" : Str)) = false) (hs : noStar xa = true) (hb : a.isB = false) (ha : PE X xa (tE X.K XR W C a)) :
    PS X (.Raise (some (.Call (.Name x p) [xa] [] p2)) none pos) (tS X.K XR W F0 H0 r0 C (.rse k a)) := by
  refine ps_imp (ps_raise hc tk (SkE.pmk_own1 PySem.F.excBase_ValueError E.f.q E.g E.f.k (raises_own E.f.b E.f.t) hg ha (star_cons hs) hd)) fun D σ H ⟨Fm, rm, F, r, sl, S, I, q⟩ => ?_
  unfold evS at q
  exact tE.st q I fun y d F' H' r' S' e I' ry q' => q' F' H' r' σ (.ref A) none I' (E.r _ _ _ _)
/-- a test of a handler: the error stands at a -/
def tIs (i : Nat) (a : Addr) (b : Bool) : TT := fun σ H Q => σ[i]? = some (some (.ref a)) ∧ Q b H
theorem h_isT {y : Str} {ad : Addr} {oe : Obj} {pn : List (Addr × Obj)} {bv : Bool} {cv : Value} (hz : Zc (.ref A) none oe) (hf : ∃ vs, oe.data = .fields vs) (E : ExF X.K A) (hN : X.N[i]? = some n) (hv : Vis X.env.scope n) (hd : (n == ("__debug__" : Str)) = false) (hcd : (n == ("__classdict__" : Str)) = false)
    (hg : Gl X "isinstance") (hm : X.mg "isinstance" = none) (hy : Gl X y) (hyd : (y == ("__debug__" : Str)) = false) (cn : ClsN X.mg y cv) (kit : PySem.W.kitOne X.K (.ref A) cv = some bv) :
    PT (X.suite ad ((ad, oe) :: pn)) (.Call (.Name "isinstance" p) [.Name n p2, .Name y p3] [] pos) (tIs i ad bv) := by
  have hn : PE (X.suite ad ((ad, oe) :: pn)) (.Name n p2) (tVar i) := pe_var hN hv hd hcd
  have h0 : plainT (.Call (.Name "isinstance" p) [.Name n p2, .Name y p3] [] pos) = true := rfl
  cases cn with
  | @own B h =>
    have h2 : PE (X.suite ad ((ad, oe) :: pn)) (.Name y p3) (tC (.ref B)) := pe_glob hy h rfl hyd
    have hA : PA (X.suite ad ((ad, oe) :: pn)) [.Name n p2, .Name y p3] (tCons (tVar i) (tCons (tC (.ref B)) tNil)) := pa_cons hn (pa_cons h2 pa_nil)
    refine pt_imp (pt_truth (pe_callB (call_isE E.c hz hf) hg hm PyProof.Rows.boot_isinstance hA (by decide) (by decide)) (plain_true h0)) fun σ H Q ⟨q1, q2⟩ => ?_
    exact ⟨_, q1, .ref B, .ref B, bv, rfl, fun u hu => hu, kit, bv, rfl, q2⟩
  | @bt T h h3 h4 =>
    have h2 : PE (X.suite ad ((ad, oe) :: pn)) (.Name y p3) (tC (.ty T)) := pe_bltn hy h h3 rfl h4 hyd
    have hA : PA (X.suite ad ((ad, oe) :: pn)) [.Name n p2, .Name y p3] (tCons (tVar i) (tCons (tC (.ty T)) tNil)) := pa_cons hn (pa_cons h2 pa_nil)
    refine pt_imp (pt_truth (pe_callB (call_isE E.c hz hf) hg hm PyProof.Rows.boot_isinstance hA (by decide) (by decide)) (plain_true h0)) fun σ H Q ⟨q1, q2⟩ => ?_
    exact ⟨_, q1, .ty T, .type T, bv, rfl, fun u hu => hu, kit, bv, rfl, q2⟩
theorem h_not {Y : L2.Cx} {ad : Addr} {bv : Bool} (h : PT Y xa (tIs i ad bv)) : PT Y (.UnaryOp .Not xa pos) (tIs i ad (!bv)) := pt_imp (pt_not h) fun σ H Q ⟨q1, q2⟩ => ⟨q1, q2⟩
/-- a chain of and -/
inductive AndTs (Y : L2.Cx) (i : Nat) (ad : Addr) : List Bool → List Expr → Prop
  | one {b : Bool} {x : Expr} (h : PT Y x (tIs i ad b)) : AndTs Y i ad [b] [x]
  | cons {b b2 : Bool} {bs : List Bool} {x y : Expr} {xs : List Expr} (h : PT Y x (tIs i ad b)) (t : AndTs Y i ad (b2 :: bs) (y :: xs)) : AndTs Y i ad (b :: b2 :: bs) (x :: y :: xs)
theorem h_and {Y : L2.Cx} {ad : Addr} : ∀ {bs : List Bool} {xs : List Expr}, AndTs Y i ad bs xs → PW Y (.BoolOp .And xs pos) (tIs i ad (bs.all id))
  | _, _, .one h => pw_imp (pw_and1 h) fun σ H Q ⟨q1, q2⟩ => ⟨q1, by simpa using q2⟩
  | _, _, .cons (b := b) h t => by
    refine pw_imp (pw_and h (h_and t)) fun σ H Q ⟨q1, q2⟩ => ⟨q1, ?_⟩
    cases b with
    | true => exact ⟨q1, by simpa using q2⟩
    | false => simpa using q2
theorem s_tryr {ts : List (Bool × Bool × Nat)} {d1 d2 : D} {k1 k2 : Const} {j1 j2 : Nat} {xs : List Expr} (hs : X.stack = X.env :: X.outer) (hf : X.env.frame = some X.env.locals) (tk : Takes X W) (E : ClsE XR X.K X.mg x k A) (hg : Gl X x) (hd : (x == ("__debug__" : Str)) = false)
    (hN : X.N.Nodup) (hi : X.N[i]? = some n) (hl : X.env.kindOf n = some .local) (hb : a.isB = false) (ha : ∀ (W : L2.WX) (pn : List (Addr × Obj)) (xe : Value → Shared → Prop), Takes (X.tr pn xe) W → PE (X.tr pn xe) xa (tE X.K XR W C a))
    (ht : ∀ (ad : Addr) (oe : Obj) (pn : List (Addr × Obj)), Zc (.ref A) none oe → (∃ vs, oe.data = .fields vs) → AndTs (X.suite ad ((ad, oe) :: pn)) i ad (ts.map fun p => p.2.1 != p.1) xs) (hk1 : kOk d1 k1 = true) (hk2 : kOk d2 k2 = true) :
    PS X (.Try [.Return (some xa) p] [.ExceptHandler (some (.Name x p2)) (some n) [.Return (some (.IfExp (.BoolOp .And xs p3) (.Constant k1 j1 p4) (.Constant k2 j2 p5) p6)) ap] cp] [] [] pos) (tS X.K XR W F0 H0 r0 C (.tryr a k i (.ite ts (.k d1) (.k d2)))) := by
  -- what the handler wants
  let th : Addr → Value → Option Addr → TS := fun ad cls d D σ H => cls = .ref A ∧ d = none ∧ (∃ σ0 : L2.St, σ = σ0.set i (some (.ref ad))) ∧ ∀ v, (∀ F r, Rp X.K F r v (if (ts.map fun p => p.2.1 != p.1).all id then d1 else d2)) → D.rt v H
  have cst : ∀ {Y : L2.Cx} {d : D} {kk : Const} {jj : Nat} {pp : Pos}, kOk d kk = true → PE Y (.Constant kk jj pp) (fun σ H Q => ∀ v, (∀ F r, Rp X.K F r v d) → Q v H) := by
    intro Y d kk jj pp hk
    cases d with
    | non =>
      cases kk <;> first | cases hk | skip
      exact pe_imp pe_non fun σ H Q h => h _ fun F r => .non
    | bl b =>
      cases kk <;> first | cases hk | skip
      rename_i b'
      have e : b = b' := by simpa [kOk] using hk
      subst e
      exact pe_imp pe_bl fun σ H Q h => h _ fun F r => .bl _
    | int z =>
      cases kk <;> first | cases hk | skip
      rename_i j
      have e : z = j := by simpa [kOk] using hk
      subst e
      exact pe_imp pe_int fun σ H Q h => h _ fun F r => .int _
    | str s =>
      cases kk <;> first | cases hk | skip
      rename_i x
      simp only [kOk, Bool.and_eq_true, decide_eq_true_eq] at hk
      obtain ⟨rfl, hl⟩ := hk
      exact pe_imp pe_str fun σ H Q h => h _ fun F r => .str _ hl
    | _ => cases kk <;> cases hk
  refine ps_imp (ps_try_as (i := i) (c := .ref A) (tb := fun W' => tRet (tE X.K XR W' C a)) (ts := th) (Wout := W) hs hf hN hi hl ⟨hg, hd, .inl E.g⟩ tk (fun W' pn xe tk' _ => pss_one (ps_ret (ha W' pn xe tk'))) fun ad oe cls d pn hz hfl => ?_) fun D σ H ⟨Fm, rm, F, r, sl, S, I, q⟩ => ?_
  · refine ⟨fun pins s σ H D I q => ?_⟩
    obtain ⟨rfl, rfl, ⟨σ0, rfl⟩, q2⟩ := q
    have q1 : (σ0.set i (some (V.ref ad)))[i]? = some (some (.ref ad)) := by
      have e := I.len
      rw [List.length_set] at e
      have l := (List.getElem?_eq_some_iff.mp hi).1
      exact List.getElem?_set_self (by rw [e]; exact l)
    refine (pss_one (ps_ret (pe_ifExp (h_and (ht ad oe pn hz hfl)).pt (cst hk1) (cst hk2)))).run pins s _ H D I ⟨q1, ?_⟩
    cases hb : (ts.map fun p => p.2.1 != p.1).all id with
    | true =>
      simp only [hb, if_true] at q2
      exact q2
    | false =>
      simp only [hb] at q2
      exact q2
  · unfold evS at q
    refine ⟨F, r, sl, S, I.R, I.so, ?_⟩
    cases he : evE C a sl S with
    | ok d S' =>
      rw [he] at q
      intro F' H' r' e R v hv
      rw [hb] at hv
      exact q F' H' r' (I.e.trans e) R v hv
    | exc c' x S' =>
      rw [he] at q
      intro F' H' r' cls dd e R hx
      by_cases hc : c' = k
      · subst hc
        simp only [if_true] at q
        obtain ⟨rfl, rfl⟩ := E.u _ _ _ _ _ _ hx
        refine ⟨true, E.f.m, fun _ ad _ => ⟨rfl, rfl, ⟨_, rfl⟩, fun v hv => ?_⟩, (fun z => nomatch z)⟩
        refine q F' H' r' (I.e.trans e) R v ?_
        have hv := hv F' r'
        have e2 : (ts.map fun p => p.2.1 != p.1).all id = ts.all fun p => p.2.1 != p.1 := by
          rw [List.all_map]
          rfl
        rw [e2] at hv
        unfold evH
        split <;> rename_i z
        · rw [if_pos z] at hv
          unfold evH
          exact hv
        · rw [if_neg z] at hv
          unfold evH
          exact hv
      · simp only [if_neg hc] at q
        exact q.elim
    | stk =>
      rw [he] at q
      exact q.elim
end
end G
namespace G
open PySem PySem.Spec PyProof.Rows L2
section
variable {X : L2.Cx}
theorem sw_falseD {kx vx : Expr} {gs : List Comprehension} {scope : Scope} {pos py : Pos} {y : Str} {l : Nat} {env : Env}
    (h : (env.scope.names.lookup y == some .local && py.line == pos.line && !(scope.names.any fun (n, k) => n == y && (k == .local || k == .cell))) = false) : swapsWith (.DictComp kx vx gs scope pos) (some (.Name y py)) l env = pure false := by
  unfold swapsWith
  show (pure (env.blockKind == .function && env.scope.names.lookup y == some .local && py.line == pos.line && !(scope.names.any fun (n, k) => n == y && (k == .local || k == .cell))) : Sem Bool) = _
  have z : (env.blockKind == .function && env.scope.names.lookup y == some .local && py.line == pos.line && !(scope.names.any fun (n, k) => n == y && (k == .local || k == .cell))) = false := by
    cases hb : env.blockKind == .function
    · simp
    · simpa using h
  rw [z]
theorem sw_trueD {kx vx : Expr} {gs : List Comprehension} {scope : Scope} {pos py : Pos} {y : Str} {l : Nat} {env : Env} (hk : env.scope.kind = .function) (hy : env.scope.names.lookup y = some .local) (hl : (py.line == pos.line) = true)
    (ha : (scope.names.any fun (n, k) => n == y && (k == .local || k == .cell)) = false) : swapsWith (.DictComp kx vx gs scope pos) (some (.Name y py)) l env = pure true := by
  have k1 : env.kindOf y = some .local := hy
  have k2 : env.blockKind = .function := by unfold Env.blockKind; rw [hk]; rfl
  unfold swapsWith
  simp only [k1, k2, ha, Expr.pos, hl]
  rfl
/-- name = {..} on one line, the name a local -/
theorem ps_setDc {i : Nat} {y : Str} {py : Pos} {kx vx tg iter : Expr} {ifs : List Expr} {scope : Scope} {own : List (Str × Nat)} {pos spos : Pos} {wi : TI} {g : TG} {tt : TT} {tk tv : TE} (calm : X.calm = true) (nd : X.N.Nodup) (hy : X.N[i]? = some y) (loc : X.env.scope.names.lookup y = some .local)
    (sw : swapsWith (.DictComp kx vx [⟨tg, iter, ifs, 0⟩] scope pos) (some (.Name y py)) spos.line X.env = pure true) (hi : PI X tg iter wi) (ok : BlkOk X.N X.env.scope scope own)
    (pg : ∀ (s : Shared) (H : Hp) (C : Addr) (cl : List (Str × Addr)) (fp : List Addr), PG (X.blk s H scope (compEnvC scope cl C X.env) fp) tg g) (pt : ∀ (s : Shared) (H : Hp) (C : Addr) (cl : List (Str × Addr)) (fp : List Addr), PTs (X.blk s H scope (compEnvC scope cl C X.env) fp) ifs tt)
    (pk : ∀ (s : Shared) (H : Hp) (C : Addr) (cl : List (Str × Addr)) (fp : List Addr), PE (X.blk s H scope (compEnvC scope cl C X.env) fp) kx tk) (pv : ∀ (s : Shared) (H : Hp) (C : Addr) (cl : List (Str × Addr)) (fp : List Addr), PE (X.blk s H scope (compEnvC scope cl C X.env) fp) vx tv)
    (hs : ∀ x, foldedSetIterable iter X.env x = pure x) : PS X (.Assign [.Name y py] (.DictComp kx vx [⟨tg, iter, ifs, 0⟩] scope pos) spos) (tAsg (tDc wi g tt tk tv (own.map (·.2))) (gName i)) := by
  constructor
  intro pins s σ H D I q
  rw [exec_Assign_Name_used _ _ _ _ sw]
  apply wpAny_bind
  apply wpAny_standAt
  apply wpAny_bind
  show wpAny _ X.A (do let _ ← comprehension (.DictComp kx vx [⟨tg, iter, ifs, 0⟩] scope pos) scope X.env (firstIterPos [⟨tg, iter, ifs, 0⟩] pos) newDict false (eval iter X.env) (some (assign (.Name y py) X.env))) _ _ s
  have q : tDc wi g tt tk tv (own.map (·.2)) σ H (fun x H1 => gName i x σ H1 D.nx) := q
  refine wpAny_bind (thn (dc_core (Qf := fun _ t => SP X pins D .next t) calm nd I hi ok pg pt pk pv hs q fun L C t m H1 J qq hn fp => ?_) fun _ t hq => wpAny_pure (wpAny_pure hq))
  show wpAny _ _ (assign (.Name y py) X.env (.ref L)) _ _ _
  refine wpAny_assign_Name (store_ok2 (v := V.ref L) J nd hy (.inl loc) rfl (fun t2 J2 ⟨a, same, ha⟩ => ?_) (.inr loc))
  obtain ⟨g0, g1, g2, g3, g4, g5⟩ := fp
  have apart : C ≠ a := by
    rcases ha with z | z
    · rw [z]
      exact g1
    · exact fun e => g4 y a z e.symm
  refine ⟨m, hn.sameBut same apart, fun h3 same3 => ?_⟩
  exact ⟨_, H1, J2.turned (t' := t2.toks) (fun b o hb e => (same3.2 b hb).trans e) g0 g1 g3 g4 g5, qq⟩
end
end G
end S_GX4
section S_GSt3
set_option linter.all false
set_option maxRecDepth 100000
set_option maxHeartbeats 4000000
/-! GSt3: the checker of statements and its soundness. -/
namespace G
open PySem PySem.Spec PyProof.Rows L2

def isTupX : Expr → Bool
  | .Tuple .. => true
  | _ => false
/-- a test of a handler for errors of the class k, held by n -/
def chkI1 (c : Ck) (k : Nat) (n : Str) : Bool × Bool × Nat → Expr → Bool
  | (false, b, j), .Call (.Name f _) [.Name m _, .Name y _] [] _ => decide (f = "isinstance") && c.gl f .blt && decide (m = n) && (c.gl y (.exc j) || c.gl y (.bty j)) && decide (((k, j), b) ∈ c.sub)
  | (true, b, j), .UnaryOp .Not (.Call (.Name f _) [.Name m _, .Name y _] [] _) _ => decide (f = "isinstance") && c.gl f .blt && decide (m = n) && (c.gl y (.exc j) || c.gl y (.bty j)) && decide (((k, j), b) ∈ c.sub)
  | _, _ => false
def chkIs (c : Ck) (k : Nat) (n : Str) : List (Bool × Bool × Nat) → List Expr → Bool
  | [p], [x] => chkI1 c k n p x
  | p :: q :: ps, x :: y :: xs => chkI1 c k n p x && chkIs c k n (q :: ps) (y :: xs)
  | _, _ => false
mutual
def chkS (c : Ck) : T → Stmt → Bool
  | .set i e, s => match s with
    | .Assign [.Name x _] v _ => c.put i x && !e.isB && chkE c e v
    | _ => false
  | .setO i e, s => match s with
    | .Assign [.Name x _] v _ => c.put i x && e.fresh && chkE c e v
    | _ => false
  | .unp tg e, s => match s with
    | .Assign [t] v _ => isTupX t && chkTg c tg t && !isTupX v && !e.isB && chkE c e v
    | _ => false
  | .frz _, _ => false
  | .app o e, s => match o with
    | .b i => (match s with
      | .Expr (.Call (.Attribute (.Name x _) at_ ap) [y] [] cp) _ => decide (at_ = appS) && c.slot i x && noStar y && (ap.endLine == cp.line) && !e.isB && chkE c e y
      | _ => false)
    | _ => false
  | .ext o e, s => match o with
    | .b i => (match s with
      | .Expr (.Call (.Attribute (.Name x _) at_ ap) [y] [] cp) _ => decide (at_ = extS) && c.slot i x && noStar y && (ap.endLine == cp.line) && e.fresh && chkE c e y
      | _ => false)
    | _ => false
  | .sub o j e, s => match o with
    | .b i => (match s with
      | .Assign [.Subscript (.Name x _) y _] v _ => c.slot i x && !isCompX v && !isSliceX y && !e.isB && !j.isB && chkE c e v && chkE c j y
      | _ => false)
    | _ => false
  | .aug i o e, s => match s with
    | .AugAssign (.Name x _) op v _ => c.put i x && decide (op = opM o) && !e.isB && chkE c e v
    | _ => false
  | .exp e, s => match s with
    | .Expr v _ => !isCompX v && chkE c e v
    | _ => false
  | .ife b ts us, s => match s with
    | .If t xs ys _ => chkT c b t && chkB c ts xs && chkB c us ys
    | _ => false
  | .for_ tg it ts, s => match s with
    | .For t i xs [] _ => chkTg c tg t && chkI c false it i && !isSetX i && chkB c ts xs
    | _ => false
  | .whl b ts, s => match s with
    | .While t xs [] _ => chkT c b t && chkB c ts xs
    | _ => false
  | .ret e, s => match s with
    | .Return (some v) _ => !e.isB && chkE c e v
    | _ => false
  | .ret0, s => match s with
    | .Return none _ => true
    | _ => false
  | .cnt, s => match s with
    | .Continue _ => true
    | _ => false
  | .brk, s => match s with
    | .Break _ => true
    | _ => false
  | .pas, s => match s with
    | .Pass _ => true
    | _ => false
  | .appx o e, s => match s with
    | .Expr (.Call (.Attribute xo at_ ap) [y] [] cp) _ => decide (at_ = appS) && recvPlain xo && noStar y && (ap.endLine == cp.line) && !o.isB && !e.isB && chkE c o xo && chkE c e y
    | _ => false
  | .subx o j e, s => match s with
    | .Assign [.Subscript xo y _] v _ => !isCompX v && !isSliceX y && !o.isB && !e.isB && !j.isB && chkE c e v && chkE c o xo && chkE c j y
    | _ => false
  | .forc tg e ts, s => match s with
    | .For t i xs [] _ => chkTg c tg t && !e.isB && chkE c e i && !isSetX i && chkB c ts xs
    | _ => false
  | .rse k e, s => match s with
    | .Raise (some (.Call (.Name x _) [y] [] _)) none _ => c.gl x (.exc k) && noStar y && !e.isB && chkE c e y
    | _ => false
  | .tryr e k i h, s => match h with
    | .ite ts (.k d1) (.k d2) => (match s with
      | .Try [.Return (some xe) _] [.ExceptHandler (some (.Name x _)) (some n) [.Return (some (.IfExp (.BoolOp .And xs _) (.Constant k1 _ _) (.Constant k2 _ _) _)) _] _] [] [] _ =>
        c.gl x (.exc k) && decide (c.N[i]? = some n) && decide (c.sc.names.lookup n = some .local) && !e.isB && chkE c e xe && chkIs c k n ts xs && kOk d1 k1 && kOk d2 k2
      | _ => false)
    | _ => false
def chkB (c : Ck) : List T → List Stmt → Bool
  | [], ss => ss.isEmpty
  | t :: ts, ss => match t with
    | .frz _ => chkB c ts ss
    | _ => match ss with
      | s :: ss => chkS c t s && chkB c ts ss
      | [] => false
end
section
variable {XR : XRel} {CX : CXT} {C : G.Cx} {k : Nat} {c : Ck} {X : L2.Cx} {W : L2.WX} {F0 H0 : Hp} {r0 : List Addr}
theorem ps_weak {st : Stmt} {te te' : TE} {g : TG} (h : PS X st (tAsg te g)) (k : ∀ σ H Q, te' σ H Q → te σ H Q) : PS X st (tAsg te' g) := ps_imp h fun D σ H q => k _ _ _ q
theorem s_asg {e : E} {v : Expr} {i : Nat} {x : Str} {py pos : Pos} (g : Gd XR CX C k c X W) (hp : c.put i x = true) (h : chkE c e v = true) :
    (e.isB = false → PS X (.Assign [.Name x py] v pos) (tAsg (tE X.K XR W C e) (gName i))) ∧ (e.fresh = true → PS X (.Assign [.Name x py] v pos) (tAsg (tEX X.K XR W C e) (gName i))) := by
  obtain ⟨h1, h2, h3⟩ := g.put hp
  have nd : X.N.Nodup := g.N ▸ g.nd
  obtain ⟨q1, q2⟩ := sE (XR := XR) (CX := CX) (C := C) (k := k) e v h g
  by_cases hc : isCompX v = false
  · exact ⟨fun _ => ps_set nd h1 h2 q1 (sw_none hc) h3, fun z => ps_set nd h1 h2 (q2 z) (sw_none hc) h3⟩
  · cases v with
    | ListComp elt gs scope vp =>
      cases hsw : (X.env.scope.names.lookup x == some .local && py.line == vp.line && !(scope.names.any fun (n, k) => n == x && (k == .local || k == .cell))) with
      | false => exact ⟨fun _ => ps_set nd h1 h2 q1 (sw_false hsw) h3, fun z => ps_set nd h1 h2 (q2 z) (sw_false hsw) h3⟩
      | true =>
        simp only [Bool.and_eq_true, beq_iff_eq] at hsw
        obtain ⟨⟨w1, w2⟩, w3⟩ := hsw
        cases e with
        | comp tg it el cond =>
          unfold chkE at h
          split at h
          · rename_i e' t i' ifs sc pos' heq
            cases heq
            simp only [Bool.and_eq_true] at h
            obtain ⟨⟨⟨⟨⟨⟨u1, u2⟩, u3⟩, u4⟩, u5⟩, u6⟩, u7⟩ := h
            have ok : BlkOk X.N X.env.scope scope (ownOf c.N tg) := by
              rw [g.N, g.sc]
              exact blkOk_by u1
            have kf : X.env.scope.kind = .function ∨ X.env.scope.kind ≠ .function := Decidable.em _
            have main : PS X (.Assign [.Name x py] (.ListComp elt [⟨t, i', ifs, 0⟩] scope vp) pos) (tAsg (tEX X.K XR W C (.comp tg it el cond)) (gName i)) := by
              refine ⟨fun pins s σ H D I q => ?_⟩
              have hk : X.env.scope.kind = .function := I.ok.kind
              have hsw := sw_true (elt := elt) (gs := [⟨t, i', ifs, 0⟩]) (scope := scope) (pos := vp) (py := py) (y := x) (l := pos.line) (env := X.env) hk w1 (by simpa using w2) (by simpa using w3)
              exact (ps_weak (ps_setLc (own := ownOf c.N tg) (wi := tIt X.K XR W C true it) (g := gTg X.K tg) (tt := tCs X.K XR W0 C cond) (te := tE X.K XR W0 C el) g.calm nd h1 w1 hsw (sI true it t i' u4 g) ok (fun s H Ca cl fp => sTg tg t u2 (g.blk s H scope Ca cl fp)) (fun s H Ca cl fp => sCs cond ifs u7 (g.blk s H scope Ca cl fp)) (fun s H Ca cl fp => (sE el elt u6 (g.blk s H scope Ca cl fp)).1) (set_folded (nb_of u3))) fun σ H Q q => lc_of own_ix (nb_of u5) q).run pins s σ H D I q
            exact ⟨fun _ => ps_weak main (tE.x rfl), fun _ => main⟩
          · cases h
        | rgx t es =>
          match es, h with
          | [], h => unfold chkE at h; cases h
          | [_], h => unfold chkE at h; cases h
          | [_, _], h => unfold chkE at h; cases h
          | _ :: _ :: _ :: _, h => unfold chkE at h; cases h
        | _ => unfold chkE at h; cases h
    | SetComp _ _ _ _ =>
      cases e with
      | rgx t es =>
        match es, h with
        | [], h => unfold chkE at h; cases h
        | [_], h => unfold chkE at h; cases h
        | [_, _], h => unfold chkE at h; cases h
        | _ :: _ :: _ :: _, h => unfold chkE at h; cases h
      | _ => unfold chkE at h; first | cases h | (split at h <;> cases h)
    | DictComp kx vx gs scope vp =>
      cases hsw : (X.env.scope.names.lookup x == some .local && py.line == vp.line && !(scope.names.any fun (n, k) => n == x && (k == .local || k == .cell))) with
      | false => exact ⟨fun _ => ps_set nd h1 h2 q1 (sw_falseD hsw) h3, fun z => ps_set nd h1 h2 (q2 z) (sw_falseD hsw) h3⟩
      | true =>
        simp only [Bool.and_eq_true, beq_iff_eq] at hsw
        obtain ⟨⟨w1, w2⟩, w3⟩ := hsw
        cases e with
        | dcp tg it ke ve =>
          unfold chkE at h
          split at h
          · rename_i k' v' t i' sc pos' heq
            cases heq
            simp only [Bool.and_eq_true] at h
            obtain ⟨⟨⟨⟨⟨⟨⟨u1, u2⟩, u3⟩, u4⟩, u5⟩, u6⟩, u7⟩, u8⟩ := h
            have ok : BlkOk X.N X.env.scope scope (ownOf c.N tg) := by
              rw [g.N, g.sc]
              exact blkOk_by u1
            have main : PS X (.Assign [.Name x py] (.DictComp kx vx [⟨t, i', [], 0⟩] scope vp) pos) (tAsg (tE X.K XR W C (.dcp tg it ke ve)) (gName i)) := by
              refine ⟨fun pins s σ H D I q => ?_⟩
              have hk : X.env.scope.kind = .function := I.ok.kind
              have hsw := sw_trueD (kx := kx) (vx := vx) (gs := [⟨t, i', [], 0⟩]) (scope := scope) (pos := vp) (py := py) (y := x) (l := pos.line) (env := X.env) hk w1 (by simpa using w2) (by simpa using w3)
              exact (ps_weak (ps_setDc (own := ownOf c.N tg) (wi := tIt X.K XR W C true it) (g := gTg X.K tg) (tt := tCs X.K XR W0 C []) (tk := tE X.K XR W0 C ke) (tv := tE X.K XR W0 C ve) g.calm nd h1 w1 hsw (sI true it t i' u4 g) ok (fun s H Ca cl fp => sTg tg t u2 (g.blk s H scope Ca cl fp)) (fun s H Ca cl fp => c_nil) (fun s H Ca cl fp => (sE ke kx u7 (g.blk s H scope Ca cl fp)).1) (fun s H Ca cl fp => (sE ve vx u8 (g.blk s H scope Ca cl fp)).1) (set_folded (nb_of u3))) fun σ H Q q => dc_of own_ix (nb_of u5) (nb_of u6) q).run pins s σ H D I q
            exact ⟨fun _ => main, fun z => by cases z⟩
          · cases h
        | rgx t es =>
          match es, h with
          | [], h => unfold chkE at h; cases h
          | [_], h => unfold chkE at h; cases h
          | [_, _], h => unfold chkE at h; cases h
          | _ :: _ :: _ :: _, h => unfold chkE at h; cases h
        | _ => unfold chkE at h; first | cases h | (split at h <;> cases h)
    | _ => exact absurd rfl hc
/-- where a statement stands -/
structure StX (X : L2.Cx) (W : L2.WX) : Prop where
  s : X.stack = X.env :: X.outer
  f : X.env.frame = some X.env.locals
  t : Takes X W
theorem Gd.tr (g : Gd XR CX C k c X W) {W' : L2.WX} {pn : List (Addr × Obj)} {xe : Value → Shared → Prop} (t : Takes (X.tr pn xe) W') : Gd XR CX C k c (X.tr pn xe) W' where
  calm := g.calm
  gds := g.gds
  room := g.room
  N := g.N
  sc := g.sc
  fn := g.fn
  nd := g.nd
  nm := g.nm
  tk := g.tp _ _ rfl rfl t
  t0 := g.t0
  tp := g.tp
  ex := g.ex
  tab := fun x q h => by
    obtain ⟨h1, h2, h3⟩ := g.tab x q h
    refine ⟨h1, h2, ?_⟩
    cases q <;> exact h3
theorem i_1 {kk : Nat} {n : Str} {i : Nat} {p : Bool × Bool × Nat} {x : Expr} {A ad : Addr} {oe : Obj} {pn : List (Addr × Obj)} {cv : Nat → Value} (g : Gd XR CX C k c X W) (hz : Zc (.ref A) none oe) (hf : ∃ vs, oe.data = .fields vs) (E : ExF X.K A) (hi : X.N[i]? = some n) (hl : X.env.kindOf n = some .local)
    (c1 : ∀ x i, c.tab.lookup x = some (.exc i) → ∃ A, ClsE XR X.K X.mg x i A ∧ cv i = .ref A) (c2 : ∀ x i, c.tab.lookup x = some (.bty i) → ClsN X.mg x (cv i)) (c3 : ∀ i j b, ((i, j), b) ∈ c.sub → PySem.W.kitOne X.K (cv i) (cv j) = some b) (ck : cv kk = .ref A)
    (h : chkI1 c kk n p x = true) : PT (X.suite ad ((ad, oe) :: pn)) x (tIs i ad (p.2.1 != p.1)) := by
  have vis : Vis X.env.scope n := .inl hl
  have nm := g.nm n (by rw [← g.N]; exact List.mem_of_getElem? hi)
  have core : ∀ {f m y : Str} {b : Bool} {j : Nat} {p1 p2 p3 pos : Pos}, (decide (f = "isinstance") && c.gl f .blt && decide (m = n) && (c.gl y (.exc j) || c.gl y (.bty j)) && decide (((kk, j), b) ∈ c.sub)) = true → PT (X.suite ad ((ad, oe) :: pn)) (.Call (.Name f p1) [.Name m p2, .Name y p3] [] pos) (tIs i ad b) := by
    intro f m y b j p1 p2 p3 pos h
    simp only [Bool.and_eq_true, decide_eq_true_eq, Bool.or_eq_true] at h
    obtain ⟨⟨⟨⟨rfl, h1⟩, rfl⟩, h2⟩, h3⟩ := h
    obtain ⟨g1, _, _, g3, _⟩ := g.gl h1
    have kit := c3 kk j b h3
    rw [ck] at kit
    rcases h2 with h2 | h2
    · obtain ⟨k1, k2, _⟩ := g.gl h2
      unfold Ck.gl at h2
      rw [Bool.and_eq_true, decide_eq_true_eq, decide_eq_true_eq] at h2
      obtain ⟨B, e1, e2⟩ := c1 y j h2.2
      rw [e2] at kit
      exact h_isT hz hf E hi vis nm.1 nm.2 g1 g3 k1 k2 (.own e1.g) kit
    · obtain ⟨k1, k2, _⟩ := g.gl h2
      unfold Ck.gl at h2
      rw [Bool.and_eq_true, decide_eq_true_eq, decide_eq_true_eq] at h2
      exact h_isT hz hf E hi vis nm.1 nm.2 g1 g3 k1 k2 (c2 y j h2.2) kit
  unfold chkI1 at h
  split at h
  · show PT _ _ (tIs i ad (_ != false))
    rw [Bool.bne_false]
    exact core h
  · show PT _ _ (tIs i ad (_ != true))
    rw [Bool.bne_true]
    exact h_not (core h)
  · cases h
theorem i_s {kk : Nat} {n : Str} {i : Nat} {A ad : Addr} {oe : Obj} {pn : List (Addr × Obj)} {cv : Nat → Value} (g : Gd XR CX C k c X W) (hz : Zc (.ref A) none oe) (hf : ∃ vs, oe.data = .fields vs) (E : ExF X.K A) (hi : X.N[i]? = some n) (hl : X.env.kindOf n = some .local)
    (c1 : ∀ x i, c.tab.lookup x = some (.exc i) → ∃ A, ClsE XR X.K X.mg x i A ∧ cv i = .ref A) (c2 : ∀ x i, c.tab.lookup x = some (.bty i) → ClsN X.mg x (cv i)) (c3 : ∀ i j b, ((i, j), b) ∈ c.sub → PySem.W.kitOne X.K (cv i) (cv j) = some b) (ck : cv kk = .ref A) :
    ∀ {ps : List (Bool × Bool × Nat)} {xs : List Expr}, chkIs c kk n ps xs = true → AndTs (X.suite ad ((ad, oe) :: pn)) i ad (ps.map fun p => p.2.1 != p.1) xs
  | [p], [x], h => .one (i_1 g hz hf E hi hl c1 c2 c3 ck h)
  | p :: q :: ps, x :: y :: xs, h => by
    unfold chkIs at h
    rw [Bool.and_eq_true] at h
    exact .cons (i_1 g hz hf E hi hl c1 c2 c3 ck h.1) (i_s g hz hf E hi hl c1 c2 c3 ck h.2)
  | [], _, h => by unfold chkIs at h; cases h
  | [_], [], h => by unfold chkIs at h; cases h
  | [_], _ :: _ :: _, h => by unfold chkIs at h; cases h
  | _ :: _ :: _, [], h => by unfold chkIs at h; cases h
  | _ :: _ :: _, [_], h => by unfold chkIs at h; cases h
mutual
theorem sS : ∀ (t : T) (s : Stmt), chkS c t s = true → Gd XR CX C k c X W → PassesOwn (model X.prog X.w) X.A X.env X.xe → StX X W → PS X s (tS X.K XR W F0 H0 r0 C t)
  | .set i e, s, h, g, po, sx => by
    unfold chkS at h
    split at h
    · simp only [Bool.and_eq_true] at h
      exact s_set (nb_of h.1.2) ((s_asg g h.1.1 h.2).1 (nb_of h.1.2))
    · cases h
  | .setO i e, s, h, g, po, sx => by
    unfold chkS at h
    split at h
    · simp only [Bool.and_eq_true] at h
      exact s_setO ((s_asg g h.1.1 h.2).2 h.1.2)
    · cases h
  | .unp tg e, s, h, g, po, sx => by
    unfold chkS at h
    split at h
    · rename_i t v pos
      simp only [Bool.and_eq_true] at h
      obtain ⟨⟨⟨⟨h1, h2⟩, h3⟩, h4⟩, h5⟩ := h
      have h3 := nb_of h3
      refine s_unp (nb_of h4) (ps_asg (sE e v h5 g).1 (sTg tg t h2 g) ?_ ?_ ?_)
      · rw [sole]
        cases t with
        | Tuple _ _ _ => cases v <;> rfl
        | _ => cases h1
      · cases v <;> first | (cases t <;> rfl) | cases h3
      · cases t with
        | Tuple _ _ _ => rfl
        | _ => cases h1
    · cases h
  | .frz _, s, h, g, po, sx => by unfold chkS at h; cases h
  | .app o e, s, h, g, po, sx => by
    unfold chkS at h
    split at h
    · split at h
      · simp only [Bool.and_eq_true, decide_eq_true_eq] at h
        obtain ⟨⟨⟨⟨⟨rfl, h1⟩, h2⟩, h3⟩, h4⟩, h5⟩ := h
        obtain ⟨g1, g2, g3, g4⟩ := g.slot h1
        exact s_app g1 g2 g3 g4 h2 h3 (nb_of h4) (sE e _ h5 g).1
      · cases h
    · cases h
  | .ext o e, s, h, g, po, sx => by
    unfold chkS at h
    split at h
    · split at h
      · simp only [Bool.and_eq_true, decide_eq_true_eq] at h
        obtain ⟨⟨⟨⟨⟨rfl, h1⟩, h2⟩, h3⟩, h4⟩, h5⟩ := h
        obtain ⟨g1, g2, g3, g4⟩ := g.slot h1
        exact s_ext g1 g2 g3 g4 h2 h3 ((sE e _ h5 g).2 h4)
      · cases h
    · cases h
  | .sub o j e, s, h, g, po, sx => by
    unfold chkS at h
    split at h
    · split at h
      · simp only [Bool.and_eq_true] at h
        obtain ⟨⟨⟨⟨⟨⟨h1, h2⟩, h3⟩, h4⟩, h5⟩, h6⟩, h7⟩ := h
        obtain ⟨g1, g2, g3, g4⟩ := g.slot h1
        exact s_sub g1 g2 g3 g4 (nb_of h4) (nb_of h5) (nb_of h2) (nb_of h3) (nb_of h4) (sE e _ h6 g).1 (sE j _ h7 g).1
      · cases h
    · cases h
  | .aug i o e, s, h, g, po, sx => by
    unfold chkS at h
    split at h
    · simp only [Bool.and_eq_true, decide_eq_true_eq] at h
      obtain ⟨⟨⟨h1, rfl⟩, h3⟩, h4⟩ := h
      obtain ⟨g1, g2, g3⟩ := g.put h1
      exact s_aug (g.N ▸ g.nd) g1 g2 g3 (nb_of h3) (sE e _ h4 g).1
    · cases h
  | .exp e, s, h, g, po, sx => by
    unfold chkS at h
    split at h
    · simp only [Bool.and_eq_true] at h
      exact s_exp (ps_expr (sE e _ h.2 g).1 (sw_none (nb_of h.1)))
    · cases h
  | .ife b ts us, s, h, g, po, sx => by
    unfold chkS at h
    split at h
    · simp only [Bool.and_eq_true] at h
      exact s_if (sT b _ h.1.1 g) (sB ts _ h.1.2 g po sx) (sB us _ h.2 g po sx)
    · cases h
  | .for_ tg it ts, s, h, g, po, sx => by
    unfold chkS at h
    split at h
    · simp only [Bool.and_eq_true] at h
      obtain ⟨⟨⟨h1, h2⟩, h3⟩, h4⟩ := h
      exact s_for po g.calm (sI false it _ _ h2 g) (sTg tg _ h1 g) (sB ts _ h4 g po sx) (nb_of h3)
    · cases h
  | .whl b ts, s, h, g, po, sx => by
    unfold chkS at h
    split at h
    · simp only [Bool.and_eq_true] at h
      exact s_while po (sT b _ h.1 g) (sB ts _ h.2 g po sx)
    · cases h
  | .ret e, s, h, g, po, sx => by
    unfold chkS at h
    split at h
    · simp only [Bool.and_eq_true] at h
      exact s_ret (nb_of h.1) (sE e _ h.2 g).1
    · cases h
  | .ret0, s, h, g, po, sx => by
    unfold chkS at h
    split at h
    · exact s_ret0
    · cases h
  | .cnt, s, h, g, po, sx => by
    unfold chkS at h
    split at h
    · exact s_cnt
    · cases h
  | .brk, s, h, g, po, sx => by
    unfold chkS at h
    split at h
    · exact s_brk
    · cases h
  | .pas, s, h, g, po, sx => by
    unfold chkS at h
    split at h
    · exact s_pas
    · cases h
  | .appx o e, s, h, g, po, sx => by
    unfold chkS at h
    split at h
    · simp only [Bool.and_eq_true, decide_eq_true_eq] at h
      obtain ⟨⟨⟨⟨⟨⟨⟨rfl, h1⟩, h2⟩, h3⟩, h4⟩, h5⟩, h6⟩, h7⟩ := h
      exact s_appx h1 h2 h3 (nb_of h4) (nb_of h5) (sE o _ h6 g).1 (sE e _ h7 g).1
    · cases h
  | .subx o j e, s, h, g, po, sx => by
    unfold chkS at h
    split at h
    · simp only [Bool.and_eq_true] at h
      obtain ⟨⟨⟨⟨⟨⟨⟨h1, h2⟩, h3⟩, h4⟩, h5⟩, h6⟩, h7⟩, h8⟩ := h
      exact s_subx (nb_of h3) (nb_of h4) (nb_of h5) (nb_of h1) (nb_of h2) (sE o _ h7 g).1 (sE e _ h6 g).1 (sE j _ h8 g).1
    · cases h
  | .forc tg e ts, s, h, g, po, sx => by
    unfold chkS at h
    split at h
    · simp only [Bool.and_eq_true] at h
      obtain ⟨⟨⟨⟨h1, h2⟩, h3⟩, h4⟩, h5⟩ := h
      exact s_forc po g.calm (nb_of h2) (sE e _ h3 g).1 (sTg tg _ h1 g) (sB ts _ h5 g po sx) (nb_of h4)
    · cases h
  | .rse k e, s, h, g, po, sx => by
    unfold chkS at h
    split at h
    · simp only [Bool.and_eq_true] at h
      obtain ⟨⟨⟨h1, h2⟩, h3⟩, h4⟩ := h
      obtain ⟨g1, g2, _⟩ := g.gl h1
      unfold Ck.gl at h1
      rw [Bool.and_eq_true, decide_eq_true_eq, decide_eq_true_eq] at h1
      obtain ⟨cv, c1, c2, c3⟩ := g.ex
      obtain ⟨A, e1, e2⟩ := c1 _ _ h1.2
      exact s_rse g.calm sx.t e1 g1 g2 h2 (nb_of h3) (sE e _ h4 g).1
    · cases h
  | .tryr e k i h0, s, h, g, po, sx => by
    unfold chkS at h
    split at h
    · split at h
      · rename_i n xs _ _ _ _ _ _ _ _ _ _
        simp only [Bool.and_eq_true, decide_eq_true_eq] at h
        obtain ⟨⟨⟨⟨⟨⟨⟨h1, h2⟩, h3⟩, h4⟩, h5⟩, h6⟩, h7⟩, h8⟩ := h
        obtain ⟨g1, g2, _⟩ := g.gl h1
        unfold Ck.gl at h1
        rw [Bool.and_eq_true, decide_eq_true_eq, decide_eq_true_eq] at h1
        obtain ⟨cv, c1, c2, c3⟩ := g.ex
        obtain ⟨A, e1, e2⟩ := c1 _ _ h1.2
        have hi := h2
        rw [← g.N] at hi
        have hl := h3
        rw [← g.sc] at hl
        exact s_tryr sx.s sx.f sx.t e1 g1 g2 (g.N ▸ g.nd) hi hl (nb_of h4) (fun W' pn xe t => (sE e _ h5 (g.tr t)).1) (fun ad oe pn hz hf => i_s g hz hf e1.f hi hl c1 c2 c3 e2 h6) h7 h8
      · cases h
    · cases h
termination_by t => sizeOf t
theorem sB : ∀ (ts : List T) (ss : List Stmt), chkB c ts ss = true → Gd XR CX C k c X W → PassesOwn (model X.prog X.w) X.A X.env X.xe → StX X W → PSs X ss (tB X.K XR W F0 H0 r0 C ts)
  | [], ss, h, g, po, sx => by
    unfold chkB at h
    cases ss with
    | nil => exact b_nil
    | cons _ _ => cases h
  | t :: ts, ss, h, g, po, sx => by
    unfold chkB at h
    split at h
    · exact b_frz (sB ts ss h g po sx)
    · split at h
      · rw [Bool.and_eq_true] at h
        exact b_cons (sS t _ h.1 g po sx) (sB ts _ h.2 g po sx)
      · cases h
termination_by ts => sizeOf ts
end
end
end G
end S_GSt3
section S_GFn
set_option linter.all false
set_option maxRecDepth 100000
set_option maxHeartbeats 2000000
/-! GFn: defs. -/
namespace G
open PySem PySem.Spec PyProof.Rows L2

section
variable {P : Program} {w : World} {K : Fg} {mg : Str → Option Value} {base : Heap} {CX : CXT}
/-- a def's promise from its body's -/
theorem fnG_of {n : Nat} {x qual : Str} {st : Stmt} {fa : Addr} {fd : FuncData} {N ps : List Str} {sp : Sp} (Fu : Fun K x qual st fa fd) (sc : FnScope N ps (defScope st)) (ln : ∀ vs H Q E, sp vs H Q E → vs.length = ps.length)
    (body : ∀ (cdv : Value) (A : Around) (out : List Env) (s : Shared) (H : Hp) (vs : List V) (Q : VK) (E : XK), A.guards = some [] → Room n (A.deeper (envOfC qual (defScope st) s.heap.objs.size fa cdv)) → sp vs H Q E →
      ∃ t, PSs (cxOf CX P w K mg base N qual (defScope st) fa cdv A out s H E) (defBody st) t ∧ t ⟨fun _ H' => Q .non H', Q, fun _ _ => False, fun _ _ => False⟩ (start N vs) H) : FnG P w K mg base CX (n + 1) fa fd ps sp := by
  obtain ⟨_, _, _, _, _, _, cdv, _, _, rfl, look, code⟩ := Fu.ex
  constructor
  · exact ln
  · intro A out s H args us vs Q E gd room e0 bnd rel prom
    have same : vs.length = ps.length := ln _ _ _ _ prom
    have inK : K.In s.heap := e0.mod.kin.keeps (fun b o z => (e0.bs b o z).1)
    have noL : s.heap.NoLimit := e0.mod.nolimit.keeps (fun b o z => (e0.bs b o z).1)
    have kinds : ∀ y ∈ ps.zip us, (defScope st).names.lookup y.1 = some .local ∨
        ((defScope st).names.lookup y.1 = some .cell ∧ ((cellsFrom (s.heap.objs.size + 1) (defScope st).names []).lookup y.1).isSome = true) := by
      rintro ⟨nm, u⟩ mem
      have here := sc.par nm (List.of_mem_zip mem).1
      exact here.imp id (fun z => ⟨z, PySem.W.cellsFrom_some _ _ _ (.inl z)⟩)
    apply codeAny_call_function room.depth (inK _ _ look) rfl sc.co sc.gen rfl (PySem.W.codeRec_of inK code)
    apply bnd
    apply wpAny_newFunctionEnv_cells sc.kind kinds
    rintro env rfl s1 inCall
    constructor
    · exact noL.keeps inCall.toInCall.keep
    · apply codeAny_func
      obtain ⟨t, hPS, ht⟩ := body cdv A out s H vs Q E gd (room.deeper _) prom
      have I0 := inv_start (CX := CX) (P := P) (w := w) (E := E) sc room.hd e0 same rel inCall
      apply wpAny_mono (hPS.run [] s1 _ H _ I0 ht)
      · intro fl s' res
        cases fl
        · obtain ⟨_, H', J, q⟩ := res
          exact ⟨.non, H', J.os, J.bare, J.base, J.hok, rfl, q⟩
        · exact res.elim fun _ z => z.elim fun _ z => z.2.elim
        · exact res.elim fun _ z => z.elim fun _ z => z.2.elim
        · obtain ⟨v, _, H', J, rv, q⟩ := res
          exact ⟨v, H', J.os, J.bare, J.base, J.hok, rv, q⟩
      · exact fun _ _ z => z
end
end G
end S_GFn
section S_GEnd
set_option linter.all false
set_option maxRecDepth 100000
set_option maxHeartbeats 2000000
/-! GEnd: the law's call. -/
namespace G
open PySem PySem.Spec PyProof.Rows L2

section
variable {P : Program} {w : World} {K : Fg} {mg mb : Str → Option Value} {CX : CXT} {n : Nat} {fa a : Addr} {fd : FuncData} {x : Str} {sp : Sp} {s : Shared} {us : List Value} {ns : List Int}
/-- what is wanted behind the law's call -/
def Told (s : Shared) : Result → Shared → Prop := fun r t => r = .ok (.ret (.bool true)) ∧ OldK s.heap t.heap ∧ t.os = s.os ∧ AllBare t.gens
/-- the state where nothing but the script may be tracked -/
structure Ent (K : Fg) (P : Program) (w : World) (s : Shared) (a : Addr) (us : List Value) (ns : List Int) (H : Hp) : Prop where
  only : Only H
  lst : SqL K H a (ns.map V.int)
  hok : HOk P w H s.heap
  one : ∀ b, H b ≠ none → b = a
  out : H a ≠ none → K.lookup a = none
theorem ent_call {H : Hp} (KX : K.In s.heap) (g : s.heap.Ns mainGlobals mg) (b : s.heap.Ns builtinsNs mb) (bb : ∀ x : Str, x ≠ "__name__" → mb x = bootBuiltins x) (nl : s.heap.NoLimit) (hg : s.gens = #[])
    (ha : s.heap.get? a = some ⟨.type "list", none, .seq us.toArray, #[]⟩) (room : Room n callerA) (F : ∀ base : Heap, K.In base → base.Ns mainGlobals mg → FnG P w K mg base CX n fa fd [x] sp) (bind : ∀ (s : Shared) (u : Value), BindsTo s fd ⟨[u], []⟩ [(x, u)])
    (prom : sp [.ref a] H (fun v _ => v = .bl true) fun _ _ _ => False) (noX : ∀ e t, CX [] H s (fun _ _ _ => False) e t → False) (E : Ent K P w s a us ns H) : codeAny (model P w) callerA (.call (.ref fa) ⟨[.ref a], []⟩) (Told s) s := by
  have free : ∀ {c : Addr} {o : Obj}, s.heap.get? c = some o → (c = a → False) → H c = none := by
    intro c o _ ne
    cases z : H c with
    | none => rfl
    | some u => exact (ne (E.one c (by simp [z]))).elim
  have kept : ∀ {c : Addr} {o : Obj}, s.heap.get? c = some o → H c = none → (hidT s.heap H).get? c = some o := fun z1 z2 => hidT_get z1 z2
  have nosp : ∀ {c : Addr} {m : Str → Option Value}, s.heap.Ns c m → (hidT s.heap H).Ns c m := by
    rintro c m ⟨o, es, ep, z1, z2, z3⟩
    refine ⟨o, es, ep, kept z1 (free z1 ?_), z2, z3⟩
    rintro rfl
    rw [ha] at z1
    obtain rfl := Option.some.inj z1
    exact Data.noConfusion z2
  have inB : K.In (hidT s.heap H) := by
    intro c o z
    cases q : H c with
    | none => exact kept (KX c o z) q
    | some u =>
      obtain rfl := E.one c (by simp [q])
      have := E.out (by simp [q])
      rw [z] at this
      cases this
  have md : Mod K mg (hidT s.heap H) := by
    obtain ⟨mc, c1, c2⟩ := nl
    exact ⟨inB, nosp g, ⟨mb, nosp b, bb⟩, ⟨mc, nosp c1, c2⟩⟩
  have e0 : Env0 P w K mg (hidT s.heap H) callerA [] s H := by
    refine ⟨rfl, md, fun _ _ z => of_hidT z, ?_, trivial, ?_, E.hok, .of_eq hg⟩
    · exact Nat.le_of_eq (hidT_size _ _)
    · rintro _ ⟨⟩
  have called := (F _ inB (nosp g)).run callerA [] s H ⟨[.ref a], []⟩ [.ref a] [.ref a] _ _ rfl room e0 (bind s (.ref a)) (.cons rfl .nil) prom
  refine codeAny_mono called ?_
  intro r t res
  rcases r with e | fl
  · exact (noX e t res).elim
  · cases fl with
    | ret u =>
      obtain ⟨v, H', z1, z2, z3, z4, z5, z6⟩ := res
      subst z6
      cases z5
      refine ⟨rfl, OldK.of_keep ?_, z1, z2⟩
      intro c o here
      rcases E.only c with q | ⟨ob, ys, q⟩
      · exact z3.keep c o here q (fun m => nomatch m) (fun m => nomatch m)
      · have old := (E.hok c _ q).1
        rw [here] at old
        cases old
        exact (z4 c _ (z3.frzs c _ _ q)).1
    | _ => exact res.elim
theorem law_callG (KX : K.In s.heap) (g : s.heap.Ns mainGlobals mg) (b : s.heap.Ns builtinsNs mb) (bb : ∀ x : Str, x ≠ "__name__" → mb x = bootBuiltins x) (nl : s.heap.NoLimit) (hg : s.gens = #[])
    (ha : s.heap.get? a = some ⟨.type "list", none, .seq us.toArray, #[]⟩) (hi : IntsAre us ns) (hl : ns.length ≤ sizeLine) (room : Room n callerA) (F : ∀ base : Heap, K.In base → base.Ns mainGlobals mg → FnG P w K mg base CX n fa fd [x] sp) (bind : ∀ (s : Shared) (u : Value), BindsTo s fd ⟨[u], []⟩ [(x, u)])
    (prom : ∀ H : Hp, Only H → SqL K H a (ns.map V.int) → sp [.ref a] H (fun v _ => v = .bl true) fun _ _ _ => False) (noX : ∀ H e t, CX [] H s (fun _ _ _ => False) e t → False) : codeAny (model P w) callerA (.call (.ref fa) ⟨[.ref a], []⟩) (Told s) s := by
  have rel := vals_ints hi
  have same := hi.length
  have main : ∀ H, Ent K P w s a us ns H → codeAny (model P w) callerA (.call (.ref fa) ⟨[.ref a], []⟩) (Told s) s := fun H E => ent_call KX g b bb nl hg ha room F bind (prom H E.only E.lst) (fun e t => noX H e t) E
  cases q : K.lookup a with
  | none =>
    apply main fun c => if c = a then some (.frz ⟨.type "list", none, .seq us.toArray, #[]⟩ (.lst (ns.map V.int))) else none
    have at_ : ∀ {c u}, (if c = a then some (HO.frz ⟨.type "list", none, .seq us.toArray, #[]⟩ (.lst (ns.map V.int))) else none) = some u → c = a ∧ u = .frz ⟨.type "list", none, .seq us.toArray, #[]⟩ (.lst (ns.map V.int)) := by
      intro c u z
      split at z
      · next h => exact ⟨h, (Option.some.inj z).symm⟩
      · cases z
    constructor
    · intro c
      by_cases h : c = a
      · exact .inr ⟨_, _, if_pos h⟩
      · exact .inl (if_neg h)
    · exact .inl (.inr ⟨_, if_pos rfl⟩)
    · intro c u z
      obtain ⟨rfl, rfl⟩ := at_ z
      refine ⟨ha, ?_, us, _, rel, ha⟩
      rw [List.length_map]
      exact hl
    · intro c z
      by_cases h : c = a
      · exact h
      · exact (z (if_neg h)).elim
    · exact fun _ => q
  | some o =>
    have z := KX a o q
    rw [ha] at z
    obtain rfl := Option.some.inj z
    apply main fun _ => none
    refine ⟨fun _ => .inl rfl, .inr ⟨_, us.toArray, _, q, rfl, rfl, rfl, ?_, ?_⟩, fun _ _ y => (nomatch y), fun _ y => (y rfl).elim, fun y => (y rfl).elim⟩
    · rw [List.size_toArray, same]
      exact hl
    · simpa using rel
end
/-- the goal that the head leaves -/
theorem walk_ofG {l : PySem.W.OpenLaw} {m n : Nat} {q : Program} {loose : List Str} {XP : (Str → Option Value) → Heap → Prop} {YP : World → Heap → Prop} {d : DefRec} {K : Params → Fg} {CX : World → CXT} {sp : World → Sp} {x : Str}
    (most : l.most = some m) (small : m ≤ sizeLine) (nod : d.params.defaults = []) (room : Room n callerA) (hY : ∀ (w : World) (h : Heap), YP w h → (K w.params).In h)
    (F : ∀ (w : World) (mg : Str → Option Value) (fa : Addr) (h : Heap), (K w.params).In h → h.Ns mainGlobals mg → mg d.name = some (.ref fa) →
      ∃ fd : FuncData, (∀ (s : Shared) (u : Value), BindsTo s fd ⟨[u], []⟩ [(x, u)]) ∧ ∀ base : Heap, (K w.params).In base → base.Ns mainGlobals mg → FnG l.prog w (K w.params) mg base (CX w) n fa fd [x] (sp w))
    (prom : ∀ (w : World) (H : Hp) (a : Addr) (ns : List Int), ns.length ≤ m → Only H → SqL (K w.params) H a (ns.map V.int) → sp w [.ref a] H (fun v _ => v = .bl true) fun _ _ _ => False)
    (noX : ∀ (w : World) (H : Hp) (s : Shared) (e : Value) (t : Shared), CX w [] H s (fun _ _ _ => False) e t → False) : PySem.W.WalkO q loose XP YP l.row.toRowW d [] (fun f vs => PySem.call f vs) := by
  apply Att.attach_call most nod
  intro w s0 s1 mg mb fa o pm cd doc a us ns G Y ho hd hcd hmg hobj hints hlen hg
  have inK := hY w _ Y
  obtain ⟨fd, bind, FG⟩ := F w mg fa _ inK G.T.g hmg
  exact law_callG inK G.T.g G.T.b G.T.builtins G.T.nolimit hg hobj hints (Nat.le_trans hlen small) room FG bind (fun H h1 h2 => prom w H a ns hlen h1 h2) (fun H e t => noX w H s1 e t)
end G
end S_GEnd
section S_GMod
set_option linter.all false
set_option maxRecDepth 100000
set_option maxHeartbeats 2000000
/-! GMod: all the defs of a text. -/
namespace G
open PySem PySem.Spec PyProof.Rows L2

/-! ### the checks of a def -/
def kindB : ScopeKind → Bool
  | .function => true
  | _ => false
def scOk (N ps : List Str) (sc : Scope) : Bool := kindB sc.kind && !sc.isCoroutine && !sc.isGenerator && decide N.Nodup && decide (N.take ps.length = ps) &&
  ps.all (fun x => decide (sc.names.lookup x = some .local) || decide (sc.names.lookup x = some .cell)) && sc.names.all (fun y => decide (y.2 ≠ .free))
theorem sc_ok {N ps : List Str} {sc : Scope} (h : scOk N ps sc = true) : FnScope N ps sc := by
  unfold scOk at h
  simp only [Bool.and_eq_true, List.all_eq_true, decide_eq_true_eq, Bool.or_eq_true] at h
  obtain ⟨⟨⟨⟨⟨⟨h1, h2⟩, h3⟩, h4⟩, h5⟩, h6⟩, h7⟩ := h
  refine ⟨?_, by simpa using h2, by simpa using h3, h4, h5, h6, h7⟩
  unfold kindB at h1
  split at h1
  · assumption
  · cases h1
def nmOk (N : List Str) : Bool := N.all fun x => !(x == ("__debug__" : Str)) && !(x == ("__classdict__" : Str))
def ckOf (N : List Str) (sc : Scope) (tab : List (Str × Gk)) (sub : SubT) : Ck := ⟨N, sc, fun _ => true, tab, sub⟩
def strsX : List (List Nat) → List Expr → Bool
  | [], [] => true
  | s :: ss, .Constant (.str x) _ _ :: xs => decide (x = toS s) && strsX ss xs
  | _, _ => false
/-- the body returns these texts -/
def cstB (ss : List (List Nat)) : List Stmt → Bool
  | [.Return (some (.Tuple xs _ _)) _] => decide (xs.length ≤ 1000) && strsX ss xs
  | _ => false
def cstOk (o : Option (List (List Nat))) (ps : List Str) (b : List Stmt) : Bool := match o with
  | none => true
  | some ss => ps.isEmpty && cstB ss b
def chkD (tab : List (Str × Gk)) (sub : SubT) (N ps : List Str) (f : Fn) (o : Option (List (List Nat))) (st : Stmt) : Bool :=
  scOk N ps (defScope st) && nmOk N && decide (f.arity = ps.length) && decide (f.slots = N.length) && chkB (ckOf N (defScope st) tab sub) f.body (defBody st) && cstOk o ps (defBody st)

theorem a_strs {X : L2.Cx} : ∀ {ss : List (List Nat)} {xs : List Expr}, strsX ss xs = true → PA X xs (fun σ H Q => Q (strV ss) H)
  | [], [], _ => pa_nil
  | s :: ss, x :: xs, h => by
    cases x with
    | Constant k j p =>
      cases k with
      | str y =>
        have h : (decide (y = toS s) && strsX ss xs) = true := h
        rw [Bool.and_eq_true, decide_eq_true_eq] at h
        obtain ⟨rfl, h2⟩ := h
        exact pa_imp (pa_cons pe_str (a_strs h2)) fun σ H Q q => q
      | _ => cases h
    | _ => cases h
  | [], _ :: _, h => by cases h
  | _ :: _, [], h => by cases h
theorem strs_len : ∀ {ss : List (List Nat)} {xs : List Expr}, strsX ss xs = true → ss.length = xs.length
  | [], [], _ => rfl
  | s :: ss, x :: xs, h => by
    cases x with
    | Constant k j p =>
      cases k with
      | str y =>
        have h : (decide (y = toS s) && strsX ss xs) = true := h
        rw [Bool.and_eq_true] at h
        rw [List.length_cons, List.length_cons, strs_len h.2]
      | _ => cases h
    | _ => cases h
  | [], _ :: _, h => by cases h
  | _ :: _, [], h => by cases h
theorem Pass0 {X : L2.Cx} (σ : L2.St) : PassesAt (L2.CX X.prog X.w) X σ (WE W0 σ) := passAt takes0 σ

theorem RpXL.len {K : Fg} {w : Bool} {F H : Hp} {r : List Addr} : ∀ {vs : List V} {ds : List D}, RpXL K w F H r vs ds → vs.length = ds.length
  | _, _, .nil => rfl
  | _, _, .cons _ t => congrArg (· + 1) (RpXL.len t)
theorem RpXL.at {K : Fg} {F H : Hp} {r : List Addr} : ∀ {vs : List V} {ds : List D}, RpXL K false F H r vs ds → ∀ (j : Nat) (d : D), ds[j]? = some d → ∃ v, vs[j]? = some v ∧ Rp K F r v d
  | _, _, .nil, _, _, h => by simp at h
  | _, _, .cons h1 t, 0, d, h => by
    simp at h
    subst h
    exact ⟨_, rfl, h1⟩
  | _, _, .cons h1 t, j + 1, d, h => RpXL.at t j d (by simpa using h)
section
variable {P : Program} {w : World} {K : Fg} {mg : Str → Option Value} {XR : XRel} {fns : Nat → Option Fn} {glob : Nat → Option D} {cst : Nat → Option (List (List Nat))} {wf : Nat} {tab : List (Str × Gk)} {sub : SubT}
def Cn (fns : Nat → Option Fn) (glob : Nat → Option D) (cst : Nat → Option (List (List Nat))) (wf n : Nat) : G.Cx := ⟨evF fns glob cst wf n, glob, wf, if n = 0 then fun _ => none else cst⟩
/-- what is known of a def -/
def DefF (K : Fg) (mg : Str → Option Value) (x : Str) (ps : List Str) (st : Stmt) : Prop := ∃ fa fd qual, mg x = some (.ref fa) ∧ Fun K x qual st fa fd ∧ Binds K fd ps []
/-- what is known of a module's name -/
def NameF (K : Fg) (mg : Str → Option Value) (fns : Nat → Option Fn) (glob : Nat → Option D) (cst : Nat → Option (List (List Nat))) (tab : List (Str × Gk)) (sub : SubT) (x : Str) : Gk → Prop
  | .fn i => ∃ N ps f st, fns i = some f ∧ DefF K mg x ps st ∧ chkD tab sub N ps f (cst i) st = true
  | .con i => ∃ v u, mg x = some u ∧ RelV v u ∧ ∀ d F r, glob i = some d → Rp K F r v d
  | .blt => mg x = none ∧ x ≠ "__name__"
  | .exc _ => True
  | .bty _ => True
def tabOk (tab : List (Str × Gk)) : Bool := tab.all fun p => !(p.1 == ("__debug__" : Str)) && (p.1 != ("super" : Str))
theorem lookup_mem {α β : Type} [BEq α] [LawfulBEq α] {x : α} {y : β} : ∀ {l : List (α × β)}, l.lookup x = some y → (x, y) ∈ l
  | (a, b) :: l, h => by
    rw [List.lookup_cons] at h
    cases e : x == a with
    | true =>
      rw [e] at h
      cases h
      rw [eq_of_beq e]
      exact List.mem_cons_self
    | false =>
      rw [e] at h
      exact List.mem_cons_of_mem _ (lookup_mem h)
/-- one def, its callees being right -/
theorem text_step (ht : tabOk tab = true) (hF : ∀ x g, (x, g) ∈ tab → NameF K mg fns glob cst tab sub x g) (he : ExOk XR K mg tab sub) (n : Nat) (base : Heap)
    (ih : ∀ (x : Str) (i : Nat), (x, Gk.fn i) ∈ tab → ∃ fa fd ps, mg x = some (.ref fa) ∧ PySem.W.keepIn K (.ref fa) = true ∧ Binds K fd ps [] ∧
      FnG P w K mg base (L2.CX P w) n fa fd ps (spF K XR (Cn fns glob cst wf n) i) ∧ ∀ ss, (Cn fns glob cst wf n).cst i = some ss → ps = [] ∧ FnG P w K mg base (L2.CX P w) n fa fd ps (spC ss))
    {x : Str} {i : Nat} {N ps : List Str} {f : Fn} {st : Stmt} {fa : Addr} {fd : FuncData} {qual : Str} (e1 : fns i = some f) (g2 : Fun K x qual st fa fd) (e2 : chkD tab sub N ps f (cst i) st = true) :
    FnG P w K mg base (L2.CX P w) (n + 1) fa fd ps (spF K XR (Cn fns glob cst wf (n + 1)) i) ∧ ∀ ss, (Cn fns glob cst wf (n + 1)).cst i = some ss → ps = [] ∧ FnG P w K mg base (L2.CX P w) (n + 1) fa fd ps (spC ss) := by
  unfold chkD at e2
  simp only [Bool.and_eq_true, decide_eq_true_eq] at e2
  obtain ⟨⟨⟨⟨⟨k1, k2⟩, k3⟩, k4⟩, k5⟩, k6⟩ := e2
  have sc := sc_ok k1
  refine ⟨?_, fun ss h => ?_⟩
  · refine fnG_of g2 sc (fun vs H Q E h => ?_) fun cdv A out s H vs Q E gd room prom => ?_
    · obtain ⟨F, r, S, ds, R, t, h⟩ := h
      have h : PostE K XR _ F H r [] (match fns i with | none => Rs.stk | some fn => if ds.length = fn.arity then (evB (Cn fns glob cst wf n) fn.body (slots0 fn ds) S).out else .stk) _ := h
      rw [e1] at h
      by_cases hl : ds.length = f.arity
      · rw [t.len, hl, k3]
      · dsimp only at h
        rw [if_neg hl] at h
        exact h.elim
    · obtain ⟨F, r, S, ds, R, t, h⟩ := prom
      have h : PostE K XR (fun c d _ H => E c d H) F H r [] (match fns i with | none => Rs.stk | some fn => if ds.length = fn.arity then (evB (Cn fns glob cst wf n) fn.body (slots0 fn ds) S).out else .stk) _ := h
      rw [e1] at h
      dsimp only at h
      by_cases hl : ds.length = f.arity
      · rw [if_pos hl] at h
        have gd' : (A.deeper (envOfC qual (defScope st) s.heap.objs.size fa cdv)).guards = some [] := gd
        have G0 : Gd XR (L2.CX P w) (Cn fns glob cst wf n) n (ckOf N (defScope st) tab sub) (cxOf (L2.CX P w) P w K mg base N qual (defScope st) fa cdv A out s H E) (fun c d _ H => E c d H) := by
          refine ⟨rfl, gd', room, rfl, rfl, rfl, sc.nd, fun x hx => ?_, fun σ => passAt (takes_of rfl rfl rfl rfl) σ, fun X' σ h1 h2 => ?_, fun X' W' h1 h2 h3 σ => ?_, ?_, fun x g hx => ?_⟩
          · have z := List.all_eq_true.mp k2 x hx
            simpa using z
          · have h1 : X'.prog = P := h1
            have h2 : X'.w = w := h2
            rw [← h1, ← h2]
            exact Pass0 σ
          · have h1 : X'.prog = P := h1
            have h2 : X'.w = w := h2
            rw [← h1, ← h2]
            exact passAt h3 σ
          · exact he
          · have mem := lookup_mem hx
            have z := List.all_eq_true.mp ht _ mem
            simp only [Bool.and_eq_true] at z
            refine ⟨by simpa using z.1, z.2, ?_⟩
            cases g with
            | fn j => exact ih x j mem
            | con j => exact hF x _ mem
            | blt => exact hF x _ mem
            | exc j => trivial
            | bty j => trivial
        refine ⟨_, sB (F0 := F) (H0 := H) (r0 := r) f.body _ k5 G0 (passes_of rfl) ⟨rfl, rfl, takes_of rfl rfl rfl rfl⟩, F, r, F, r, slots0 f ds, S, ⟨R, ?_, .refl, fun j es a h1 h2 => ?_, fun _ _ h => h, Pre.refl _⟩, ?_⟩
        · -- the slots at the entry
          have lenV : vs.length = ds.length := t.len
          have hpn : ps.length ≤ N.length := by
            have := congrArg List.length sc.pre
            rw [List.length_take] at this
            omega
          have atv : ∀ (j : Nat) (y : Sl), (slots0 f ds)[j]? = some y → y ≠ .nil → ∃ d, ds[j]? = some d ∧ y = .v d := fun j y hy hn => by
            unfold slots0 at hy
            by_cases hj : j < ds.length
            · rw [List.getElem?_append_left (by rw [List.length_map]; exact hj), List.getElem?_map, List.getElem?_eq_getElem hj] at hy
              cases hy
              exact ⟨_, List.getElem?_eq_getElem hj, rfl⟩
            · rw [List.getElem?_append_right (by rw [List.length_map]; omega), List.getElem?_replicate] at hy
              split at hy
              · cases hy
                exact absurd rfl hn
              · cases hy
          refine ⟨?_, fun j d hj => ?_, fun j es hj => ?_, fun i j es fs a h1 h2 h3 h4 => ?_⟩
          · unfold slots0 L2.start
            rw [List.length_append, List.length_append, List.length_map, List.length_map, List.length_replicate, List.length_replicate, k4, lenV]
          · obtain ⟨d', e1, e2⟩ := atv j _ hj (by intro z; cases z)
            cases e2
            obtain ⟨v, e3, e4⟩ := t.at j d e1
            refine ⟨v, ?_, e4⟩
            obtain ⟨hjl, _⟩ := List.getElem?_eq_some_iff.mp e3
            unfold L2.start
            rw [List.getElem?_append_left (by rw [List.length_map]; exact hjl), List.getElem?_map, e3]
            rfl
          · obtain ⟨d', _, e2⟩ := atv j _ hj (by intro z; cases z)
            cases e2
          · obtain ⟨d', _, e2⟩ := atv i _ h1 (by intro z; cases z)
            cases e2
        · unfold slots0 at h1
          by_cases hj : j < ds.length
          · rw [List.getElem?_append_left (by rw [List.length_map]; exact hj), List.getElem?_map, List.getElem?_eq_getElem hj] at h1
            cases h1
          · rw [List.getElem?_append_right (by rw [List.length_map]; omega), List.getElem?_replicate] at h1
            split at h1 <;> cases h1
        · -- the body's end
          cases hb : evB (Cn fns glob cst wf n) f.body (slots0 f ds) S with
          | nx sl S' =>
            rw [hb] at h
            exact fun F' H' r' σ' J => h F' H' r' J.e J.R _ .non
          | ret d S' =>
            rw [hb] at h
            exact fun F' H' r' e R' v hv => h F' H' r' e R' v hv
          | exc c x sl S' =>
            rw [hb] at h
            exact fun F' H' r' σ' cls d J z => h F' H' r' cls d J.e J.R z
          | brk _ _ => rw [hb] at h; exact h.elim
          | cnt _ _ => rw [hb] at h; exact h.elim
          | stk => rw [hb] at h; exact h.elim
      · rw [if_neg hl] at h
        exact h.elim
  · have h : cst i = some ss := h
    rw [h] at k6
    have k7 : (ps.isEmpty && cstB ss (defBody st)) = true := k6
    rw [Bool.and_eq_true, List.isEmpty_iff] at k7
    obtain ⟨rfl, k7⟩ := k7
    refine ⟨rfl, fnG_of g2 sc (fun vs H Q E h => ?_) fun cdv A out s H vs Q E gd room prom => ?_⟩
    · rw [h.1]
      rfl
    · unfold cstB at k7
      split at k7
      · rename_i xs k p pos heq
        rw [Bool.and_eq_true, decide_eq_true_eq] at k7
        rw [heq]
        refine ⟨_, pss_one (ps_ret (pe_tupF (a_strs k7.2))), ?_⟩
        refine ⟨?_, prom.2⟩
        unfold strV
        rw [List.length_map, strs_len k7.2, ← lim_eq]
        unfold lim
        omega
      · cases k7
/-- THE RULE for a text -/
theorem text_ok (ht : tabOk tab = true) (hF : ∀ x g, (x, g) ∈ tab → NameF K mg fns glob cst tab sub x g) (he : ExOk XR K mg tab sub) (n : Nat) : ∀ (base : Heap) (x : Str) (i : Nat), (x, Gk.fn i) ∈ tab → ∃ fa fd ps, mg x = some (.ref fa) ∧ PySem.W.keepIn K (.ref fa) = true ∧ Binds K fd ps [] ∧
    FnG P w K mg base (L2.CX P w) n fa fd ps (spF K XR (Cn fns glob cst wf n) i) ∧ ∀ ss, (Cn fns glob cst wf n).cst i = some ss → ps = [] ∧ FnG P w K mg base (L2.CX P w) n fa fd ps (spC ss) := by
  induction n with
  | zero =>
    intro base x i hm
    obtain ⟨N, ps, f, st, e1, ⟨fa, fd, qual, g1, g2, g3⟩, e2⟩ := hF x _ hm
    refine ⟨fa, fd, ps, g1, g2.kp, g3, ⟨fun vs H Q E h => ?_, fun A out s H args us vs Q E gd room e0 bnd rel prom => ?_⟩, fun ss h => ?_⟩
    · obtain ⟨F, r, S, ds, R, t, h⟩ := h
      exact h.elim
    · obtain ⟨F, r, S, ds, R, t, h⟩ := prom
      exact h.elim
    · cases h
  | succ n ih =>
    intro base x i hm
    obtain ⟨N, ps, f, st, e1, ⟨fa, fd, qual, g1, g2, g3⟩, e2⟩ := hF x _ hm
    have z := text_step (P := P) (w := w) (XR := XR) (wf := wf) ht hF he n base (ih base) e1 g2 e2
    exact ⟨fa, fd, ps, g1, g2.kp, g3, z⟩
end
end G
end S_GMod
section S_GHead
set_option linter.all false
set_option maxRecDepth 100000
set_option maxHeartbeats 2000000
/-! GHead: the head by facts: defs, constants that are data. -/
namespace G
open PySem PySem.Spec PyProof.Rows L2

theorem fun_of {K : Fg} {x qual : Str} {st : Stmt} {f : Addr} {fd : FuncData} (F : FunD K x qual (defArgs st) (defBody st) (defScope st) [] [] f fd) : L2.Fun K x qual st f fd := by
  obtain ⟨⟨oc, od, dV, kV, doc, pm, an, cdv, ct, osl, e, l, c, h, _⟩, k⟩ := F
  rcases h with ⟨_, rfl⟩ | ⟨h, _⟩
  · exact ⟨⟨oc, od, kV, doc, pm, an, cdv, ct, osl, e, l, c⟩, k⟩
  · exact absurd rfl h
/-! ### constants -/
mutual
/-- the value is this datum -/
def dB (K : Fg) : Value → D → Bool
  | .none, .non => true
  | .bool a, .bl b => a == b
  | .int i _, .int j => decide (i = j)
  | .str x _, .str s => decide (x = ⟨s.toArray⟩) && decide (s.length ≤ lim)
  | .ref a, .tup ds => (match K.lookup a with
    | some ⟨.type c, _, .seq its _, _⟩ => decide (c = "tuple") && (decide (its.size ≤ sizeLine) && dBL K its.toList ds)
    | _ => false)
  | .ref a, .lst ds => (match K.lookup a with
    | some ⟨.type c, none, .seq its _, _⟩ => decide (c = "list") && (decide (its.size ≤ sizeLine) && dBL K its.toList ds)
    | _ => false)
  | _, _ => false
def dBL (K : Fg) : List Value → List D → Bool
  | [], [] => true
  | u :: us, d :: ds => dB K u d && (d.pur && dBL K us ds)
  | _, _ => false
end
theorem sq_tup {K : Fg} {a : Addr} {its : Array Value} {c : String} {xs : List V} {od n osl} (q : K.lookup a = some ⟨.type c, od, .seq its n, osl⟩) (h1 : c = "tuple") (h2 : its.size ≤ sizeLine) (h3 : Vals xs its.toList) (H : Hp) : SqT K H a xs :=
  .inr ⟨_, its, n, q, congrArg Value.type h1, rfl, h2, h3⟩
theorem sq_lst {K : Fg} {a : Addr} {its : Array Value} {c : String} {xs : List V} {n osl} (q : K.lookup a = some ⟨.type c, none, .seq its n, osl⟩) (h1 : c = "list") (h2 : its.size ≤ sizeLine) (h3 : Vals xs its.toList) (H : Hp) : SqL K H a xs :=
  .inr ⟨_, its, n, q, congrArg Value.type h1, rfl, rfl, h2, h3⟩
mutual
theorem dB_ok {K : Fg} : ∀ (d : D) (u : Value), dB K u d = true → ∃ v, RelV v u ∧ ∀ F r, Rp K F r v d
  | .non, u, h => by
    cases u with
    | none => exact ⟨.non, rfl, fun F r => .non⟩
    | _ => simp [dB] at h
  | .bl b, u, h => by
    cases u with
    | bool a =>
      simp [dB] at h
      subst h
      exact ⟨.bl a, rfl, fun F r => .bl a⟩
    | _ => simp [dB] at h
  | .int j, u, h => by
    cases u with
    | int i t =>
      simp [dB] at h
      subst h
      exact ⟨.int i, ⟨t, rfl⟩, fun F r => .int i⟩
    | _ => simp [dB] at h
  | .str s, u, h => by
    cases u with
    | str x t =>
      simp only [dB, Bool.and_eq_true, decide_eq_true_eq] at h
      obtain ⟨rfl, h2⟩ := h
      exact ⟨.str ⟨s.toArray⟩, ⟨t, rfl⟩, fun F r => .str s h2⟩
    | _ => simp [dB] at h
  | .tup ds, u, h => by
    cases u with
    | ref a =>
      have h : (match K.lookup a with
        | some ⟨.type c, _, .seq its _, _⟩ => decide (c = "tuple") && (decide (its.size ≤ sizeLine) && dBL K its.toList ds)
        | _ => false) = true := by simpa only [dB] using h
      split at h
      · rename_i c _ its n _ q
        simp only [Bool.and_eq_true, decide_eq_true_eq] at h
        obtain ⟨h1, h2, h3⟩ := h
        obtain ⟨xs, x1, x2⟩ := dBL_ok ds its.toList h3
        exact ⟨.ref a, rfl, fun F r => .tup (sq_tup q h1 h2 x1 F) (x2 F r)⟩
      · cases h
    | _ => simp [dB] at h
  | .lst ds, u, h => by
    cases u with
    | ref a =>
      have h : (match K.lookup a with
        | some ⟨.type c, none, .seq its _, _⟩ => decide (c = "list") && (decide (its.size ≤ sizeLine) && dBL K its.toList ds)
        | _ => false) = true := by simpa only [dB] using h
      split at h
      · rename_i c its n _ q
        simp only [Bool.and_eq_true, decide_eq_true_eq] at h
        obtain ⟨h1, h2, h3⟩ := h
        obtain ⟨xs, x1, x2⟩ := dBL_ok ds its.toList h3
        exact ⟨.ref a, rfl, fun F r => .lst (sq_lst q h1 h2 x1 F) (x2 F r)⟩
      · cases h
    | _ => simp [dB] at h
  | .loc _, u, h => by cases u <;> simp [dB] at h
  | .exc _ _, u, h => by cases u <;> simp [dB] at h
theorem dBL_ok {K : Fg} : ∀ (ds : List D) (us : List Value), dBL K us ds = true → ∃ xs, Vals xs us ∧ ∀ F r, RpL K F r xs ds
  | [], [], _ => ⟨[], .nil, fun _ _ => .nil⟩
  | [], _ :: _, h => by simp [dBL] at h
  | _ :: _, [], h => by simp [dBL] at h
  | d :: ds, u :: us, h => by
    simp only [dBL, Bool.and_eq_true] at h
    obtain ⟨h1, h2, h3⟩ := h
    obtain ⟨v, v1, v2⟩ := dB_ok d u h1
    obtain ⟨xs, x1, x2⟩ := dBL_ok ds us h3
    exact ⟨v :: xs, .cons v1 x1, fun F r => .cons (v2 F r) h2 (x2 F r)⟩
end
/-! ### the hook -/
def gB (K : Fg) (p : Str × D) : Bool := match PySem.W.nsIn K mainGlobals p.1 with
  | some (some u) => dB K u p.2
  | _ => false
abbrev AlX : Type := Bool × He.AlD
def obsX (fa : List He.Fa) (fn : List He.DefD) (cs : List (Str × D)) (xc : Fg → Bool) (K : Fg) : AlX := (cs.all (gB K) && xc K, He.obsD fa fn K)
def valX (fn : List He.DefD) : AlX := (true, He.valD fn)
def SaysX (fa : List He.Fa) (fn : List He.DefD) (cs : List (Str × D)) (xc : Fg → Bool) (K : Fg) : Prop := obsX fa fn cs xc K = valX fn
def obsXG (n : Nat) (fa : List He.Fa) (fn : List He.DefD) (cs : List (Str × D)) (xc : Fg → Bool) (g : Addr → Option Obj) : AlX := obsX fa fn cs xc (He.frG g (He.asD g n))
def hookX (n : Nat) (fa : List He.Fa) (fn : List He.DefD) (cs : List (Str × D)) (xc : Fg → Bool) : PySem.W.Hook where
  α := AlX
  obs := fun s => obsXG n fa fn cs xc s.heap.get?
  val := fun _ => valX fn
  says := fun _ h => ∃ K : Fg, K.In h ∧ SaysX fa fn cs xc K
  of := fun _ _ e => ⟨_, He.frG_in, e⟩
  keeps := fun _ _ _ ⟨K, hK, c⟩ k => ⟨K, PySem.W.Frag.In.keeps hK k, c⟩
theorem obsXG_eq {n : Nat} {fa : List He.Fa} {fn : List He.DefD} {cs : List (Str × D)} {xc : Fg → Bool} {g : Addr → Option Obj} {s : Shared} (h : ∀ a, g a = s.heap.get? a) : obsXG n fa fn cs xc g = (hookX n fa fn cs xc).obs s := by
  have e : g = s.heap.get? := funext h
  rw [e] <;> rfl
section
variable {fa : List He.Fa} {fn : List He.DefD} {cs : List (Str × D)} {xc : Fg → Bool} {K : Fg}
theorem SaysX.d (c : SaysX fa fn cs xc K) : He.SaysD fa fn K := congrArg (fun z : AlX => z.2) c
theorem SaysX.con (c : SaysX fa fn cs xc K) {x : Str} {d : D} (hm : (x, d) ∈ cs) : gB K (x, d) = true := by
  have c1 : (cs.all (gB K) && xc K) = true := congrArg (fun z : AlX => z.1) c
  exact List.all_eq_true.mp (Bool.and_eq_true _ _ ▸ c1).1 _ hm
theorem SaysX.x (c : SaysX fa fn cs xc K) : xc K = true := by
  have c1 : (cs.all (gB K) && xc K) = true := congrArg (fun z : AlX => z.1) c
  exact (Bool.and_eq_true _ _ ▸ c1).2
end
section
variable {P : Program} {w : World} {K : Fg} {mg : Str → Option Value} {h : Heap} {fns : Nat → Option Fn} {glob : Nat → Option D} {cst : Nat → Option (List (List Nat))} {tab : List (Str × Gk)} {sub : SubT}
theorem con_of (X : K.In h) (G : h.Ns mainGlobals mg) {x : Str} {d : D} {i : Nat} (c : gB K (x, d) = true) (hi : glob i = some d) : NameF K mg fns glob cst tab sub x (.con i) := by
  unfold gB at c
  split at c
  · rename_i u q
    obtain ⟨v, v1, v2⟩ := dB_ok d u c
    refine ⟨v, u, PySem.W.mg_of X G q, v1, fun d' F r e => ?_⟩
    rw [hi] at e
    cases e
    exact v2 F r
  · cases c
theorem fn_of' (X : K.In h) (G : h.Ns mainGlobals mg) {x : Str} {st : Stmt} {i : Nat} {N ps : List Str} {f : Fn} {a : Addr} {fd : FuncData} (g : (He.Fa.glo x).ok K = true) (F : FunD K x x (defArgs st) (defBody st) (defScope st) [] [] (He.fAd K (x, none)) fd) (hf : fns i = some f) (k : chkD tab sub N ps f (cst i) st = true)
    (b : ∀ (kV doc pm : Value) (an : Option Addr) (cdv ct : Value) (us : List Value), us.length = ps.length → bindArgs (PySem.W.fnOf x x (defArgs st) (defBody st) (defScope st) .none kV doc pm an cdv ct) ⟨us, []⟩ = pure (ps.zip us)) : NameF K mg fns glob cst tab sub x (.fn i) :=
  ⟨N, ps, f, st, hf, ⟨_, fd, x, He.glo_ok X G g, fun_of F, F.bindsN b⟩, k⟩
end
/-! ### classes -/
/-- the classes told of: an own one by its name, or a built-in type -/
abbrev ClT : Type := List (Nat × (Str × Option String))
def cvT (K : Fg) : Option (Str × Option String) → Value
  | some (x, none) => .ref (He.ga K x)
  | some (_, some T) => .type T
  | none => .none
/-- ec: the classes that are raised; cl: all that are told of -/
def xcB (ec : List (Str × Nat)) (cl : ClT) (sub : SubT) (K : Fg) : Bool :=
  (ec.all fun p => exB K (He.ga K p.1)) && sub.all fun p => decide (PySem.W.kitOne K (cvT K (cl.lookup p.1.1)) (cvT K (cl.lookup p.1.2)) = some p.2)
/-- the errors of own classes -/
def XRt (ec : List (Str × Nat)) (K : Fg) : XRel := fun i _ cls dd _ _ _ => ∃ x, (x, i) ∈ ec ∧ (∀ y, (y, i) ∈ ec → y = x) ∧ cls = .ref (He.ga K x) ∧ dd = none
/-- what the tables must keep -/
def exT (tab : List (Str × Gk)) (ec : List (Str × Nat)) (cl : ClT) : Bool := tab.all fun p => match p.2 with
  | .exc i => decide ((p.1, i) ∈ ec) && (ec.all fun q => decide (q.2 = i → q.1 = p.1)) && decide (cl.lookup i = some (p.1, none))
  | .bty i => (match cl.lookup i with
    | some (x, none) => decide (x = p.1)
    | some (x, some T) => decide (x = p.1) && decide (bootBuiltins x = some (.type T)) && decide (x ≠ "__name__")
    | none => false)
  | _ => true
theorem ex_of {K : Fg} {mg : Str → Option Value} {tab : List (Str × Gk)} {sub : SubT} {ec : List (Str × Nat)} {cl : ClT} (ht : exT tab ec cl = true) (hx : xcB ec cl sub K = true)
    (own : ∀ i x, (i, x, (none : Option String)) ∈ cl → mg x = some (.ref (He.ga K x))) (blt : ∀ i x T, (i, x, some T) ∈ cl → mg x = none) : ExOk (XRt ec K) K mg tab sub := by
  unfold xcB at hx
  rw [Bool.and_eq_true, List.all_eq_true, List.all_eq_true] at hx
  obtain ⟨h1, h2⟩ := hx
  have ht := List.all_eq_true.mp ht
  refine ⟨fun i => cvT K (cl.lookup i), fun x i h => ?_, fun x i h => ?_, fun i j b h => ?_⟩
  · have z := ht _ (lookup_mem h)
    simp only [Bool.and_eq_true, decide_eq_true_eq, List.all_eq_true] at z
    obtain ⟨⟨z1, z2⟩, z3⟩ := z
    have uq : ∀ y, (y, i) ∈ ec → y = x := fun y hy => z2 _ hy rfl
    have hE : exB K (He.ga K x) = true := h1 (x, i) z1
    have hE := exB_ok hE
    have hg : mg x = some (.ref (He.ga K x)) := own i x (lookup_mem z3)
    refine ⟨He.ga K x, ⟨hg, hE, fun d F H r => ⟨x, z1, uq, rfl, rfl⟩, fun d cls dd F H r h => ?_⟩, ?_⟩
    · obtain ⟨y, y1, _, y3, y4⟩ := h
      rw [uq y y1] at y3
      exact ⟨y3, y4⟩
    · show cvT K (cl.lookup i) = _
      rw [z3]
      rfl
  · have z := ht _ (lookup_mem h)
    show ClsN mg x (cvT K (cl.lookup i))
    dsimp only at z
    split at z
    · rename_i y hy
      simp only [decide_eq_true_eq] at z
      subst z
      rw [hy]
      exact .own (own i _ (lookup_mem hy))
    · rename_i y T hy
      simp only [Bool.and_eq_true, decide_eq_true_eq] at z
      obtain ⟨⟨z1, z2⟩, z3⟩ := z
      subst z1
      rw [hy]
      exact .bt (blt i _ T (lookup_mem hy)) z2 z3
    · cases z
  · have z := h2 ((i, j), b) h
    exact of_decide_eq_true z
/-- the goal that the head leaves, over facts -/
theorem walk_ofX {l : PySem.W.OpenLaw} {m n : Nat} {q : Program} {loose : List Str} {XP : (Str → Option Value) → Heap → Prop} {YP : World → Heap → Prop} {d : DefRec} {CX : World → CXT} {x : Str}
    (most : l.most = some m) (small : m ≤ sizeLine) (nod : d.params.defaults = []) (room : Room n callerA)
    (F : ∀ (w : World) (mg : Str → Option Value) (fa : Addr) (h : Heap), YP w h → h.Ns mainGlobals mg → mg d.name = some (.ref fa) →
      ∃ (K : Fg) (fd : FuncData) (sp : Sp), K.In h ∧ (∀ (s : Shared) (u : Value), BindsTo s fd ⟨[u], []⟩ [(x, u)]) ∧
        (∀ (H : Hp) (a : Addr) (ns : List Int), ns.length ≤ m → Only H → SqL K H a (ns.map V.int) → sp [.ref a] H (fun v _ => v = .bl true) fun _ _ _ => False) ∧
        ∀ base : Heap, K.In base → base.Ns mainGlobals mg → FnG l.prog w K mg base (CX w) n fa fd [x] sp)
    (noX : ∀ (w : World) (H : Hp) (s : Shared) (e : Value) (t : Shared), CX w [] H s (fun _ _ _ => False) e t → False) : PySem.W.WalkO q loose XP YP l.row.toRowW d [] (fun f vs => PySem.call f vs) := by
  apply Att.attach_call most nod
  intro w s0 s1 mg mb fa o pm cd doc a us ns G Y ho hd hcd hmg hobj hints hlen hg
  obtain ⟨K, fd, sp, inK, bind, prom, FG⟩ := F w mg fa _ Y G.T.g hmg
  exact law_callG inK G.T.g G.T.b G.T.builtins G.T.nolimit hg hobj hints (Nat.le_trans hlen small) room FG bind (fun H h1 h2 => prom H a ns hlen h1 h2) (fun H e t => noX w H s1 e t)
end G
namespace G
open PySem PySem.Spec PyProof.Rows L2
theorem ints_rp {K : Fg} {F : Hp} {r : List Addr} : ∀ ns : List Int, RpL K F r (ns.map V.int) (ns.map D.int)
  | [] => .nil
  | n :: ns => .cons (.int n) rfl (ints_rp ns)
/-- the law's promise from the evaluator's word -/
theorem prom_of {K : Fg} {XR : XRel} {C : G.Cx} {i : Nat} {H : Hp} {a : Addr} {ns : List Int} {S' : List Cell} (hS : SqL K H a (ns.map V.int)) (e : C.call i [.lst (ns.map .int)] [] = .ok (.bl true) S') : spF K XR C i [.ref a] H (fun v _ => v = .bl true) fun _ _ _ => False := by
  refine ⟨H, [], [], [.lst (ns.map .int)], ⟨fun _ _ h => h, rfl, fun i j a h => ?_, fun i a h => ?_, fun i a c h => ?_⟩, .cons (.lst hS (ints_rp ns)) .nil, ?_⟩
  · simp at h
  · simp at h
  · simp at h
  · rw [e]
    intro F' H' r' _ _ v hv
    cases hv
    rfl
theorem noX_cx {P : Program} {w : World} {H : Hp} {s : Shared} {e : Value} {t : Shared} (h : L2.CX P w [] H s (fun _ _ _ => False) e t) : False := by
  obtain ⟨_, _, _, _, _, _, _, _, _, _, _, _, z⟩ := h
  exact z
end G
end S_GHead
section S_GM
set_option linter.all false
/-! GM: the evaluator, step by step (for simp). -/
namespace G
def Fl.nxt : Fl → (List Sl → List Cell → Fl) → Fl
  | .nx sl S, f => f sl S
  | .ret d S, _ => .ret d S
  | .brk sl S, _ => .brk sl S
  | .cnt sl S, _ => .cnt sl S
  | .exc c x sl S, _ => .exc c x sl S
  | .stk, _ => .stk
section
variable {α β : Type} {S : List Cell} {sl : List Sl} {C : Cx}
@[simp] theorem nxt_nx {f} : (Fl.nx sl S).nxt f = f sl S := (rfl)
@[simp] theorem nxt_ret {d f} : (Fl.ret d S).nxt f = .ret d S := (rfl)
@[simp] theorem nxt_brk {f} : (Fl.brk sl S).nxt f = .brk sl S := (rfl)
@[simp] theorem nxt_cnt {f} : (Fl.cnt sl S).nxt f = .cnt sl S := (rfl)
@[simp] theorem nxt_stk {f} : (Fl.stk).nxt f = .stk := (rfl)
@[simp] theorem nxt_ite {c : Prop} [Decidable c] {x y : Fl} {f} : (if c then x else y).nxt f = if c then x.nxt f else y.nxt f := by split <;> rfl
@[simp] theorem out_nx : (Fl.nx sl S).out = .ok .non S := (rfl)
@[simp] theorem out_ret {d} : (Fl.ret d S).out = .ok d S := (rfl)
@[simp] theorem out_ite {c : Prop} [Decidable c] {x y : Fl} : (if c then x else y).out = if c then x.out else y.out := by split <;> rfl
@[simp] theorem bind_ok {a : α} {f : α → List Cell → Rs β} : (Rs.ok a S).bind f = f a S := (rfl)
@[simp] theorem bind_stk {f : α → List Cell → Rs β} : (Rs.stk).bind f = .stk := (rfl)
@[simp] theorem bind_ite {c : Prop} [Decidable c] {x y : Rs α} {f : α → List Cell → Rs β} : (if c then x else y).bind f = if c then x.bind f else y.bind f := by split <;> rfl
@[simp] theorem of_some {a : α} : Rs.of S (some a) = .ok a S := (rfl)
@[simp] theorem of_none : Rs.of S (none : Option α) = .stk := (rfl)
@[simp] theorem of_ite {c : Prop} [Decidable c] {x y : Option α} : Rs.of S (if c then x else y) = if c then Rs.of S x else Rs.of S y := by split <;> rfl
@[simp] theorem fl_ok {a : α} {f : α → List Cell → Fl} : (Rs.ok a S).fl sl f = f a S := (rfl)
@[simp] theorem fl_stk {f : α → List Cell → Fl} : (Rs.stk).fl sl f = .stk := (rfl)
@[simp] theorem fl_ite {c : Prop} [Decidable c] {x y : Rs α} {f : α → List Cell → Fl} : (if c then x else y).fl sl f = if c then x.fl sl f else y.fl sl f := by split <;> rfl
/-- a value in a slot -/
def slV : Option Sl → List Cell → Rs D
  | some (.v d), S => .ok d S
  | _, _ => .stk
def slB : Option Sl → List Cell → Rs D
  | some (.v d), S => .ok d S
  | some (.own xs), S => .ok (.lst xs) S
  | _, _ => .stk
@[simp] theorem slV_v {d} : slV (some (.v d)) S = .ok d S := (rfl)
@[simp] theorem slB_v {d} : slB (some (.v d)) S = .ok d S := (rfl)
@[simp] theorem slB_own {xs} : slB (some (.own xs)) S = .ok (.lst xs) S := (rfl)
@[simp] theorem evE_k {d} : evE C (.k d) sl S = .ok d S := (rfl)
@[simp] theorem evE_v {i} : evE C (.v i) sl S = slV sl[i]? S := by unfold evE slV; split <;> rename_i h <;> simp [h]
@[simp] theorem evE_b {i} : evE C (.b i) sl S = slB sl[i]? S := by
  show (match sl[i]? with | some (.v d) => _ | some (.own xs) => _ | _ => _) = _
  cases sl[i]? with
  | none => rfl
  | some x => cases x <;> rfl
@[simp] theorem evE_g {n} : evE C (.g n) sl S = .of S (C.glob n) := (rfl)
@[simp] theorem evE_tup {es} : evE C (.tup es) sl S = (evL C es sl S).bind fun ds S => if ds.all D.pur then .ok (.tup ds) S else .stk := (rfl)
@[simp] theorem evE_lst {es} : evE C (.lst es) sl S = (evL C es sl S).bind fun ds S => if ds.all D.pur then .ok (.lst ds) S else .stk := (rfl)
@[simp] theorem evE_mk {es} : evE C (.mk es) sl S = (evL C es sl S).bind fun ds S => if ds.all D.pur then .ok (.loc S.length) (S ++ [.lst ds]) else .stk := (rfl)
@[simp] theorem evE_bin {o a b} : evE C (.bin o a b) sl S = (evE C a sl S).bind fun x S => (evE C b sl S).bind fun y S => .of S (pBin o (dr S x) (dr S y)) := (rfl)
def pNeg : D → Option D
  | .int i => some (.int (-i))
  | _ => none
@[simp] theorem pNeg_int {i} : pNeg (.int i) = some (.int (-i)) := (rfl)
@[simp] theorem evE_neg {a} : evE C (.neg a) sl S = (evE C a sl S).bind fun x S => .of S (pNeg x) := by
  show (evE C a sl S).bind _ = (evE C a sl S).bind _
  congr 1
  funext x S
  cases x <;> rfl
@[simp] theorem evE_cmp {o a b} : evE C (.cmp o a b) sl S = (evE C a sl S).bind fun x S => (evE C b sl S).bind fun y S => .of S ((pCmp o (dr S x) (dr S y)).map .bl) := (rfl)
@[simp] theorem evE_chn {o o' a b c} : evE C (.chn o o' a b c) sl S = (evE C a sl S).bind fun x S => (evE C b sl S).bind fun y S => (Rs.of S (pCmp o (dr S x) (dr S y))).bind fun t S => if t then (evE C c sl S).bind fun z S => .of S ((pCmp o' (dr S y) (dr S z)).map .bl) else .ok (.bl false) S := by
  show (evE C a sl S).bind _ = (evE C a sl S).bind _
  congr 1
  funext x S
  congr 1
  funext y S
  cases pCmp o (dr S x) (dr S y) with
  | none => rfl
  | some t => cases t <;> rfl
@[simp] theorem evE_and {es} : evE C (.and es) sl S = evAnd C es sl S := (rfl)
@[simp] theorem evE_or {es} : evE C (.or es) sl S = evOr C es sl S := (rfl)
@[simp] theorem evE_not {a} : evE C (.not a) sl S = (evT C a sl S).bind fun b S => .ok (.bl (!b)) S := (rfl)
@[simp] theorem evE_ite {c a b} : evE C (.ite c a b) sl S = (evT C c sl S).bind fun t S => if t then evE C a sl S else evE C b sl S := (rfl)
@[simp] theorem evE_ix {a i} : evE C (.ix a i) sl S = (evE C a sl S).bind fun x S => (evE C i sl S).bind fun y S => .of S (pIx (dr S x) y) := (rfl)
@[simp] theorem evE_sl {a lo hi} : evE C (.sl a lo hi) sl S = (evE C a sl S).bind fun x S => (evO C lo sl S).bind fun l S => (evO C hi sl S).bind fun h S => .of S (pSl (dr S x) l h) := (rfl)
@[simp] theorem evE_cal {f es} : evE C (.cal f es) sl S = (evL C es sl S).bind fun ds S => C.call f ds S := (rfl)
@[simp] theorem evE_blt {f es} : evE C (.blt f es) sl S = (evL C es sl S).bind fun ds S => .of S (pB f (ds.map (dr S))) := (rfl)
@[simp] theorem evE_mth {m o es} : evE C (.mth m o es) sl S = (evE C o sl S).bind fun x S => if recvOk m x then (evL C es sl S).bind fun ds S => .of S (pM m x ds) else .stk := (rfl)
def ixcR (S : List Cell) (m : Rs D) : Option (List (List Nat)) → Rs D
  | some ss => m.bind fun y S => .of S (placeC ss y)
  | none => .stk
@[simp] theorem evE_ixc {f e} : evE C (.ixc f e) sl S = ixcR S (evE C e sl S) (C.cst f) := by
  show (match C.cst f with | some ss => _ | none => _) = _
  cases C.cst f <;> rfl
@[simp] theorem ixcR_some {m ss} : ixcR S m (some ss) = m.bind fun y S => .of S (placeC ss y) := (rfl)
/-- one turn of a comprehension -/
def turn (C : Cx) (tg : Tg) (elt : E) (cond : List B) (sl : List Sl) (d : D) (S : List Cell) : Rs (Option D) := match tgSet tg d sl with
  | none => .stk
  | some sl' => (evCs C cond sl' S).bind fun t S => if t then (evE C elt sl' S).bind fun y S => if y.pur then .ok (some y) S else .stk else .ok none S
@[simp] theorem evE_comp {tg it elt cond} : evE C (.comp tg it elt cond) sl S = (evI C it sl S).bind fun ds S => (compL (turn C tg elt cond sl) ds S []).bind fun ys S => .ok (.lst ys) S := (rfl)
@[simp] theorem evT_tr {e} : evT C (.tr e) sl S = (evE C e sl S).bind fun d S => .of S (truthy (dr S d)) := (rfl)
@[simp] theorem evT_and {es} : evT C (.and es) sl S = evAndT C es sl S := (rfl)
@[simp] theorem evT_or {es} : evT C (.or es) sl S = evOrT C es sl S := (rfl)
@[simp] theorem evT_not {a} : evT C (.not a) sl S = (evT C a sl S).bind fun b S => .ok (!b) S := (rfl)
@[simp] theorem evAnd_one {e} : evAnd C [e] sl S = (evE C e sl S).bind fun d S => .ok d S := (rfl)
@[simp] theorem evAnd_two {e e2 es} : evAnd C (e :: e2 :: es) sl S = (evE C e sl S).bind fun d S => (Rs.of S (truthy (dr S d))).bind fun t S => if t then evAnd C (e2 :: es) sl S else .ok d S := by
  rw [evAnd]
  congr 1
  funext d S
  cases truthy (dr S d) with
  | none => rfl
  | some t => cases t <;> rfl
@[simp] theorem evOr_one {e} : evOr C [e] sl S = (evE C e sl S).bind fun d S => .ok d S := (rfl)
@[simp] theorem evOr_two {e e2 es} : evOr C (e :: e2 :: es) sl S = (evE C e sl S).bind fun d S => (Rs.of S (truthy (dr S d))).bind fun t S => if t then .ok d S else evOr C (e2 :: es) sl S := by
  rw [evOr]
  congr 1
  funext d S
  cases truthy (dr S d) with
  | none => rfl
  | some t => cases t <;> rfl
@[simp] theorem evAndT_nil : evAndT C [] sl S = .ok true S := (rfl)
@[simp] theorem evAndT_cons {e es} : evAndT C (e :: es) sl S = (evT C e sl S).bind fun b S => if b then evAndT C es sl S else .ok false S := (rfl)
@[simp] theorem evOrT_nil : evOrT C [] sl S = .ok false S := (rfl)
@[simp] theorem evOrT_cons {e es} : evOrT C (e :: es) sl S = (evT C e sl S).bind fun b S => if b then .ok true S else evOrT C es sl S := (rfl)
@[simp] theorem evCs_nil : evCs C [] sl S = .ok true S := (rfl)
@[simp] theorem evCs_cons {e es} : evCs C (e :: es) sl S = evT C e sl S := (rfl)
@[simp] theorem evL_nil : evL C [] sl S = .ok [] S := (rfl)
@[simp] theorem evL_cons {e es} : evL C (e :: es) sl S = (evE C e sl S).bind fun d S => (evL C es sl S).bind fun ds S => .ok (d :: ds) S := (rfl)
@[simp] theorem evO_none : evO C none sl S = .ok none S := (rfl)
def toI : D → Option (Option Int)
  | .int i => some (some i)
  | _ => none
@[simp] theorem toI_int {i} : toI (.int i) = some (some i) := (rfl)
@[simp] theorem evO_some {e} : evO C (some e) sl S = (evE C e sl S).bind fun d S => .of S (toI d) := by
  show (evE C e sl S).bind _ = (evE C e sl S).bind _
  congr 1
  funext x S
  cases x <;> rfl
@[simp] theorem evI_rng {es} : evI C (.rng es) sl S = (evL C es sl S).bind fun ds S => .of S (pRng ds) := (rfl)
@[simp] theorem evI_e {e} : evI C (.e e) sl S = (evE C e sl S).bind fun d S => .of S (items d) := (rfl)
/-! statements -/
@[simp] theorem evB_nil : evB C [] sl S = .nx sl S := (rfl)
@[simp] theorem evB_cons {t ts} : evB C (t :: ts) sl S = (evS C t sl S).nxt fun sl S => evB C ts sl S := by
  rw [evB]
  cases evS C t sl S <;> rfl
@[simp] theorem evS_set {i e} : evS C (.set i e) sl S = (evE C e sl S).fl sl fun d S => .nx (sl.set i (.v d)) S := (rfl)
def flO (sl : List Sl) (i : Nat) : D → List Cell → Fl
  | .lst xs, S => .nx (sl.set i (.own xs)) S
  | _, _ => .stk
@[simp] theorem flO_lst {i xs} : flO sl i (.lst xs) S = .nx (sl.set i (.own xs)) S := (rfl)
@[simp] theorem evS_setO {i e} : evS C (.setO i e) sl S = (evE C e sl S).fl sl (flO sl i) := by
  show (evE C e sl S).fl sl _ = _
  congr 1
  funext d S
  cases d <;> rfl
def flOf (S : List Cell) : Option (List Sl) → Fl
  | some sl => .nx sl S
  | none => .stk
@[simp] theorem flOf_some : flOf S (some sl) = .nx sl S := (rfl)
@[simp] theorem evS_unp {tg e} : evS C (.unp tg e) sl S = (evE C e sl S).fl sl fun d S => flOf S (tgSet tg d sl) := by
  show (evE C e sl S).fl sl _ = (evE C e sl S).fl sl _
  congr 1
def frzS (sl : List Sl) (i : Nat) (S : List Cell) : Option Sl → Fl
  | some (.own xs) => .nx (sl.set i (.v (.lst xs))) S
  | some (.v _) => .nx sl S
  | _ => .stk
@[simp] theorem frzS_own {i xs} : frzS sl i S (some (.own xs)) = .nx (sl.set i (.v (.lst xs))) S := (rfl)
@[simp] theorem frzS_v {i d} : frzS sl i S (some (.v d)) = .nx sl S := (rfl)
@[simp] theorem evS_frz {i} : evS C (.frz i) sl S = frzS sl i S sl[i]? := by
  show (match sl[i]? with | some (.own xs) => _ | some (.v _) => _ | _ => _) = _
  cases sl[i]? with
  | none => rfl
  | some x => cases x <;> rfl
@[simp] theorem evS_app {o e} : evS C (.app o e) sl S = if lstAt o sl S then (evE C e sl S).fl sl fun d S => if d.pur then chg o (fun xs => if xs.length < lim then some (xs ++ [d]) else none) C sl S else .stk else .stk := (rfl)
def extF (o : E) (C : Cx) (sl : List Sl) : D → List Cell → Fl
  | .lst ys, S => chg o (fun xs => if xs.length + ys.length ≤ lim then some (xs ++ ys) else none) C sl S
  | _, _ => .stk
@[simp] theorem extF_lst {o ys} : extF o C sl (.lst ys) S = chg o (fun xs => if xs.length + ys.length ≤ lim then some (xs ++ ys) else none) C sl S := (rfl)
@[simp] theorem evS_ext {o e} : evS C (.ext o e) sl S = if lstAt o sl S then (evE C e sl S).fl sl (extF o C sl) else .stk := by
  show (if lstAt o sl S then (evE C e sl S).fl sl _ else .stk) = _
  congr 1
  congr 1
  funext d S
  cases d <;> rfl
def subF (o : E) (C : Cx) (sl : List Sl) (d : D) : D → List Cell → Fl
  | .int j, S => if d.pur then chg o (fun xs => (ixN xs.length j).map fun k => xs.set k d) C sl S else .stk
  | _, _ => .stk
@[simp] theorem subF_int {o d j} : subF o C sl d (.int j) S = if d.pur then chg o (fun xs => (ixN xs.length j).map fun k => xs.set k d) C sl S else .stk := (rfl)
@[simp] theorem evS_sub {o i e} : evS C (.sub o i e) sl S = (evE C e sl S).fl sl fun d S => if lstAt o sl S then (evE C i sl S).fl sl (subF o C sl d) else .stk := by
  show (evE C e sl S).fl sl _ = _
  congr 1
  funext d S
  congr 1
  congr 1
  funext j S
  cases j <;> rfl
def augF (o : Op2) (i : Nat) (m : Rs D) (sl : List Sl) : Option Sl → Fl
  | some (.v x) => m.fl sl fun y S => flOf S ((pAug o x y).map fun z => sl.set i (.v z))
  | _ => .stk
@[simp] theorem augF_v {o i m x} : augF o i m sl (some (.v x)) = m.fl sl fun y S => flOf S ((pAug o x y).map fun z => sl.set i (.v z)) := (rfl)
@[simp] theorem evS_aug {i o e} : evS C (.aug i o e) sl S = augF o i (evE C e sl S) sl sl[i]? := by
  show (match sl[i]? with | some (.v x) => _ | _ => _) = _
  cases sl[i]? with
  | none => rfl
  | some x =>
    cases x with
    | v x =>
      show (evE C e sl S).fl sl _ = (evE C e sl S).fl sl _
      congr 1
      funext y S
      cases pAug o x y <;> rfl
    | _ => rfl
@[simp] theorem evS_exp {e} : evS C (.exp e) sl S = (evE C e sl S).fl sl fun _ S => .nx sl S := (rfl)
@[simp] theorem evS_ife {c a b} : evS C (.ife c a b) sl S = (evT C c sl S).fl sl fun t S => if t then evB C a sl S else evB C b sl S := (rfl)
/-- one turn of a for -/
def turnS (C : Cx) (tg : Tg) (b : List T) (d : D) (sl : List Sl) (S : List Cell) : Fl := match tgSet tg d sl with
  | some sl => evB C b sl S
  | none => .stk
@[simp] theorem evS_for {tg it b} : evS C (.for_ tg it b) sl S = (evI C it sl S).fl sl fun ds S => forL (turnS C tg b) ds sl S := (rfl)
@[simp] theorem evS_whl {c b} : evS C (.whl c b) sl S = whlL (fun sl S => evT C c sl S) (fun sl S => evB C b sl S) C.wf sl S := (rfl)
@[simp] theorem evS_ret {e} : evS C (.ret e) sl S = (evE C e sl S).fl sl fun d S => .ret d S := (rfl)
@[simp] theorem evS_ret0 : evS C .ret0 sl S = .ret .non S := (rfl)
@[simp] theorem evS_cnt : evS C .cnt sl S = .cnt sl S := (rfl)
@[simp] theorem evS_brk : evS C .brk sl S = .brk sl S := (rfl)
@[simp] theorem evS_pas : evS C .pas sl S = .nx sl S := (rfl)
/-! values -/
@[simp] theorem dr_non : dr S .non = .non := (rfl)
@[simp] theorem dr_bl {b} : dr S (.bl b) = .bl b := (rfl)
@[simp] theorem dr_int {b} : dr S (.int b) = .int b := (rfl)
@[simp] theorem dr_str {b} : dr S (.str b) = .str b := (rfl)
@[simp] theorem dr_tup {b} : dr S (.tup b) = .tup b := (rfl)
@[simp] theorem dr_lst {b} : dr S (.lst b) = .lst b := (rfl)
theorem dr_pur {d : D} (h : d.pur = true) : dr S d = d := by
  cases d <;> first | rfl | cases h
@[simp] theorem tgSet_s {i d} : tgSet (.s i) d sl = some (sl.set i (.v d)) := (rfl)
@[simp] theorem tgSet_t {ts ds} : tgSet (.t ts) (.tup ds) sl = tgSetL ts ds sl := (rfl)
@[simp] theorem tgSetL_nil : tgSetL [] [] sl = some sl := (rfl)
@[simp] theorem tgSetL_cons {t ts d ds} : tgSetL (t :: ts) (d :: ds) sl = (tgSet t d sl).bind fun sl => tgSetL ts ds sl := (rfl)
end
end G
end S_GM
section S_GM2
set_option linter.all false
/-! GM2: values, for simp; lists that a comprehension makes. -/
namespace G
section
variable {S : List Cell} {sl : List Sl} {C : Cx}
@[simp] theorem isT_non {t} : isT t .non = some false := by cases t <;> rfl
@[simp] theorem isT_bl {t b} : isT t (.bl b) = some (match t with | .int => true | .bool => true | _ => false) := by cases t <;> rfl
@[simp] theorem isT_int {t b} : isT t (.int b) = some (match t with | .int => true | _ => false) := by cases t <;> rfl
@[simp] theorem isT_str {t b} : isT t (.str b) = some (match t with | .str => true | _ => false) := by cases t <;> rfl
@[simp] theorem isT_tup {t b} : isT t (.tup b) = some (match t with | .tup => true | _ => false) := by cases t <;> rfl
@[simp] theorem isT_lst {t b} : isT t (.lst b) = some (match t with | .lst => true | _ => false) := by cases t <;> rfl
@[simp] theorem pB_isa {t d} : pB (.isa t) [d] = (isT t d).map .bl := (rfl)
@[simp] theorem pB_len_tup {xs} : pB .len [.tup xs] = some (.int xs.length) := (rfl)
@[simp] theorem pB_len_lst {xs} : pB .len [.lst xs] = some (.int xs.length) := (rfl)
@[simp] theorem pB_len_str {xs} : pB .len [.str xs] = some (.int xs.length) := (rfl)
@[simp] theorem pB_int_int {i} : pB .int [.int i] = some (.int i) := (rfl)
@[simp] theorem pB_list_tup {xs} : pB .list [.tup xs] = some (.lst xs) := (rfl)
@[simp] theorem pB_list_lst {xs} : pB .list [.lst xs] = some (.lst xs) := (rfl)
@[simp] theorem pB_tuple_tup {xs} : pB .tuple [.tup xs] = some (.tup xs) := (rfl)
@[simp] theorem pB_tuple_lst {xs} : pB .tuple [.lst xs] = some (.tup xs) := (rfl)
@[simp] theorem pB_max {i j} : pB .max2 [.int i, .int j] = some (.int (if j > i then j else i)) := (rfl)
@[simp] theorem pB_min {i j} : pB .min2 [.int i, .int j] = some (.int (if j < i then j else i)) := (rfl)
theorem asBls_map {α} (p : α → Bool) : ∀ xs : List α, asBls (xs.map fun x => .bl (p x)) = some (xs.map p)
  | [] => rfl
  | x :: xs => by
    show (asBls (xs.map fun x => .bl (p x))).map (p x :: ·) = _
    rw [asBls_map p xs]
    rfl
theorem asInts_map {α} (p : α → Int) : ∀ xs : List α, asInts (xs.map fun x => .int (p x)) = some (xs.map p)
  | [] => rfl
  | x :: xs => by
    show (asInts (xs.map fun x => .int (p x))).map (p x :: ·) = _
    rw [asInts_map p xs]
    rfl
theorem asStrs_map {α} (p : α → List Nat) : ∀ xs : List α, asStrs (xs.map fun x => .str (p x)) = some (xs.map p)
  | [] => rfl
  | x :: xs => by
    show (asStrs (xs.map fun x => .str (p x))).map (p x :: ·) = _
    rw [asStrs_map p xs]
    rfl
@[simp] theorem pB_all {α} {p : α → Bool} {xs : List α} : pB .all [.lst (xs.map fun x => .bl (p x))] = some (.bl (xs.all p)) := by
  show (asBls _).map _ = _
  rw [asBls_map]
  simp [List.all_map, Function.comp_def]
@[simp] theorem tru_non : truthy .non = some false := (rfl)
@[simp] theorem tru_bl {b} : truthy (.bl b) = some b := (rfl)
@[simp] theorem tru_int {i} : truthy (.int i) = some (i != 0) := (rfl)
@[simp] theorem cmp_lt {i j} : pCmp .lt (.int i) (.int j) = some (decide (i < j)) := (rfl)
@[simp] theorem cmp_le {i j} : pCmp .le (.int i) (.int j) = some (decide (i ≤ j)) := (rfl)
@[simp] theorem cmp_gt {i j} : pCmp .gt (.int i) (.int j) = some (decide (j < i)) := (rfl)
@[simp] theorem cmp_ge {i j} : pCmp .ge (.int i) (.int j) = some (decide (j ≤ i)) := (rfl)
@[simp] theorem cmp_eq_int {i j} : pCmp .eq (.int i) (.int j) = some (i == j) := (rfl)
@[simp] theorem cmp_ne_int {i j} : pCmp .ne (.int i) (.int j) = some (!(i == j)) := (rfl)
@[simp] theorem cmp_eq_str {i j} : pCmp .eq (.str i) (.str j) = some (i == j) := (rfl)
@[simp] theorem cmp_ne_str {i j} : pCmp .ne (.str i) (.str j) = some (!(i == j)) := (rfl)
@[simp] theorem cmp_eq_bl {i j} : pCmp .eq (.bl i) (.bl j) = some (i == j) := (rfl)
@[simp] theorem cmp_isn {a} : pCmp .isn a .non = some a.isNon := by cases a <;> rfl
@[simp] theorem cmp_isnot {a} : pCmp .isnot a .non = some (!a.isNon) := by cases a <;> rfl
@[simp] theorem isNon_non : D.isNon .non = true := (rfl)
@[simp] theorem isNon_bl {b} : D.isNon (.bl b) = false := (rfl)
@[simp] theorem isNon_int {b} : D.isNon (.int b) = false := (rfl)
@[simp] theorem isNon_str {b} : D.isNon (.str b) = false := (rfl)
@[simp] theorem isNon_tup {b} : D.isNon (.tup b) = false := (rfl)
@[simp] theorem isNon_lst {b} : D.isNon (.lst b) = false := (rfl)
@[simp] theorem pur_non : D.pur .non = true := by simp only [D.pur]
@[simp] theorem pur_bl {b} : D.pur (.bl b) = true := by simp only [D.pur]
@[simp] theorem pur_int {b} : D.pur (.int b) = true := by simp only [D.pur]
@[simp] theorem pur_str {b} : D.pur (.str b) = true := by simp only [D.pur]
@[simp] theorem pur_tup {b} : D.pur (.tup b) = true := by simp only [D.pur]
@[simp] theorem pur_lst {b} : D.pur (.lst b) = true := by simp only [D.pur]
theorem cmp_eq_d {a b : D} (ha : a.pur = true) (hb : b.pur = true) (h : b.dep ≤ 60) : pCmp .eq a b = some (D.eqv a b) := by
  show (if D.eqOk a b then _ else _) = _
  rw [if_pos (by simp [D.eqOk, ha, hb, h])]
theorem cmp_ne_d {a b : D} (ha : a.pur = true) (hb : b.pur = true) (h : b.dep ≤ 60) : pCmp .ne a b = some (!D.eqv a b) := by
  show (if D.eqOk a b then _ else _) = _
  rw [if_pos (by simp [D.eqOk, ha, hb, h])]
theorem cmp_in_tup {a : D} {ys : List D} (ha : a.pur = true) (h : D.depL ys ≤ 60) : pCmp .isin a (.tup ys) = some (ys.any fun y => D.eqv y a) := by
  show pIn a (.tup ys) = _
  unfold pIn
  dsimp only
  rw [if_pos (by simp [ha, h])]
theorem cmp_in_lst {a : D} {ys : List D} (ha : a.pur = true) (h : a.dep ≤ 60) : pCmp .isin a (.lst ys) = some (ys.any fun y => D.eqv y a) := by
  show pIn a (.lst ys) = _
  unfold pIn
  dsimp only
  rw [if_pos (by simp [ha, h])]
theorem cmp_notin {a b : D} : pCmp .notin a b = (pCmp .isin a b).map (!·) := by
  cases a <;> cases b <;> rfl
@[simp] theorem cmp_in_sign {c y} : pCmp .isin (.str [c]) (.str y) = some (y.contains c) := (rfl)
@[simp] theorem dep_non : D.dep .non = 0 := by simp only [D.dep]
@[simp] theorem dep_bl {b} : D.dep (.bl b) = 0 := by simp only [D.dep]
@[simp] theorem dep_int {b} : D.dep (.int b) = 0 := by simp only [D.dep]
@[simp] theorem dep_str {b} : D.dep (.str b) = 0 := by simp only [D.dep]
@[simp] theorem dep_tup {b} : D.dep (.tup b) = D.depL b + 1 := by simp only [D.dep]
@[simp] theorem dep_lst {b} : D.dep (.lst b) = D.depL b + 1 := by simp only [D.dep]
@[simp] theorem depL_nil : D.depL [] = 0 := by simp only [D.depL]
@[simp] theorem depL_cons {x xs} : D.depL (x :: xs) = max x.dep (D.depL xs) := by simp only [D.depL]
@[simp] theorem eqv_int {i j} : D.eqv (.int i) (.int j) = (i == j) := (rfl)
@[simp] theorem eqv_str {i j} : D.eqv (.str i) (.str j) = (i == j) := (rfl)
@[simp] theorem eqv_tup {i j} : D.eqv (.tup i) (.tup j) = D.eqvL i j := (rfl)
@[simp] theorem eqv_lst {i j} : D.eqv (.lst i) (.lst j) = D.eqvL i j := (rfl)
@[simp] theorem eqvL_nil : D.eqvL [] [] = true := (rfl)
@[simp] theorem eqvL_nc {x xs} : D.eqvL [] (x :: xs) = false := (rfl)
@[simp] theorem eqvL_cn {x xs} : D.eqvL (x :: xs) [] = false := (rfl)
@[simp] theorem eqvL_cc {x xs y ys} : D.eqvL (x :: xs) (y :: ys) = (D.eqv x y && D.eqvL xs ys) := (rfl)
@[simp] theorem eqv_str_l {s d} : D.eqv (.str s) d = match d with | .str t => s == t | _ => false := by cases d <;> rfl
theorem eqv_tup_l {s d} : D.eqv (.tup s) d = match d with | .tup t => D.eqvL s t | _ => false := by cases d <;> rfl
@[simp] theorem add_int {i j} : pBin .add (.int i) (.int j) = some (.int (i + j)) := (rfl)
@[simp] theorem sub_int {i j} : pBin .sub (.int i) (.int j) = some (.int (i - j)) := (rfl)
theorem add_tup {x y : List D} (h : x.length + y.length ≤ lim) : pBin .add (.tup x) (.tup y) = some (.tup (x ++ y)) := by
  show (if _ then _ else _) = _
  rw [if_pos h]
theorem add_lst {x y : List D} (h : x.length + y.length ≤ lim) : pBin .add (.lst x) (.lst y) = some (.lst (x ++ y)) := by
  show (if _ then _ else _) = _
  rw [if_pos h]
theorem add_str {x y : List Nat} (h : x.length + y.length ≤ lim) : pBin .add (.str x) (.str y) = some (.str (x ++ y)) := by
  show (if _ then _ else _) = _
  rw [if_pos h]
theorem mul_small {i j : Int} (h : smallI i = true ∨ smallI j = true) : pBin .mul (.int i) (.int j) = some (.int (i * j)) := by
  show (if _ then _ else _) = _
  rw [if_pos (by simpa using h)]
theorem mod_pos {i j : Int} (h : 0 < j) : pBin .mod (.int i) (.int j) = some (.int (i % j)) := by
  show (if _ then _ else _) = _
  rw [if_pos h]
theorem fdiv_pos {i j : Int} (h : 0 < j) (h2 : j < 2 ^ 63) : pBin .fdiv (.int i) (.int j) = some (.int (i / j)) := by
  show (if _ then _ else _) = _
  rw [if_pos ⟨h, by omega⟩]
@[simp] theorem ix_tup {xs i} : pIx (.tup xs) (.int i) = atI xs i := (rfl)
@[simp] theorem ix_lst {xs i} : pIx (.lst xs) (.int i) = atI xs i := (rfl)
@[simp] theorem ix_str {xs i} : pIx (.str xs) (.int i) = (atI xs i).map fun c => .str [c] := (rfl)
theorem atI_nat {α} {xs : List α} {i : Nat} : atI xs (i : Int) = xs[i]? := by
  unfold atI ixN
  have h0 : (0 : Int) ≤ (i : Int) := by omega
  rw [if_pos h0]
  by_cases h : i < xs.length
  · rw [if_pos (by omega)]
    simp
  · rw [if_neg (by omega), List.getElem?_eq_none (by omega)]
    rfl
@[simp] theorem atI_0 {α} {xs : List α} : atI xs 0 = xs[0]? := atI_nat (i := 0)
@[simp] theorem atI_1 {α} {xs : List α} : atI xs 1 = xs[1]? := atI_nat (i := 1)
@[simp] theorem atI_2 {α} {xs : List α} : atI xs 2 = xs[2]? := atI_nat (i := 2)
@[simp] theorem atI_3 {α} {xs : List α} : atI xs 3 = xs[3]? := atI_nat (i := 3)
@[simp] theorem atI_4 {α} {xs : List α} : atI xs 4 = xs[4]? := atI_nat (i := 4)
theorem atI_m1 {α} {xs : List α} {x : α} : atI (xs ++ [x]) (-1) = some x := by
  unfold atI ixN
  rw [if_neg (by omega), List.length_append, List.length_singleton, if_pos (by omega)]
  have : ((-1 : Int) + ((xs.length + 1 : Nat) : Int)).toNat = xs.length := by omega
  show (xs ++ [x])[((-1 : Int) + ((xs.length + 1 : Nat) : Int)).toNat]? = some x
  rw [this]
  simp
@[simp] theorem items_lst {xs} : items (.lst xs) = some xs := (rfl)
@[simp] theorem items_tup {xs} : items (.tup xs) = some xs := (rfl)
@[simp] theorem items_str {xs} : items (.str xs) = some (xs.map fun c => .str [c]) := (rfl)
theorem cut_from {α} {xs : List α} {k : Nat} : cut xs (some (k : Int)) none = xs.drop k := by
  unfold cut sIx
  dsimp only
  rw [if_neg (by omega)]
  show List.take (xs.length - min k xs.length) (xs.drop (min k xs.length)) = xs.drop k
  by_cases h : k ≤ xs.length
  · rw [Nat.min_eq_left h, List.take_of_length_le (by rw [List.length_drop]; omega)]
  · rw [Nat.min_eq_right (by omega), List.drop_length, List.take_nil, List.drop_eq_nil_of_le (by omega)]
theorem cut_to {α} {xs : List α} {k : Nat} : cut xs none (some (k : Int)) = xs.take k := by
  unfold cut sIx
  dsimp only
  rw [if_neg (by omega), List.drop_zero, Nat.sub_zero, Int.toNat_natCast]
  by_cases h : k ≤ xs.length
  · rw [Nat.min_eq_left h]
  · rw [Nat.min_eq_right (by omega), List.take_length, List.take_of_length_le (by omega)]
/-! comprehensions -/
theorem compL_map {f : D → List Cell → Rs (Option D)} {g : D → D} : ∀ {ds acc : List D}, (∀ d ∈ ds, f d S = .ok (some (g d)) S) → acc.length + ds.length ≤ lim → compL f ds S acc = .ok (acc ++ ds.map g) S
  | [], acc, _, _ => by simp [compL]
  | d :: ds, acc, h, hl => by
    rw [List.length_cons] at hl
    unfold compL
    rw [h d List.mem_cons_self]
    dsimp only
    rw [if_pos (by omega), compL_map (fun e he => h e (List.mem_cons_of_mem _ he)) (by rw [List.length_append, List.length_singleton]; omega)]
    simp
theorem compL_filter {f : D → List Cell → Rs (Option D)} {g : D → D} {p : D → Bool} : ∀ {ds acc : List D}, (∀ d ∈ ds, f d S = .ok (if p d then some (g d) else none) S) → acc.length + ds.length ≤ lim → compL f ds S acc = .ok (acc ++ (ds.filter p).map g) S
  | [], acc, _, _ => by simp [compL]
  | d :: ds, acc, h, hl => by
    rw [List.length_cons] at hl
    unfold compL
    rw [h d List.mem_cons_self]
    cases hp : p d with
    | true =>
      simp only [if_true]
      rw [if_pos (by omega), compL_filter (fun e he => h e (List.mem_cons_of_mem _ he)) (by rw [List.length_append, List.length_singleton]; omega)]
      simp [hp]
    | false =>
      simp only [Bool.false_eq_true, if_false]
      rw [compL_filter (fun e he => h e (List.mem_cons_of_mem _ he)) (by omega)]
      simp [hp]
theorem compA {f : D → List Cell → Rs (Option D)} (g : D → D) {ds : List D} (hl : ds.length ≤ lim) (h : ∀ d ∈ ds, f d S = .ok (some (g d)) S) : compL f ds S [] = .ok (ds.map g) S := by
  rw [compL_map h (by simpa using hl)]
  rfl
theorem compF {f : D → List Cell → Rs (Option D)} (p : D → Bool) (g : D → D) {ds : List D} (hl : ds.length ≤ lim) (h : ∀ d ∈ ds, f d S = .ok (if p d then some (g d) else none) S) : compL f ds S [] = .ok ((ds.filter p).map g) S := by
  rw [compL_filter h (by simpa using hl)]
  rfl
/-! loops that look for a fault -/
theorem forL_all {f : D → List Sl → List Cell → Fl} {r : D} (I : List Sl → Prop) (p : D → Bool) : ∀ {ds : List D}, (∀ d ∈ ds, ∀ sl, I sl → if p d then ∃ sl', I sl' ∧ (f d sl S = .nx sl' S ∨ f d sl S = .cnt sl' S) else f d sl S = .ret r S) → ∀ sl, I sl → if ds.all p then ∃ sl', I sl' ∧ forL f ds sl S = .nx sl' S else forL f ds sl S = .ret r S
  | [], _, sl, hI => by
    simp [forL]
    exact hI
  | d :: ds, h, sl, hI => by
    have h1 := h d List.mem_cons_self sl hI
    rw [List.all_cons]
    unfold forL
    cases hp : p d with
    | false =>
      rw [hp] at h1
      simp only [Bool.false_eq_true, if_false] at h1
      simp [h1]
    | true =>
      rw [hp] at h1
      simp only [if_true] at h1
      obtain ⟨sl', hI', e⟩ := h1
      have h2 := forL_all I p (fun e he => h e (List.mem_cons_of_mem _ he)) sl' hI'
      rcases e with e | e
      · rw [e]
        simpa using h2
      · rw [e]
        simpa using h2
/-! data of bounded sizes -/
def flim : Nat := 1000000
mutual
def D.fin : D → Bool
  | .loc _ => false
  | .exc _ _ => false
  | .str s => decide (s.length ≤ flim)
  | .tup xs => decide (xs.length ≤ flim) && D.finL xs
  | .lst xs => decide (xs.length ≤ flim) && D.finL xs
  | _ => true
def D.finL : List D → Bool
  | [] => true
  | x :: xs => D.fin x && D.finL xs
end
@[simp] theorem fin_loc {n} : D.fin (.loc n) = false := by simp only [D.fin]
@[simp] theorem fin_exc {n x} : D.fin (.exc n x) = false := by simp only [D.fin]
@[simp] theorem fin_non : D.fin .non = true := by simp only [D.fin]
@[simp] theorem fin_bl {n} : D.fin (.bl n) = true := by simp only [D.fin]
@[simp] theorem fin_int {n} : D.fin (.int n) = true := by simp only [D.fin]
@[simp] theorem fin_str {s} : D.fin (.str s) = decide (s.length ≤ flim) := by simp only [D.fin]
@[simp] theorem fin_tup {s} : D.fin (.tup s) = (decide (s.length ≤ flim) && D.finL s) := by simp only [D.fin]
@[simp] theorem fin_lst {s} : D.fin (.lst s) = (decide (s.length ≤ flim) && D.finL s) := by simp only [D.fin]
@[simp] theorem finL_nil : D.finL [] = true := (rfl)
@[simp] theorem finL_cons {x xs} : D.finL (x :: xs) = (D.fin x && D.finL xs) := (rfl)
theorem finL_mem : ∀ {xs : List D} {x : D}, D.finL xs = true → x ∈ xs → x.fin = true
  | y :: ys, x, h, hx => by
    rw [finL_cons, Bool.and_eq_true] at h
    rcases List.mem_cons.mp hx with rfl | hx
    · exact h.1
    · exact finL_mem h.2 hx
theorem fin_pur {d : D} (h : d.fin = true) : d.pur = true := by
  cases d <;> first | rfl | cases h
theorem fin_tup_lf {xs : List D} (h : (D.tup xs).fin = true) : xs.length ≤ flim := by
  rw [fin_tup, Bool.and_eq_true, decide_eq_true_eq] at h
  exact h.1
theorem fin_tup_len {xs : List D} (h : (D.tup xs).fin = true) : xs.length ≤ lim := Nat.le_trans (fin_tup_lf h) (by decide)
theorem fin_str_len {s : List Nat} (h : (D.str s).fin = true) : s.length ≤ lim := by
  rw [fin_str, decide_eq_true_eq] at h
  exact Nat.le_trans h (by decide)
theorem fin_tup_mem {xs : List D} {x : D} (h : (D.tup xs).fin = true) (hx : x ∈ xs) : x.fin = true := by
  rw [fin_tup, Bool.and_eq_true, decide_eq_true_eq] at h
  exact finL_mem h.2 hx
theorem dr_fin {d : D} (h : d.fin = true) : dr S d = d := dr_pur (fin_pur h)
end
end G
end S_GM2
section S_GM3
set_option linter.all false
/-! GM3: lists that are changed while they are held, dicts by whole numbers, ranges, own errors: for simp. -/
namespace G
section
variable {α β : Type} {S : List Cell} {sl : List Sl} {C : Cx}
@[simp] theorem nxt_exc {c x f} : (Fl.exc c x sl S).nxt f = .exc c x sl S := (rfl)
@[simp] theorem out_exc {c x} : (Fl.exc c x sl S).out = .exc c x S := (rfl)
@[simp] theorem bind_exc {c x} {f : α → List Cell → Rs β} : (Rs.exc c x S).bind f = .exc c x S := (rfl)
@[simp] theorem fl_exc {c x} {f : α → List Cell → Fl} : (Rs.exc c x S).fl sl f = .exc c x sl S := (rfl)
@[simp] theorem evE_mkx {es} : evE C (.mkx es) sl S = (evL C es sl S).bind fun ds S => .ok (.loc S.length) (S ++ [.lsx ds]) := (rfl)
@[simp] theorem evE_ixx {a i} : evE C (.ixx a i) sl S = (evE C a sl S).bind fun x S => (evE C i sl S).bind fun y S => .of S (cellIx S x y) := (rfl)
@[simp] theorem evE_dgx {a i} : evE C (.dgx a i) sl S = (evE C a sl S).bind fun x S => (evE C i sl S).bind fun y S => .of S (cellDg S x y) := (rfl)
@[simp] theorem evE_lenx {a} : evE C (.lenx a) sl S = (evE C a sl S).bind fun x S => .of S (cellLen S x) := (rfl)
@[simp] theorem evE_rgx {t es} : evE C (.rgx t es) sl S = (evL C es sl S).bind fun ds S => .of S (rgx t ds) := (rfl)
@[simp] theorem atI_5 {xs : List α} : atI xs 5 = xs[5]? := atI_nat (i := 5)
@[simp] theorem atI_6 {xs : List α} : atI xs 6 = xs[6]? := atI_nat (i := 6)
@[simp] theorem atI_7 {xs : List α} : atI xs 7 = xs[7]? := atI_nat (i := 7)
@[simp] theorem atI_8 {xs : List α} : atI xs 8 = xs[8]? := atI_nat (i := 8)
@[simp] theorem atI_9 {xs : List α} : atI xs 9 = xs[9]? := atI_nat (i := 9)
@[simp] theorem atI_10 {xs : List α} : atI xs 10 = xs[10]? := atI_nat (i := 10)
@[simp] theorem cmp_in_s2 {k x y : List Nat} : pCmp .isin (.str k) (.tup [.str x, .str y]) = some (x == k || y == k) := by
  rw [cmp_in_tup rfl (by simp)]
  simp
@[simp] theorem cmp_in_i2 {k x y : Int} : pCmp .isin (.int k) (.tup [.int x, .int y]) = some (x == k || y == k) := by
  rw [cmp_in_tup rfl (by simp)]
  simp
@[simp] theorem cmp_in_s4 {k x y z w : List Nat} : pCmp .isin (.str k) (.tup [.str x, .str y, .str z, .str w]) = some (x == k || (y == k || (z == k || w == k))) := by
  rw [cmp_in_tup rfl (by simp)]
  simp
@[simp] theorem cmp_notin_s2 {k x y : List Nat} : pCmp .notin (.str k) (.tup [.str x, .str y]) = some (!(x == k || y == k)) := by
  rw [cmp_notin, cmp_in_s2]
  rfl
@[simp] theorem cmp_notin_i2 {k x y : Int} : pCmp .notin (.int k) (.tup [.int x, .int y]) = some (!(x == k || y == k)) := by
  rw [cmp_notin, cmp_in_i2]
  rfl
def kyR (y : D) (S : List Cell) : D → Rs (Int × D)
  | .int k => if y.pur then .ok (k, y) S else .stk
  | _ => .stk
@[simp] theorem kyR_int {y k} : kyR y S (.int k) = if y.pur then .ok (k, y) S else .stk := (rfl)
/-- one turn of a dict comprehension -/
def turnD (C : Cx) (tg : Tg) (ke ve : E) (sl : List Sl) (d : D) (S : List Cell) : Rs (Int × D) := match tgSet tg d sl with
  | none => .stk
  | some sl' => (evE C ke sl' S).bind fun k S => (evE C ve sl' S).bind fun y S => kyR y S k
@[simp] theorem evE_dcp {tg it ke ve} : evE C (.dcp tg it ke ve) sl S = (evI C it sl S).bind fun ds S => (dcpL (turnD C tg ke ve sl) ds S []).bind fun kvs S => .ok (.loc S.length) (S ++ [.dki kvs]) := by
  show (evI C it sl S).bind _ = (evI C it sl S).bind _
  congr 1
def dpsR (S : List Cell) : D → Rs D
  | .lst ds => match pairsK ds with
    | some ps => .ok (.loc S.length) (S ++ [.dki (mergeI [] ps)])
    | none => .stk
  | _ => .stk
theorem dpsR_lst {ds ps} (h : pairsK ds = some ps) : dpsR S (.lst ds) = .ok (.loc S.length) (S ++ [.dki (mergeI [] ps)]) := by
  show (match pairsK ds with | some ps => _ | none => _) = _
  rw [h]
@[simp] theorem evE_dps {e} : evE C (.dps e) sl S = (evE C e sl S).bind fun d S => dpsR S d := by
  show (evE C e sl S).bind _ = (evE C e sl S).bind _
  congr 1
@[simp] theorem evS_appx {o e} : evS C (.appx o e) sl S = (evE C o sl S).fl sl fun x S => if isLoc S x then (evE C e sl S).fl sl fun d S => chgx (fun xs => if xs.length < lim then some (xs ++ [d]) else none) sl S x else .stk := (rfl)
def subxF (sl : List Sl) (S : List Cell) (d x : D) : D → Fl
  | .int j => chgx (fun xs => (ixN xs.length j).map fun k => xs.set k d) sl S x
  | _ => .stk
@[simp] theorem subxF_int {d x j} : subxF sl S d x (.int j) = chgx (fun xs => (ixN xs.length j).map fun k => xs.set k d) sl S x := (rfl)
@[simp] theorem evS_subx {o i e} : evS C (.subx o i e) sl S = (evE C e sl S).fl sl fun d S => (evE C o sl S).fl sl fun x S => (evE C i sl S).fl sl fun j S => subxF sl S d x j := by
  show (evE C e sl S).fl sl _ = (evE C e sl S).fl sl _
  congr 1
def forcF (C : Cx) (tg : Tg) (b : List T) (sl : List Sl) (S : List Cell) : D → Fl
  | .loc n => if isLoc S (.loc n) then forCL (turnS C tg b) n C.wf 0 sl S else .stk
  | _ => .stk
@[simp] theorem forcF_loc {tg b n} : forcF C tg b sl S (.loc n) = if isLoc S (.loc n) then forCL (turnS C tg b) n C.wf 0 sl S else .stk := (rfl)
@[simp] theorem evS_forc {tg e b} : evS C (.forc tg e b) sl S = (evE C e sl S).fl sl fun x S => forcF C tg b sl S x := by
  show (evE C e sl S).fl sl _ = (evE C e sl S).fl sl _
  congr 1
@[simp] theorem evS_rse {c e} : evS C (.rse c e) sl S = (evE C e sl S).fl sl fun x S => .exc c x sl S := (rfl)
def tryF (c : Nat) (h : Hx) : Rs D → Fl
  | .ok d S => .ret d S
  | .exc c' x S => if c' = c then .ret (evH x h) S else .stk
  | .stk => .stk
@[simp] theorem tryF_ok {c h d} : tryF c h (.ok d S) = .ret d S := (rfl)
@[simp] theorem tryF_exc {c h d} : tryF c h (.exc c d S) = .ret (evH d h) S := by
  show (if c = c then _ else _) = _
  rw [if_pos rfl]
@[simp] theorem evS_tryr {e c i h} : evS C (.tryr e c i h) sl S = tryF c h (evE C e sl S) := by
  show (match evE C e sl S with | .ok d S => _ | .exc c' x S => _ | .stk => _) = _
  cases evE C e sl S <;> rfl
end
end G
end S_GM3
section S_T94
namespace T
open G
def s_refuse : List Nat := [114, 101, 102, 117, 115, 101]
def s_accept : List Nat := [97, 99, 99, 101, 112, 116]
def s_drop : List Nat := [100, 114, 111, 112]
def s_outer : List Nat := [111, 117, 116, 101, 114]
def s_inner : List Nat := [105, 110, 110, 101, 114]
def s_answer : List Nat := [97, 110, 115, 119, 101, 114]
def s_byte : List Nat := [98, 121, 116, 101]
def s_word : List Nat := [119, 111, 114, 100]
def s_special : List Nat := [115, 112, 101, 99, 105, 97, 108]
def s_put : List Nat := [112, 117, 116]
def s_mask : List Nat := [109, 97, 115, 107]
def s_less : List Nat := [108, 101, 115, 115]
def s_told : List Nat := [116, 111, 108, 100]
def s_interface : List Nat := [105, 110, 116, 101, 114, 102, 97, 99, 101]
def s_kind : List Nat := [107, 105, 110, 100]
def s_source : List Nat := [115, 111, 117, 114, 99, 101]
def s_sport : List Nat := [115, 112, 111, 114, 116]
def s_destination : List Nat := [100, 101, 115, 116, 105, 110, 97, 116, 105, 111, 110]
def s_dport : List Nat := [100, 112, 111, 114, 116]
def s_flags : List Nat := [102, 108, 97, 103, 115]
def s_code : List Nat := [99, 111, 100, 101]
def s_length : List Nat := [108, 101, 110, 103, 116, 104]
def s_talk : List Nat := [116, 97, 108, 107]
def s_side : List Nat := [115, 105, 100, 101]
def s_harm : List Nat := [104, 97, 114, 109]
def s_unset : List Nat := [117, 110, 115, 101, 116]
def s_outside : List Nat := [111, 117, 116, 115, 105, 100, 101]
def s_closed : List Nat := [99, 108, 111, 115, 101, 100]
def s_end : List Nat := [101, 110, 100]
def s_order : List Nat := [111, 114, 100, 101, 114]
def s_other : List Nat := [111, 116, 104, 101, 114]
/-- is_number: value top -/
def f_is_number : Fn := ⟨2, 2, [
.ret (.and [(.blt (.isa .int) [(.v 0)]), (.not (.tr (.blt (.isa .bool) [(.v 0)]))), (.chn .le .le (.k (.int 0)) (.v 0) (.v 1))])]⟩
/-- is_decision: value -/
def f_is_decision : Fn := ⟨1, 1, [
.ife (.or [(.not (.tr (.blt (.isa .tup) [(.v 0)]))), (.tr (.cmp .eq (.blt .len [(.v 0)]) (.k (.int 0)))), (.not (.tr (.blt (.isa .str) [(.ix (.v 0) (.k (.int 0)))])))]) [.ret (.k (.bl false))] [],
.ife (.tr (.cmp .eq (.ix (.v 0) (.k (.int 0))) (.k (.str s_refuse)))) [.ret (.and [(.cmp .eq (.blt .len [(.v 0)]) (.k (.int 2))), (.cal 0 [(.ix (.v 0) (.k (.int 1))), (.k (.int 255))])])] [],
.ret (.cmp .isin (.v 0) (.tup [(.tup [(.k (.str s_accept))]), (.tup [(.k (.str s_drop))])]))]⟩
/-- is_load: value -/
def f_is_load : Fn := ⟨1, 1, [
.ret (.and [(.blt (.isa .str) [(.ix (.v 0) (.k (.int 2)))]), (.cmp .isin (.ix (.v 0) (.k (.int 2))) (.tup [(.k (.str s_outer)), (.k (.str s_inner))])), (.cal 0 [(.ix (.v 0) (.k (.int 3))), (.k (.int 1500))])])]⟩
/-- is_instruction: value at many target -/
def f_is_instruction : Fn := ⟨3, 4, [
.ife (.or [(.not (.tr (.blt (.isa .tup) [(.v 0)]))), (.tr (.cmp .lt (.blt .len [(.v 0)]) (.k (.int 2)))), (.not (.tr (.blt (.isa .str) [(.ix (.v 0) (.k (.int 0)))])))]) [.ret (.k (.bl false))] [],
.ife (.tr (.cmp .eq (.ix (.v 0) (.k (.int 0))) (.k (.str s_answer)))) [.ret (.and [(.cmp .eq (.blt .len [(.v 0)]) (.k (.int 2))), (.cal 12 [(.ix (.v 0) (.k (.int 1)))])])] [],
.ife (.not (.tr (.cal 0 [(.ix (.v 0) (.k (.int 1))), (.bin .sub (.g 14) (.k (.int 1)))]))) [.ret (.k (.bl false))] [],
.ife (.tr (.cmp .isin (.ix (.v 0) (.k (.int 0))) (.tup [(.k (.str s_byte)), (.k (.str s_word))]))) [.ret (.and [(.cmp .eq (.blt .len [(.v 0)]) (.k (.int 4))), (.cal 242 [(.v 0)])])] [],
.ife (.tr (.cmp .eq (.ix (.v 0) (.k (.int 0))) (.k (.str s_special)))) [.ret (.and [(.cmp .eq (.blt .len [(.v 0)]) (.k (.int 3))), (.blt (.isa .str) [(.ix (.v 0) (.k (.int 2)))]), (.cmp .isin (.ix (.v 0) (.k (.int 2))) (.g 13))])] [],
.ife (.tr (.cmp .isin (.ix (.v 0) (.k (.int 0))) (.tup [(.k (.str s_put)), (.k (.str s_mask))]))) [.ret (.and [(.cmp .eq (.blt .len [(.v 0)]) (.k (.int 3))), (.cal 0 [(.ix (.v 0) (.k (.int 2))), (.k (.int 65535))])])] [],
.ife (.or [(.tr (.cmp .ne (.ix (.v 0) (.k (.int 0))) (.k (.str s_less)))), (.tr (.cmp .ne (.blt .len [(.v 0)]) (.k (.int 5)))), (.not (.tr (.cal 0 [(.ix (.v 0) (.k (.int 2))), (.k (.int 65535))])))]) [.ret (.k (.bl false))] [],
.ret (.blt .all [(.comp (.s 3) (.e (.sl (.v 0) (some (.k (.int 3))) none)) (.and [(.cal 0 [(.v 3), (.bin .sub (.v 2) (.k (.int 1)))]), (.cmp .gt (.v 3) (.v 1))]) [])])]⟩
/-- is_program: value at -/
def f_is_program : Fn := ⟨1, 2, [
.ife (.or [(.not (.tr (.blt (.isa .tup) [(.v 0)]))), (.not (.tr (.chn .le .le (.k (.int 1)) (.blt .len [(.v 0)]) (.k (.int 200)))))]) [.ret (.k (.bl false))] [],
.ret (.blt .all [(.comp (.s 1) (.rng [(.blt .len [(.v 0)])]) (.cal 243 [(.ix (.v 0) (.v 1)), (.v 1), (.blt .len [(.v 0)])]) [])])]⟩
/-- goes_on: instruction -/
def f_goes_on : Fn := ⟨1, 1, [
.ret (.cmp .notin (.ix (.v 0) (.k (.int 0))) (.tup [(.k (.str s_less)), (.k (.str s_answer))]))]⟩
/-- relinked: program order many places found k number instruction after -/
def f_relinked : Fn := ⟨2, 9, [
.set 2 (.blt .len [(.v 0)]),
.ife (.or [(.tr (.cmp .ne (.blt .len [(.v 1)]) (.v 2))), (.not (.tr (.blt .all [(.comp (.s 6) (.e (.v 1)) (.cal 0 [(.v 6), (.bin .sub (.v 2) (.k (.int 1)))]) [])]))), (.tr (.cmp .ne (.blt .lenset [(.v 1)]) (.v 2)))]) [.rse 0 (.v 1)] [],
.set 3 (.dcp (.s 5) (.rng [(.v 2)]) (.ix (.v 1) (.v 5)) (.v 5)),
.setO 4 (.lst []),
.for_ (.s 5) (.rng [(.v 2)]) [.set 6 (.ix (.v 1) (.v 5)), .set 7 (.ix (.v 0) (.v 6)), .set 8 (.ite (.tr (.cmp .lt (.bin .add (.v 5) (.k (.int 1))) (.v 2))) (.ix (.v 1) (.bin .add (.v 5) (.k (.int 1)))) (.v 2)), .ife (.and [(.tr (.cal 245 [(.v 7)])), (.tr (.cmp .ne (.v 8) (.bin .add (.v 6) (.k (.int 1)))))]) [.rse 0 (.v 1)] [], .ife (.tr (.cmp .eq (.ix (.v 7) (.k (.int 0))) (.k (.str s_less)))) [.set 7 (.bin .add (.sl (.v 7) none (some (.k (.int 3)))) (.tup [(.dgx (.v 3) (.ix (.v 7) (.k (.int 3)))), (.dgx (.v 3) (.ix (.v 7) (.k (.int 4))))]))] [], .app (.b 4) (.v 7)],
.ife (.not (.tr (.cal 244 [(.blt .tuple [(.b 4)])]))) [.rse 0 (.v 1)] [],
.ret (.blt .tuple [(.b 4)])]⟩
/-- _law_same: actual due k -/
def f_l_same : Fn := ⟨2, 3, [
.ife (.or [(.tr (.blt (.isa .tup) [(.v 1)])), (.tr (.blt (.isa .lst) [(.v 1)]))]) [.ife (.or [(.tr (.cmp .ne (.blt (.isa .tup) [(.v 1)]) (.blt (.isa .tup) [(.v 0)]))), (.tr (.cmp .ne (.blt (.isa .lst) [(.v 1)]) (.blt (.isa .lst) [(.v 0)]))), (.tr (.cmp .ne (.blt .len [(.v 0)]) (.blt .len [(.v 1)])))]) [.ret (.k (.bl false))] [], .ret (.cmp .eq (.blt .len [(.comp (.s 2) (.rng [(.blt .len [(.v 1)])]) (.v 2) [(.not (.tr (.cal 27 [(.ix (.v 0) (.v 2)), (.ix (.v 1) (.v 2))])))])]) (.k (.int 0)))] [],
.ife (.tr (.cmp .isn (.v 1) (.k .non))) [.ret (.cmp .isn (.v 0) (.k .non))] [],
.ife (.or [(.tr (.blt (.isa .bool) [(.v 1)])), (.tr (.blt (.isa .bool) [(.v 0)]))]) [.ret (.and [(.blt (.isa .bool) [(.v 1)]), (.blt (.isa .bool) [(.v 0)]), (.cmp .eq (.v 0) (.v 1))])] [],
.ife (.tr (.blt (.isa .int) [(.v 1)])) [.ret (.and [(.blt (.isa .int) [(.v 0)]), (.cmp .eq (.v 0) (.v 1))])] [],
.ret (.and [(.blt (.isa .str) [(.v 0)]), (.cmp .eq (.v 0) (.v 1))])]⟩
/-- _law_is_integer: actual -/
def f_l_is_integer : Fn := ⟨1, 1, [
.ret (.and [(.blt (.isa .int) [(.v 0)]), (.not (.tr (.blt (.isa .bool) [(.v 0)])))])]⟩
/-- _law_pool: script salt cell -/
def f_l_pool : Fn := ⟨1, 3, [
.set 1 (.k (.int 7)),
.for_ (.s 2) (.e (.sl (.v 0) none (some (.k (.int 63))))) [.set 1 (.bin .mod (.blt .int [(.bin .add (.bin .mul (.v 1) (.k (.int 31))) (.v 2))]) (.k (.int 1000003)))],
.ret (.mk [(.blt .list [(.v 0)]), (.k (.int 0)), (.k (.int 0)), (.k (.int 0)), (.v 1)])]⟩
/-- _law_spread: cell mixed total k -/
def f_l_spread : Fn := ⟨1, 4, [
.set 1 (.bin .mod (.blt .int [(.v 0)]) (.k (.int 2147483647))),
.set 2 (.k (.int 1)),
.for_ (.s 3) (.rng [(.k (.int 4))]) [.set 1 (.bin .mod (.blt .int [(.bin .add (.bin .add (.bin .mul (.v 1) (.k (.int 48271))) (.k (.int 12345))) (.v 3))]) (.k (.int 2147483647))), .set 2 (.bin .add (.bin .mul (.v 2) (.k (.int 2147483647))) (.v 1))],
.ret (.v 2)]⟩
/-- _law_draw: pool many value cell mixed -/
def f_l_draw : Fn := ⟨2, 5, [
.ife (.and [(.tr (.cmp .le (.ix (.v 0) (.k (.int 2))) (.k (.int 0)))), (.tr (.cmp .lt (.ix (.v 0) (.k (.int 1))) (.blt .len [(.ix (.v 0) (.k (.int 0)))])))]) [.set 3 (.ix (.ix (.v 0) (.k (.int 0))) (.ix (.v 0) (.k (.int 1)))), .sub (.b 0) (.k (.int 1)) (.bin .add (.ix (.v 0) (.k (.int 1))) (.k (.int 1))), .sub (.b 0) (.k (.int 2)) (.v 3), .ife (.tr (.cmp .lt (.v 3) (.k (.int 1000000000000000000)))) [.sub (.b 0) (.k (.int 2)) (.cal 30 [(.v 3)])] []] [],
.sub (.b 0) (.k (.int 3)) (.bin .add (.ix (.v 0) (.k (.int 3))) (.k (.int 1))),
.ife (.tr (.cmp .le (.ix (.v 0) (.k (.int 2))) (.k (.int 0)))) [.set 4 (.bin .mod (.blt .int [(.bin .add (.bin .add (.bin .mul (.ix (.v 0) (.k (.int 4))) (.k (.int 48271))) (.bin .mul (.ix (.v 0) (.k (.int 3))) (.k (.int 69621)))) (.k (.int 1)))]) (.k (.int 2147483647))), .set 4 (.bin .mod (.blt .int [(.bin .add (.bin .mul (.v 4) (.k (.int 16807))) (.ix (.v 0) (.k (.int 3))))]) (.k (.int 2147483629))), .ret (.bin .mod (.bin .fdiv (.v 4) (.k (.int 5))) (.v 1))] [],
.set 2 (.bin .mod (.blt .int [(.ix (.v 0) (.k (.int 2)))]) (.v 1)),
.sub (.b 0) (.k (.int 2)) (.bin .fdiv (.ix (.v 0) (.k (.int 2))) (.v 1)),
.ret (.v 2)]⟩
/-- _law_pick: pool items -/
def f_l_pick : Fn := ⟨2, 2, [
.ret (.ix (.v 1) (.cal 31 [(.v 0), (.blt .len [(.v 1)])]))]⟩
/-- _law_number: pool top turn -/
def f_l_number : Fn := ⟨2, 3, [
.set 2 (.cal 31 [(.v 0), (.k (.int 4))]),
.ife (.tr (.cmp .eq (.v 2) (.k (.int 0)))) [.ret (.cal 31 [(.v 0), (.bin .add (.v 1) (.k (.int 1)))])] [],
.ife (.tr (.cmp .eq (.v 2) (.k (.int 1)))) [.ret (.blt .min2 [(.v 1), (.cal 31 [(.v 0), (.k (.int 12))])])] [],
.ife (.tr (.cmp .eq (.v 2) (.k (.int 2)))) [.ret (.blt .max2 [(.k (.int 0)), (.bin .sub (.v 1) (.cal 31 [(.v 0), (.k (.int 12))]))])] [],
.ret (.blt .min2 [(.v 1), (.bin .mul (.k (.int 256)) (.cal 31 [(.v 0), (.k (.int 256))]))])]⟩
/-- _law_wrapped: due -/
def f_l_wrapped : Fn := ⟨1, 1, [
.ret (.ite (.tr (.blt (.isa .str) [(.v 0)])) (.v 0) (.tup [(.k (.str s_told)), (.v 0)]))]⟩
/-- _law_fold: words total -/
def f_l_fold : Fn := ⟨1, 2, [
.set 1 (.blt .sum [(.v 0)]),
.whl (.tr (.cmp .gt (.v 1) (.k (.int 65535)))) [.set 1 (.bin .add (.bin .fdiv (.v 1) (.k (.int 65536))) (.bin .mod (.blt .int [(.v 1)]) (.k (.int 65536))))],
.ret (.v 1)]⟩
/-- _law_words: row even k -/
def f_l_words : Fn := ⟨1, 3, [
.set 1 (.bin .add (.blt .list [(.v 0)]) (.bin .mul (.lst [(.k (.int 0))]) (.bin .mod (.blt .int [(.blt .len [(.v 0)])]) (.k (.int 2))))),
.ret (.comp (.s 2) (.rng [(.bin .fdiv (.blt .len [(.v 1)]) (.k (.int 2)))]) (.bin .add (.bin .mul (.k (.int 256)) (.ix (.v 1) (.bin .mul (.k (.int 2)) (.v 2)))) (.ix (.v 1) (.bin .add (.bin .mul (.k (.int 2)) (.v 2)) (.k (.int 1))))) [])]⟩
/-- _law_check: row -/
def f_l_check : Fn := ⟨1, 1, [
.ret (.bin .sub (.k (.int 65535)) (.cal 248 [(.cal 249 [(.v 0)])]))]⟩
/-- _law_two: number -/
def f_l_two : Fn := ⟨1, 1, [
.ret (.tup [(.bin .fdiv (.v 0) (.k (.int 256))), (.bin .mod (.blt .int [(.v 0)]) (.k (.int 256)))])]⟩
/-- _law_row: pool many k -/
def f_l_row : Fn := ⟨2, 3, [
.ret (.blt .tuple [(.comp (.s 2) (.rng [(.v 1)]) (.ix (.tup [(.cal 31 [(.v 0), (.k (.int 256))]), (.k (.int 0)), (.k (.int 255)), (.k (.int 1))]) (.cal 31 [(.v 0), (.k (.int 4))])) [])])]⟩
/-- _law_inner_size: kind -/
def f_l_inner_size : Fn := ⟨1, 1, [
.ret (.ite (.tr (.cmp .eq (.v 0) (.k (.int 6)))) (.k (.int 8)) (.ite (.tr (.cmp .eq (.v 0) (.k (.int 17)))) (.k (.int 6)) (.ite (.tr (.cmp .eq (.v 0) (.k (.int 1)))) (.k (.int 4)) (.k (.int 0)))))]⟩
/-- _law_length: packet -/
def f_l_length : Fn := ⟨1, 1, [
.ret (.bin .add (.bin .add (.bin .add (.k (.int 12)) (.blt .len [(.ix (.v 0) (.k (.int 4)))])) (.cal 94 [(.ix (.v 0) (.k (.int 2)))])) (.blt .len [(.ix (.v 0) (.k (.int 6)))]))]⟩
/-- _law_is_number: value top -/
def f_l_is_number : Fn := ⟨2, 2, [
.ret (.and [(.cal 28 [(.v 0)]), (.cmp .le (.k (.int 0)) (.v 0)), (.cmp .le (.v 0) (.v 1))])]⟩
/-- _law_bytes: packet head ends outer inner rest check -/
def f_l_bytes : Fn := ⟨1, 7, [
.set 1 (.bin .add (.bin .add (.tup [(.bin .add (.k (.int 70)) (.bin .fdiv (.blt .len [(.ix (.v 0) (.k (.int 4)))]) (.k (.int 2)))), (.ix (.v 0) (.k (.int 2)))]) (.cal 251 [(.cal 252 [(.v 0)])])) (.tup [(.ix (.v 0) (.k (.int 3))), (.k (.int 0))])),
.set 2 (.bin .add (.cal 251 [(.ix (.v 0) (.k (.int 0)))]) (.cal 251 [(.ix (.v 0) (.k (.int 1)))])),
.set 3 (.bin .add (.bin .add (.bin .add (.v 1) (.cal 251 [(.cal 250 [(.bin .add (.bin .add (.bin .add (.v 1) (.tup [(.k (.int 0)), (.k (.int 0))])) (.v 2)) (.ix (.v 0) (.k (.int 4))))])])) (.v 2)) (.ix (.v 0) (.k (.int 4)))),
.set 4 (.ix (.v 0) (.k (.int 5))),
.ife (.tr (.cmp .eq (.ix (.v 0) (.k (.int 2))) (.k (.int 6)))) [.set 4 (.bin .add (.bin .add (.cal 251 [(.ix (.v 4) (.k (.int 0)))]) (.cal 251 [(.ix (.v 4) (.k (.int 1)))])) (.tup [(.ix (.v 4) (.k (.int 2))), (.k (.int 0))]))] [],
.ife (.tr (.cmp .eq (.ix (.v 0) (.k (.int 2))) (.k (.int 17)))) [.set 4 (.bin .add (.cal 251 [(.ix (.v 4) (.k (.int 0)))]) (.cal 251 [(.ix (.v 4) (.k (.int 1)))]))] [],
.ife (.tr (.cmp .eq (.cal 94 [(.ix (.v 0) (.k (.int 2)))]) (.k (.int 0)))) [.ret (.bin .add (.v 3) (.ix (.v 0) (.k (.int 6))))] [],
.set 5 (.bin .add (.bin .add (.v 4) (.tup [(.k (.int 0)), (.k (.int 0))])) (.ix (.v 0) (.k (.int 6)))),
.set 6 (.cal 250 [(.bin .add (.bin .add (.bin .add (.v 2) (.cal 251 [(.ix (.v 0) (.k (.int 2)))])) (.cal 251 [(.blt .len [(.v 5)])])) (.v 5))]),
.ret (.bin .add (.bin .add (.bin .add (.v 3) (.v 4)) (.cal 251 [(.v 6)])) (.ix (.v 0) (.k (.int 6))))]⟩
/-- _law_fields:  -/
def f_l_fields : Fn := ⟨0, 0, [
.ret (.tup [(.k (.str s_interface)), (.k (.str s_kind)), (.k (.str s_source)), (.k (.str s_sport)), (.k (.str s_destination)), (.k (.str s_dport)), (.k (.str s_flags)), (.k (.str s_code)), (.k (.str s_length)), (.k (.str s_talk)), (.k (.str s_side))])]⟩
/-- _law_least: kind -/
def f_l_least : Fn := ⟨1, 1, [
.ret (.bin .add (.k (.int 12)) (.cal 94 [(.v 0)]))]⟩
/-- _law_world: pool first found address -/
def f_l_world : Fn := ⟨1, 4, [
.set 1 (.cal 223 [(.v 0), (.k (.int 65535))]),
.setO 2 (.lst [(.v 1)]),
.whl (.tr (.cmp .lt (.blt .len [(.b 2)]) (.k (.int 3)))) [.set 3 (.ix (.tup [(.bin .sub (.bin .add (.cal 223 [(.v 0), (.k (.int 65535))]) (.blt .len [(.b 2)])) (.k (.int 1))), (.bin .add (.v 1) (.blt .len [(.b 2)]))]) (.cal 31 [(.v 0), (.k (.int 2))])), .set 3 (.bin .mod (.blt .int [(.v 3)]) (.k (.int 65536))), .whl (.tr (.cmp .isin (.v 3) (.b 2))) [.set 3 (.bin .mod (.blt .int [(.bin .add (.v 3) (.k (.int 1)))]) (.k (.int 65536)))], .app (.b 2) (.v 3)],
.ret (.tup [(.blt .tuple [(.b 2)]), (.tup [(.cal 223 [(.v 0), (.k (.int 65535))]), (.cal 223 [(.v 0), (.k (.int 65535))])])])]⟩
/-- _law_sight: pool world most kind at source destination ports flags code length -/
def f_l_sight : Fn := ⟨3, 11, [
.set 3 (.ix (.tup [(.k (.int 6)), (.k (.int 6)), (.k (.int 6)), (.k (.int 17)), (.k (.int 17)), (.k (.int 1)), (.cal 31 [(.v 0), (.k (.int 256))])]) (.cal 31 [(.v 0), (.k (.int 7))])),
.set 4 (.cal 31 [(.v 0), (.k (.int 3))]),
.set 5 (.ix (.ix (.v 1) (.k (.int 0))) (.v 4)),
.set 6 (.ix (.ix (.v 1) (.k (.int 0))) (.bin .mod (.blt .int [(.bin .add (.bin .add (.v 4) (.k (.int 1))) (.cal 31 [(.v 0), (.k (.int 2))]))]) (.k (.int 3)))),
.set 7 (.ite (.tr (.cmp .isin (.v 3) (.tup [(.k (.int 6)), (.k (.int 17))]))) (.tup [(.ix (.ix (.v 1) (.k (.int 1))) (.cal 31 [(.v 0), (.k (.int 2))])), (.ix (.ix (.v 1) (.k (.int 1))) (.cal 31 [(.v 0), (.k (.int 2))]))]) (.tup [(.k (.int 0)), (.k (.int 0))])),
.set 8 (.ite (.tr (.cmp .eq (.v 3) (.k (.int 6)))) (.ix (.tup [(.k (.int 0)), (.k (.int 1)), (.k (.int 1)), (.k (.int 2)), (.k (.int 4)), (.cal 31 [(.v 0), (.k (.int 8))])]) (.cal 31 [(.v 0), (.k (.int 6))])) (.k (.int 0))),
.set 9 (.ite (.tr (.cmp .eq (.v 3) (.k (.int 1)))) (.cal 31 [(.v 0), (.k (.int 65536))]) (.k (.int 0))),
.set 10 (.bin .add (.cal 95 [(.v 3)]) (.ix (.tup [(.k (.int 0)), (.k (.int 0)), (.k (.int 1)), (.cal 31 [(.v 0), (.bin .add (.v 2) (.k (.int 1)))])]) (.cal 31 [(.v 0), (.k (.int 4))]))),
.ret (.tup [(.cal 31 [(.v 0), (.k (.int 2))]), (.v 3), (.v 5), (.ix (.v 7) (.k (.int 0))), (.v 6), (.ix (.v 7) (.k (.int 1))), (.v 8), (.v 9), (.v 10)])]⟩
/-- _law_seen: interface packet inner ports flags code -/
def f_l_seen : Fn := ⟨2, 6, [
.set 2 (.ix (.v 1) (.k (.int 5))),
.set 3 (.ite (.tr (.cmp .isin (.ix (.v 1) (.k (.int 2))) (.tup [(.k (.int 6)), (.k (.int 17))]))) (.sl (.v 2) none (some (.k (.int 2)))) (.tup [(.k (.int 0)), (.k (.int 0))])),
.set 4 (.ite (.tr (.cmp .eq (.ix (.v 1) (.k (.int 2))) (.k (.int 6)))) (.ix (.v 2) (.k (.int 2))) (.k (.int 0))),
.set 5 (.ite (.tr (.cmp .eq (.ix (.v 1) (.k (.int 2))) (.k (.int 1)))) (.bin .add (.bin .mul (.k (.int 256)) (.ix (.v 2) (.k (.int 0)))) (.ix (.v 2) (.k (.int 1)))) (.k (.int 0))),
.ret (.tup [(.v 0), (.ix (.v 1) (.k (.int 2))), (.ix (.v 1) (.k (.int 0))), (.ix (.v 3) (.k (.int 0))), (.ix (.v 1) (.k (.int 1))), (.ix (.v 3) (.k (.int 1))), (.v 4), (.v 5), (.cal 252 [(.v 1)])])]⟩
/-- _law_plain_packet: sight kind inner -/
def f_l_plain_packet : Fn := ⟨1, 3, [
.set 1 (.ix (.v 0) (.k (.int 1))),
.set 2 (.tup []),
.ife (.tr (.cmp .eq (.v 1) (.k (.int 6)))) [.set 2 (.tup [(.ix (.v 0) (.k (.int 3))), (.ix (.v 0) (.k (.int 5))), (.ix (.v 0) (.k (.int 6)))])] [],
.ife (.tr (.cmp .eq (.v 1) (.k (.int 17)))) [.set 2 (.tup [(.ix (.v 0) (.k (.int 3))), (.ix (.v 0) (.k (.int 5)))])] [],
.ife (.tr (.cmp .eq (.v 1) (.k (.int 1)))) [.set 2 (.cal 251 [(.ix (.v 0) (.k (.int 7)))])] [],
.ret (.tup [(.ix (.v 0) (.k (.int 2))), (.ix (.v 0) (.k (.int 4))), (.v 1), (.k (.int 64)), (.tup []), (.v 2), (.bin .mul (.tup [(.k (.int 0))]) (.bin .sub (.ix (.v 0) (.k (.int 8))) (.cal 95 [(.v 1)])))])]⟩
/-- _law_sender: sight -/
def f_l_sender : Fn := ⟨1, 1, [
.ret (.ite (.and [(.tr (.cmp .isin (.ix (.v 0) (.k (.int 1))) (.tup [(.k (.int 6)), (.k (.int 17))]))), (.tr (.cmp .gt (.ix (.v 0) (.k (.int 2))) (.ix (.v 0) (.k (.int 4)))))]) (.k (.int 1)) (.k (.int 0)))]⟩
/-- _law_side: state sender -/
def f_l_side : Fn := ⟨2, 2, [
.ife (.tr (.cmp .eq (.v 0) (.k (.int 0)))) [.ret (.k (.int 0))] [],
.ret (.ite (.tr (.cmp .gt (.v 0) (.k (.int 0)))) (.v 1) (.bin .sub (.k (.int 1)) (.v 1)))]⟩
/-- _law_step: kind state side flags -/
def f_l_step : Fn := ⟨4, 4, [
.ife (.tr (.cmp .eq (.v 0) (.k (.int 17)))) [.ret (.ite (.tr (.cmp .eq (.v 1) (.k (.int 0)))) (.k (.int 1)) (.blt .max2 [(.v 1), (.bin .add (.k (.int 1)) (.v 2))]))] [],
.ife (.tr (.cmp .eq (.v 1) (.k (.int 0)))) [.ret (.ite (.tr (.cmp .eq (.v 3) (.k (.int 1)))) (.k (.int 1)) (.k .non))] [],
.ife (.tr (.cmp .eq (.v 1) (.k (.int 1)))) [.ret (.ite (.tr (.cmp .eq (.v 3) (.k (.int 4)))) (.k (.int 0)) (.ite (.tr (.cmp .eq (.v 3) (.k (.int 1)))) (.bin .add (.k (.int 1)) (.v 2)) (.k .non)))] [],
.ife (.tr (.cmp .isin (.v 3) (.tup [(.k (.int 4)), (.k (.int 6))]))) [.ret (.k (.int 0))] [],
.ife (.tr (.cmp .notin (.v 3) (.tup [(.k (.int 0)), (.k (.int 2))]))) [.ret (.k .non)] [],
.ife (.tr (.cmp .eq (.v 3) (.k (.int 0)))) [.ret (.v 1)] [],
.ife (.tr (.cmp .eq (.v 1) (.k (.int 2)))) [.ret (.bin .add (.k (.int 3)) (.v 2))] [],
.ret (.ite (.tr (.cmp .eq (.v 2) (.bin .sub (.v 1) (.k (.int 3))))) (.v 1) (.k (.int 0)))]⟩
/-- _law_moved: kind state sender flags found opener -/
def f_l_moved : Fn := ⟨4, 6, [
.set 4 (.cal 98 [(.v 0), (.blt .abs [(.v 1)]), (.cal 97 [(.v 1), (.v 2)]), (.v 3)]),
.ife (.tr (.cmp .isn (.v 4) (.k .non))) [.ret (.k .non)] [],
.set 5 (.ite (.tr (.cmp .eq (.v 1) (.k (.int 0)))) (.v 2) (.ite (.tr (.cmp .gt (.v 1) (.k (.int 0)))) (.k (.int 0)) (.k (.int 1)))),
.ret (.ite (.tr (.cmp .eq (.v 5) (.k (.int 0)))) (.v 4) (.bin .sub (.k (.int 0)) (.v 4)))]⟩
/-- _law_talk: kind state sender flags -/
def f_l_talk : Fn := ⟨4, 4, [
.ife (.tr (.cmp .notin (.v 0) (.tup [(.k (.int 6)), (.k (.int 17))]))) [.ret (.k (.int 0))] [],
.ret (.ite (.tr (.cmp .isn (.cal 99 [(.v 0), (.v 1), (.v 2), (.v 3)]) (.k .non))) (.k (.int 6)) (.bin .add (.blt .abs [(.v 1)]) (.k (.int 1))))]⟩
/-- _law_view: sight state sender -/
def f_l_view : Fn := ⟨2, 3, [
.set 2 (.cal 96 [(.v 0)]),
.ife (.tr (.cmp .notin (.ix (.v 0) (.k (.int 1))) (.tup [(.k (.int 6)), (.k (.int 17))]))) [.ret (.bin .add (.v 0) (.tup [(.k (.int 0)), (.k (.int 0))]))] [],
.ret (.bin .add (.v 0) (.tup [(.cal 100 [(.ix (.v 0) (.k (.int 1))), (.v 1), (.v 2), (.ix (.v 0) (.k (.int 6)))]), (.cal 97 [(.v 1), (.v 2)])]))]⟩
/-- _law_states: kind -/
def f_l_states : Fn := ⟨1, 1, [
.ret (.ite (.tr (.cmp .eq (.v 0) (.k (.int 6)))) (.rgx false [(.neg (.k (.int 4))), (.k (.int 5))]) (.ite (.tr (.cmp .eq (.v 0) (.k (.int 17)))) (.rgx false [(.neg (.k (.int 2))), (.k (.int 3))]) (.lst [(.k (.int 0))])))]⟩
/-- _law_decision: pool -/
def f_l_decision : Fn := ⟨1, 1, [
.ret (.ix (.tup [(.tup [(.k (.str s_accept))]), (.tup [(.k (.str s_accept))]), (.tup [(.k (.str s_drop))]), (.tup [(.k (.str s_refuse)), (.cal 31 [(.v 0), (.k (.int 256))])])]) (.cal 31 [(.v 0), (.k (.int 4))]))]⟩
/-- _law_is_decision: value -/
def f_l_is_decision : Fn := ⟨1, 1, [
.ife (.or [(.not (.tr (.blt (.isa .tup) [(.v 0)]))), (.tr (.cmp .eq (.blt .len [(.v 0)]) (.k (.int 0)))), (.not (.tr (.blt (.isa .str) [(.ix (.v 0) (.k (.int 0)))])))]) [.ret (.k (.bl false))] [],
.ife (.tr (.cmp .eq (.ix (.v 0) (.k (.int 0))) (.k (.str s_refuse)))) [.ret (.and [(.cmp .eq (.blt .len [(.v 0)]) (.k (.int 2))), (.cal 45 [(.ix (.v 0) (.k (.int 1))), (.k (.int 255))])])] [],
.ret (.and [(.cmp .eq (.blt .len [(.v 0)]) (.k (.int 1))), (.cmp .isin (.ix (.v 0) (.k (.int 0))) (.tup [(.k (.str s_accept)), (.k (.str s_drop))]))])]⟩
/-- _law_is_instruction: value at many k -/
def f_l_is_instruction : Fn := ⟨3, 4, [
.ife (.or [(.not (.tr (.blt (.isa .tup) [(.v 0)]))), (.tr (.cmp .lt (.blt .len [(.v 0)]) (.k (.int 2)))), (.not (.tr (.blt (.isa .str) [(.ix (.v 0) (.k (.int 0)))])))]) [.ret (.k (.bl false))] [],
.ife (.tr (.cmp .eq (.ix (.v 0) (.k (.int 0))) (.k (.str s_answer)))) [.ret (.and [(.cmp .eq (.blt .len [(.v 0)]) (.k (.int 2))), (.cal 56 [(.ix (.v 0) (.k (.int 1)))])])] [],
.ife (.not (.tr (.cal 45 [(.ix (.v 0) (.k (.int 1))), (.k (.int 3))]))) [.ret (.k (.bl false))] [],
.ife (.tr (.cmp .isin (.ix (.v 0) (.k (.int 0))) (.tup [(.k (.str s_byte)), (.k (.str s_word))]))) [.ret (.and [(.cmp .eq (.blt .len [(.v 0)]) (.k (.int 4))), (.blt (.isa .str) [(.ix (.v 0) (.k (.int 2)))]), (.cmp .isin (.ix (.v 0) (.k (.int 2))) (.tup [(.k (.str s_outer)), (.k (.str s_inner))])), (.cal 45 [(.ix (.v 0) (.k (.int 3))), (.k (.int 1500))])])] [],
.ife (.tr (.cmp .eq (.ix (.v 0) (.k (.int 0))) (.k (.str s_special)))) [.ret (.and [(.cmp .eq (.blt .len [(.v 0)]) (.k (.int 3))), (.blt (.isa .str) [(.ix (.v 0) (.k (.int 2)))]), (.cmp .isin (.ix (.v 0) (.k (.int 2))) (.tup [(.k (.str s_interface)), (.k (.str s_length)), (.k (.str s_talk)), (.k (.str s_side))]))])] [],
.ife (.tr (.cmp .isin (.ix (.v 0) (.k (.int 0))) (.tup [(.k (.str s_put)), (.k (.str s_mask))]))) [.ret (.and [(.cmp .eq (.blt .len [(.v 0)]) (.k (.int 3))), (.cal 45 [(.ix (.v 0) (.k (.int 2))), (.k (.int 65535))])])] [],
.ife (.or [(.tr (.cmp .ne (.ix (.v 0) (.k (.int 0))) (.k (.str s_less)))), (.tr (.cmp .ne (.blt .len [(.v 0)]) (.k (.int 5)))), (.not (.tr (.cal 45 [(.ix (.v 0) (.k (.int 2))), (.k (.int 65535))])))]) [.ret (.k (.bl false))] [],
.ret (.cmp .eq (.blt .len [(.comp (.s 3) (.e (.sl (.v 0) (some (.k (.int 3))) none)) (.v 3) [(.or [(.not (.tr (.cal 45 [(.v 3), (.bin .sub (.v 2) (.k (.int 1)))]))), (.tr (.cmp .le (.v 3) (.v 1)))])])]) (.k (.int 0)))]⟩
/-- _law_is_program: value at -/
def f_l_is_program : Fn := ⟨1, 2, [
.ife (.or [(.not (.tr (.blt (.isa .tup) [(.v 0)]))), (.tr (.cmp .lt (.blt .len [(.v 0)]) (.k (.int 1)))), (.tr (.cmp .gt (.blt .len [(.v 0)]) (.k (.int 200))))]) [.ret (.k (.bl false))] [],
.ret (.cmp .eq (.blt .len [(.comp (.s 1) (.rng [(.blt .len [(.v 0)])]) (.v 1) [(.not (.tr (.cal 256 [(.ix (.v 0) (.v 1)), (.v 1), (.blt .len [(.v 0)])])))])]) (.k (.int 0)))]⟩
/-- _law_instruction: pool at many slot turn number -/
def f_l_instruction : Fn := ⟨3, 6, [
.set 3 (.ix (.tup [(.k (.int 0)), (.k (.int 1)), (.k (.int 0)), (.k (.int 1)), (.k (.int 2)), (.k (.int 3))]) (.cal 31 [(.v 0), (.k (.int 6))])),
.set 4 (.cal 31 [(.v 0), (.k (.int 8))]),
.ife (.or [(.tr (.cmp .eq (.v 4) (.k (.int 0)))), (.tr (.cmp .eq (.v 1) (.bin .sub (.v 2) (.k (.int 1)))))]) [.ret (.tup [(.k (.str s_answer)), (.cal 50 [(.v 0)])])] [],
.ife (.tr (.cmp .eq (.v 4) (.k (.int 1)))) [.ret (.tup [(.k (.str s_byte)), (.v 3), (.ix (.tup [(.k (.str s_outer)), (.k (.str s_inner))]) (.cal 31 [(.v 0), (.k (.int 2))])), (.ix (.tup [(.k (.int 0)), (.k (.int 1)), (.k (.int 4)), (.k (.int 8)), (.k (.int 9)), (.k (.int 11)), (.k (.int 2)), (.k (.int 5)), (.k (.int 12)), (.cal 31 [(.v 0), (.k (.int 24))]), (.cal 31 [(.v 0), (.k (.int 90))])]) (.cal 31 [(.v 0), (.k (.int 11))]))])] [],
.ife (.tr (.cmp .eq (.v 4) (.k (.int 2)))) [.ret (.tup [(.k (.str s_word)), (.v 3), (.ix (.tup [(.k (.str s_outer)), (.k (.str s_inner))]) (.cal 31 [(.v 0), (.k (.int 2))])), (.ix (.tup [(.k (.int 8)), (.k (.int 10)), (.k (.int 0)), (.k (.int 2)), (.cal 31 [(.v 0), (.k (.int 20))])]) (.cal 31 [(.v 0), (.k (.int 5))]))])] [],
.ife (.tr (.cmp .eq (.v 4) (.k (.int 3)))) [.ret (.tup [(.k (.str s_special)), (.v 3), (.ix (.tup [(.k (.str s_interface)), (.k (.str s_length)), (.k (.str s_talk)), (.k (.str s_side))]) (.cal 31 [(.v 0), (.k (.int 4))]))])] [],
.ife (.tr (.cmp .eq (.v 4) (.k (.int 4)))) [.ret (.ix (.tup [(.tup [(.k (.str s_put)), (.v 3), (.cal 31 [(.v 0), (.k (.int 300))])]), (.tup [(.k (.str s_mask)), (.v 3), (.ix (.tup [(.k (.int 1)), (.k (.int 255)), (.k (.int 7)), (.k (.int 65280)), (.k (.int 65535))]) (.cal 31 [(.v 0), (.k (.int 5))]))])]) (.cal 31 [(.v 0), (.k (.int 2))]))] [],
.set 5 (.ix (.tup [(.k (.int 1)), (.k (.int 6)), (.k (.int 17)), (.k (.int 18)), (.k (.int 20)), (.k (.int 80)), (.k (.int 256)), (.cal 31 [(.v 0), (.k (.int 65536))])]) (.cal 31 [(.v 0), (.k (.int 8))])),
.ret (.tup [(.k (.str s_less)), (.v 3), (.v 5), (.bin .add (.bin .add (.v 1) (.k (.int 1))) (.cal 31 [(.v 0), (.bin .sub (.bin .sub (.v 2) (.k (.int 1))) (.v 1))])), (.bin .add (.bin .add (.v 1) (.k (.int 1))) (.cal 31 [(.v 0), (.bin .sub (.bin .sub (.v 2) (.k (.int 1))) (.v 1))]))])]⟩
/-- _law_program: pool most many found at -/
def f_l_program : Fn := ⟨2, 5, [
.set 2 (.bin .add (.k (.int 1)) (.cal 31 [(.v 0), (.v 1)])),
.setO 3 (.lst []),
.for_ (.s 4) (.rng [(.v 2)]) [.ife (.and [(.tr (.cmp .lt (.v 4) (.k (.int 2)))), (.tr (.cmp .gt (.v 2) (.k (.int 3))))]) [.app (.b 3) (.ix (.tup [(.tup [(.k (.str s_special)), (.v 4), (.k (.str s_talk))]), (.tup [(.k (.str s_byte)), (.v 4), (.k (.str s_outer)), (.k (.int 1))]), (.tup [(.k (.str s_word)), (.v 4), (.k (.str s_outer)), (.k (.int 8))]), (.tup [(.k (.str s_special)), (.v 4), (.k (.str s_interface))])]) (.cal 31 [(.v 0), (.k (.int 4))]))] [.app (.b 3) (.cal 258 [(.v 0), (.v 4), (.v 2)])]],
.ife (.and [(.tr (.cmp .gt (.v 2) (.k (.int 1)))), (.tr (.cmp .eq (.cal 31 [(.v 0), (.k (.int 6))]) (.k (.int 0)))), (.tr (.cal 257 [(.blt .tuple [(.sl (.b 3) none (some (.neg (.k (.int 1)))))])]))]) [.setO 3 (.sl (.b 3) none (some (.neg (.k (.int 1)))))] [],
.ret (.blt .tuple [(.b 3)])]⟩
/-- _law_and: one two total bit -/
def f_l_and : Fn := ⟨2, 4, [
.set 2 (.k (.int 0)),
.set 3 (.k (.int 1)),
.whl (.tr (.cmp .le (.v 3) (.k (.int 32768)))) [.ife (.and [(.tr (.cmp .eq (.bin .mod (.blt .int [(.bin .fdiv (.v 0) (.v 3))]) (.k (.int 2))) (.k (.int 1)))), (.tr (.cmp .eq (.bin .mod (.blt .int [(.bin .fdiv (.v 1) (.v 3))]) (.k (.int 2))) (.k (.int 1))))]) [.set 2 (.bin .add (.v 2) (.v 3))] [], .set 3 (.bin .mul (.v 3) (.k (.int 2)))],
.ret (.v 2)]⟩
/-- _law_shut: kind head at inner -/
def f_l_shut : Fn := ⟨3, 4, [
.set 3 (.ite (.tr (.cmp .eq (.v 0) (.k (.int 6)))) (.tup [(.k (.int 5)), (.k (.int 6)), (.k (.int 7))]) (.ite (.tr (.cmp .eq (.v 0) (.k (.int 17)))) (.tup [(.k (.int 4)), (.k (.int 5))]) (.ite (.tr (.cmp .eq (.v 0) (.k (.int 1)))) (.tup [(.k (.int 2)), (.k (.int 3))]) (.tup [])))),
.ret (.or [(.cmp .isin (.v 2) (.tup [(.k (.int 2)), (.k (.int 3)), (.k (.int 5)), (.k (.int 6)), (.k (.int 7))])), (.cmp .isin (.bin .sub (.v 2) (.v 1)) (.v 3))])]⟩
/-- _law_machine: program packet view row head slots at taken step start number k -/
def f_l_machine : Fn := ⟨3, 12, [
.set 3 (.cal 253 [(.v 1)]),
.set 4 (.bin .add (.k (.int 12)) (.blt .len [(.ix (.v 1) (.k (.int 4)))])),
.setO 5 (.lst [(.k .non), (.k .non), (.k .non), (.k .non)]),
.set 6 (.k (.int 0)),
.set 7 (.k (.int 0)),
.whl (.tr (.cmp .lt (.v 7) (.k (.int 201)))) [.set 8 (.ix (.v 0) (.v 6)), .set 7 (.bin .add (.v 7) (.k (.int 1))), .ife (.tr (.cmp .eq (.ix (.v 8) (.k (.int 0))) (.k (.str s_answer)))) [.ret (.tup [(.k (.str s_answer)), (.ix (.v 8) (.k (.int 1))), (.v 7)])] [], .ife (.and [(.tr (.cmp .isin (.ix (.v 8) (.k (.int 0))) (.tup [(.k (.str s_less)), (.k (.str s_mask))]))), (.tr (.cmp .isn (.ix (.b 5) (.ix (.v 8) (.k (.int 1)))) (.k .non)))]) [.ret (.tup [(.k (.str s_harm)), (.k (.str s_unset)), (.v 6)])] [], .ife (.tr (.cmp .eq (.ix (.v 8) (.k (.int 0))) (.k (.str s_less)))) [.set 6 (.ite (.tr (.cmp .lt (.ix (.b 5) (.ix (.v 8) (.k (.int 1)))) (.ix (.v 8) (.k (.int 2))))) (.ix (.v 8) (.k (.int 3))) (.ix (.v 8) (.k (.int 4)))), .cnt] [], .ife (.tr (.cmp .isin (.ix (.v 8) (.k (.int 0))) (.tup [(.k (.str s_byte)), (.k (.str s_word))]))) [.set 9 (.bin .add (.ix (.v 8) (.k (.int 3))) (.ite (.tr (.cmp .eq (.ix (.v 8) (.k (.int 2))) (.k (.str s_inner)))) (.v 4) (.k (.int 0)))), .set 10 (.k (.int 0)), .for_ (.s 11) (.rng [(.v 9), (.bin .add (.v 9) (.ite (.tr (.cmp .eq (.ix (.v 8) (.k (.int 0))) (.k (.str s_byte)))) (.k (.int 1)) (.k (.int 2))))]) [.ife (.tr (.cmp .ge (.v 11) (.blt .len [(.v 3)]))) [.ret (.tup [(.k (.str s_harm)), (.k (.str s_outside)), (.v 6)])] [], .ife (.tr (.cal 261 [(.ix (.v 1) (.k (.int 2))), (.v 4), (.v 11)])) [.ret (.tup [(.k (.str s_harm)), (.k (.str s_closed)), (.v 6)])] [], .set 10 (.bin .add (.bin .mul (.k (.int 256)) (.v 10)) (.ix (.v 3) (.v 11)))], .sub (.b 5) (.ix (.v 8) (.k (.int 1))) (.v 10)] [.ife (.tr (.cmp .eq (.ix (.v 8) (.k (.int 0))) (.k (.str s_special)))) [.sub (.b 5) (.ix (.v 8) (.k (.int 1))) (.ix (.v 2) (.ixc 48 (.ix (.v 8) (.k (.int 2)))))] [.ife (.tr (.cmp .eq (.ix (.v 8) (.k (.int 0))) (.k (.str s_put)))) [.sub (.b 5) (.ix (.v 8) (.k (.int 1))) (.ix (.v 8) (.k (.int 2)))] [.sub (.b 5) (.ix (.v 8) (.k (.int 1))) (.cal 260 [(.ix (.b 5) (.ix (.v 8) (.k (.int 1)))), (.ix (.v 8) (.k (.int 2)))])]]], .set 6 (.bin .add (.v 6) (.k (.int 1))), .ife (.tr (.cmp .eq (.v 6) (.blt .len [(.v 0)]))) [.ret (.tup [(.k (.str s_harm)), (.k (.str s_end)), (.bin .sub (.v 6) (.k (.int 1)))])] []],
.ret (.k .non)]⟩
/-- _law_seen_packet: pool world sight packet more payload -/
def f_l_seen_packet : Fn := ⟨2, 6, [
.set 2 (.cal 162 [(.v 0), (.v 1), (.ix (.tup [(.k (.int 12)), (.k (.int 12)), (.k (.int 90))]) (.cal 31 [(.v 0), (.k (.int 3))]))]),
.set 3 (.cal 255 [(.v 2)]),
.set 4 (.bin .mul (.k (.int 2)) (.cal 31 [(.v 0), (.k (.int 5))])),
.set 5 (.cal 44 [(.v 0), (.blt .len [(.ix (.v 3) (.k (.int 6)))])]),
.set 3 (.bin .add (.sl (.v 3) none (some (.k (.int 3)))) (.tup [(.bin .add (.k (.int 2)) (.cal 31 [(.v 0), (.k (.int 254))])), (.cal 44 [(.v 0), (.v 4)]), (.ix (.v 3) (.k (.int 5))), (.v 5)])),
.ret (.tup [(.v 3), (.cal 101 [(.cal 254 [(.ix (.v 2) (.k (.int 0))), (.v 3)]), (.cal 32 [(.v 0), (.cal 124 [(.ix (.v 2) (.k (.int 1)))])])])])]⟩
/-- _law_relinked: program order e -/
def f_l_relinked : Fn := ⟨2, 3, [
.tryr (.tup [(.k (.str s_told)), (.cal 246 [(.v 0), (.v 1)])]) 0 2 (.ite [(false, true, 1), (false, true, 2), (true, false, 3)] (.k (.str s_order)) (.k (.str s_other)))]⟩
/-- law: script pool world turn program many groups at k order group tried row j held due told places made good one two step packet view number -/
def f_law : Fn := ⟨1, 26, [
.set 1 (.cal 29 [(.v 0)]),
.set 2 (.cal 226 [(.v 1)]),
.for_ (.s 3) (.rng [(.k (.int 4))]) [.set 4 (.cal 259 [(.v 1), (.k (.int 10))]), .set 5 (.blt .len [(.v 4)]), .set 6 (.mkx []), .for_ (.s 7) (.rng [(.v 5)]) [.ife (.and [(.tr (.cmp .gt (.v 7) (.k (.int 0)))), (.tr (.cmp .notin (.ix (.ix (.v 4) (.bin .sub (.v 7) (.k (.int 1)))) (.k (.int 0))) (.tup [(.k (.str s_less)), (.k (.str s_answer))])))]) [.appx (.ixx (.v 6) (.neg (.k (.int 1)))) (.v 7)] [.appx (.v 6) (.mk [(.v 7)])]], .for_ (.s 8) (.rng [(.bin .sub (.lenx (.v 6)) (.k (.int 1)))]) [.set 13 (.ite (.tr (.cmp .gt (.v 8) (.k (.int 0)))) (.bin .add (.bin .add (.k (.int 1)) (.v 8)) (.cal 31 [(.v 1), (.bin .sub (.bin .sub (.lenx (.v 6)) (.k (.int 1))) (.v 8))])) (.k (.int 0))), .set 14 (.ixx (.v 6) (.v 8)), .subx (.v 6) (.v 8) (.ixx (.v 6) (.v 13)), .subx (.v 6) (.v 13) (.v 14)], .set 9 (.tup []), .forc (.s 10) (.v 6) [.set 9 (.bin .add (.v 9) (.blt .tuple [(.v 10)]))], .set 11 (.lst [(.v 9), (.rgx true [(.v 5)]), (.bin .add (.sl (.v 9) (some (.k (.int 1))) none) (.sl (.v 9) none (some (.k (.int 1))))), (.sl (.v 9) none (some (.neg (.k (.int 1))))), (.bin .add (.v 9) (.tup [(.k (.int 0))])), (.bin .mul (.tup [(.k (.int 0))]) (.v 5)), (.blt .tuple [(.comp (.s 25) (.e (.v 9)) (.bin .add (.v 25) (.k (.int 1))) [])])]), .for_ (.s 12) (.e (.v 11)) [.set 15 (.k (.str s_order)), .ife (.tr (.cmp .eq (.blt .sorted [(.v 12)]) (.rgx false [(.v 5)]))) [.set 17 (.dps (.comp (.s 8) (.rng [(.v 5)]) (.tup [(.ix (.v 12) (.v 8)), (.v 8)]) [])), .setO 18 (.lst []), .set 19 (.k (.bl true)), .for_ (.s 8) (.rng [(.v 5)]) [.set 22 (.ix (.v 4) (.ix (.v 12) (.v 8))), .ife (.tr (.cmp .eq (.ix (.v 22) (.k (.int 0))) (.k (.str s_less)))) [.set 22 (.bin .add (.sl (.v 22) none (some (.k (.int 3)))) (.tup [(.dgx (.v 17) (.ix (.v 22) (.k (.int 3)))), (.dgx (.v 17) (.ix (.v 22) (.k (.int 4))))]))] [.ife (.tr (.cmp .ne (.ix (.v 22) (.k (.int 0))) (.k (.str s_answer)))) [.set 19 (.and [(.v 19), (.cmp .eq (.ite (.tr (.cmp .lt (.bin .add (.v 8) (.k (.int 1))) (.v 5))) (.ix (.v 12) (.bin .add (.v 8) (.k (.int 1)))) (.v 5)) (.bin .add (.ix (.v 12) (.v 8)) (.k (.int 1))))])] []], .app (.b 18) (.v 22)], .set 15 (.ite (.and [(.tr (.v 19)), (.tr (.cal 257 [(.blt .tuple [(.b 18)])]))]) (.blt .tuple [(.b 18)]) (.k (.str s_order)))] [], .set 16 (.cal 264 [(.v 4), (.v 12)]), .ife (.not (.tr (.cal 27 [(.v 16), (.cal 247 [(.v 15)])]))) [.ret (.k (.bl false))] [], .set 16 (.ite (.tr (.blt (.isa .str) [(.v 16)])) (.v 16) (.ix (.v 16) (.k (.int 1)))), .ife (.and [(.not (.tr (.blt (.isa .str) [(.v 16)]))), (.tr (.cmp .eq (.ix (.v 12) (.k (.int 0))) (.k (.int 0))))]) [.unp (.t [(.s 23), (.s 24)]) (.cal 263 [(.v 1), (.v 2)]), .set 20 (.cal 262 [(.v 4), (.v 23), (.v 24)]), .set 21 (.cal 262 [(.v 16), (.v 23), (.v 24)]), .ife (.or [(.tr (.cmp .ne (.sl (.v 20) none (some (.k (.int 2)))) (.sl (.v 21) none (some (.k (.int 2)))))), (.and [(.tr (.cmp .eq (.ix (.v 20) (.k (.int 0))) (.k (.str s_answer)))), (.tr (.cmp .ne (.ix (.v 20) (.k (.int 2))) (.ix (.v 21) (.k (.int 2)))))])]) [.ret (.k (.bl false))] []] []]],
.ret (.k (.bl true))]⟩
def glob : Nat → Option D
  | 13 => some (.tup [(.str s_interface), (.str s_length), (.str s_talk), (.str s_side)])
  | 14 => some (.int 4)
  | _ => none
def cst : Nat → Option (List (List Nat))
  | 48 => some [s_interface, s_kind, s_source, s_sport, s_destination, s_dport, s_flags, s_code, s_length, s_talk, s_side]
  | _ => none
def fnl : List (Nat × Fn) := [(0, f_is_number), (12, f_is_decision), (242, f_is_load), (243, f_is_instruction), (244, f_is_program), (245, f_goes_on), (246, f_relinked), (27, f_l_same), (28, f_l_is_integer), (29, f_l_pool), (30, f_l_spread), (31, f_l_draw), (32, f_l_pick), (223, f_l_number), (247, f_l_wrapped), (248, f_l_fold), (249, f_l_words), (250, f_l_check), (251, f_l_two), (44, f_l_row), (94, f_l_inner_size), (252, f_l_length), (45, f_l_is_number), (253, f_l_bytes), (48, f_l_fields), (95, f_l_least), (226, f_l_world), (162, f_l_sight), (254, f_l_seen), (255, f_l_plain_packet), (96, f_l_sender), (97, f_l_side), (98, f_l_step), (99, f_l_moved), (100, f_l_talk), (101, f_l_view), (124, f_l_states), (50, f_l_decision), (56, f_l_is_decision), (256, f_l_is_instruction), (257, f_l_is_program), (258, f_l_instruction), (259, f_l_program), (260, f_l_and), (261, f_l_shut), (262, f_l_machine), (263, f_l_seen_packet), (264, f_l_relinked), (265, f_law)]
def fns (n : Nat) : Option Fn := fnl.lookup n
end T
end S_T94
section S_N94a
set_option linter.all false
set_option maxRecDepth 100000
/-! N94a: the text's context. -/
namespace K
open G T
def cx (wf n : Nat) : Cx := ⟨evF fns glob cst wf n, glob, wf, if n = 0 then fun _ => none else cst⟩
abbrev ev (wf n i : Nat) (ds : List D) (S : List Cell) : Rs D := evF fns glob cst wf n i ds S
section
variable {wf n : Nat} {S : List Cell} {top : Int} {v a b c : D}
@[simp] theorem call_cx {wf n i ds S} : (cx wf n).call i ds S = ev wf n i ds S := (rfl)
@[simp] theorem glob_cx {wf n} : (cx wf n).glob = glob := (rfl)
@[simp] theorem wf_cx {wf n} : (cx wf n).wf = wf := (rfl)
@[simp] theorem cst_cx {wf n} : (cx wf (n + 1)).cst = cst := by
  show (if n + 1 = 0 then (fun _ => none) else cst) = cst
  rw [if_neg (by omega)]
theorem upto_eq : ∀ (n : Nat) (i : Int), upto i n = (List.range n).map fun k => .int (i + k)
  | 0, _ => rfl
  | n + 1, i => by
    rw [List.range_succ_eq_map, List.map_cons, List.map_map]
    show D.int i :: upto (i + 1) n = _
    rw [upto_eq n (i + 1)]
    simp [Function.comp_def]
    intro a _
    omega
end
end K
end S_N94a
section S_N94b
set_option linter.all false
set_option maxRecDepth 100000
/-! M82o: the draws. -/
namespace K
open G T
section
variable {wf n : Nat} {S Z : List Cell} {top : Int} {v a b c : D}
/-- the pool: its script, place, rest, count, salt -/
def pool (Z : List Cell) (s : List Int) (p t q z : Int) : List Cell := .lst [.lst (s.map .int), .int p, .int t, .int q, .int z] :: Z
def PoolOk (Z S : List Cell) : Prop := ∃ s p t q z, S = pool Z s p t q z ∧ 0 ≤ p ∧ s.length ≤ 100
theorem b_mod {i j : Int} (h : 0 < j) : pBin .mod (.int i) (.int j) = some (.int (i % j)) := by
  simp [pBin, h]
theorem b_mul {i j : Int} (h : smallI j = true) : pBin .mul (.int i) (.int j) = some (.int (i * j)) := by
  simp [pBin, h]
theorem b_add {i j : Int} : pBin .add (.int i) (.int j) = some (.int (i + j)) := (rfl)
theorem b_int {i : Int} : pB .int [.int i] = some (.int i) := (rfl)
theorem b_fdiv {i j : Int} (h : 0 < j) (h2 : j < 2 ^ 63) : pBin .fdiv (.int i) (.int j) = some (.int (i / j)) := by
  have : j.natAbs < 2 ^ 63 := by omega
  simp only [pBin]
  rw [if_pos ⟨h, this⟩]
theorem l_spread {x : Int} : ∃ r, ev wf (n + 1) 30 [.int x] S = .ok (.int r) S := by
  rw [show ev wf (n + 1) 30 [.int x] S = (evB (cx wf n) f_l_spread.body [.v (.int x), .nil, .nil, .nil] S).out from rfl]
  simp [f_l_spread, pRng, upto, forL, turnS, b_mod, b_mul, b_add, b_int, show rngOk 4 = true from by decide, show smallI 48271 = true from by decide, show smallI 2147483647 = true from by decide]
theorem dr_l0 {xs : List D} {S : List Cell} : dr (.lst xs :: S) (.loc 0) = .lst xs := (rfl)
theorem lstAt0 {xs : List D} {S : List Cell} {sl : List Sl} : lstAt (.b 0) (.v (.loc 0) :: sl) (.lst xs :: S) = true := (rfl)
theorem chg0 {f : List D → Option (List D)} {C : Cx} {xs : List D} {S : List Cell} {sl : List Sl} : chg (.b 0) f C (.v (.loc 0) :: sl) (.lst xs :: S) = match f xs with | some ys => .nx (.v (.loc 0) :: sl) (.lst ys :: S) | none => .stk := (rfl)
def drTail : List G.T := [.sub (.b 0) (.k (.int 3)) (.bin .add (.ix (.v 0) (.k (.int 3))) (.k (.int 1))),
.ife (.tr (.cmp .le (.ix (.v 0) (.k (.int 2))) (.k (.int 0)))) [.set 4 (.bin .mod (.blt .int [(.bin .add (.bin .add (.bin .mul (.ix (.v 0) (.k (.int 4))) (.k (.int 48271))) (.bin .mul (.ix (.v 0) (.k (.int 3))) (.k (.int 69621)))) (.k (.int 1)))]) (.k (.int 2147483647))), .set 4 (.bin .mod (.blt .int [(.bin .add (.bin .mul (.v 4) (.k (.int 16807))) (.ix (.v 0) (.k (.int 3))))]) (.k (.int 2147483629))), .ret (.bin .mod (.bin .fdiv (.v 4) (.k (.int 5))) (.v 1))] [],
.set 2 (.bin .mod (.blt .int [(.ix (.v 0) (.k (.int 2)))]) (.v 1)),
.sub (.b 0) (.k (.int 2)) (.bin .fdiv (.ix (.v 0) (.k (.int 2))) (.v 1)),
.ret (.v 2)]
def drHead : G.T := .ife (.and [(.tr (.cmp .le (.ix (.v 0) (.k (.int 2))) (.k (.int 0)))), (.tr (.cmp .lt (.ix (.v 0) (.k (.int 1))) (.blt .len [(.ix (.v 0) (.k (.int 0)))])))]) [.set 3 (.ix (.ix (.v 0) (.k (.int 0))) (.ix (.v 0) (.k (.int 1)))), .sub (.b 0) (.k (.int 1)) (.bin .add (.ix (.v 0) (.k (.int 1))) (.k (.int 1))), .sub (.b 0) (.k (.int 2)) (.v 3), .ife (.tr (.cmp .lt (.v 3) (.k (.int 1000000000000000000)))) [.sub (.b 0) (.k (.int 2)) (.cal 30 [(.v 3)])] []] []
theorem draw_tail {m p t q z : Int} {s : List Int} {w : Sl} (hp : 0 ≤ p) (hs : s.length ≤ 100) (h0 : 0 < m) (h1 : m < 2 ^ 63) : ∃ r S', evB (cx wf (n + 1)) drTail [.v (.loc 0), .v (.int m), .nil, w, .nil] (pool Z s p t q z) = .ret (.int r) S' ∧ PoolOk Z S' ∧ 0 ≤ r ∧ r < m := by
  by_cases ht : t ≤ 0
  · simp [drTail, pool, b_mod, b_mul, b_add, b_int, b_fdiv h0 h1, dr_l0, lstAt0, chg0, ixN, ht, show smallI 48271 = true from by decide, show smallI 69621 = true from by decide, show smallI 16807 = true from by decide, h0, b_fdiv (j := 5) (by decide) (by decide)]
    exact ⟨_, _, ⟨rfl, rfl⟩, ⟨s, p, t, q + 1, z, rfl, hp, hs⟩, Int.emod_nonneg _ (by omega), Int.emod_lt_of_pos _ h0⟩
  · simp [drTail, pool, b_mod, b_mul, b_add, b_int, b_fdiv h0 h1, dr_l0, lstAt0, chg0, ixN, ht, h0]
    exact ⟨_, _, ⟨rfl, rfl⟩, ⟨s, p, t / m, q + 1, z, rfl, hp, hs⟩, Int.emod_nonneg _ (by omega), Int.emod_lt_of_pos _ h0⟩
theorem l_draw {m : Int} (h : PoolOk Z S) (h0 : 0 < m) (h1 : m < 2 ^ 63) : ∃ r S', ev wf (n + 2) 31 [.loc 0, .int m] S = .ok (.int r) S' ∧ PoolOk Z S' ∧ 0 ≤ r ∧ r < m := by
  obtain ⟨s, p, t, q, z, rfl, hp, hs⟩ := h
  rw [show ev wf (n + 2) 31 [.loc 0, .int m] (pool Z s p t q z) = (evB (cx wf (n + 1)) f_l_draw.body [.v (.loc 0), .v (.int m), .nil, .nil, .nil] (pool Z s p t q z)).out from rfl]
  have tail : ∀ (p t q z : Int) (w : Sl), 0 ≤ p → ∃ r S', (evB (cx wf (n + 1)) drTail [.v (.loc 0), .v (.int m), .nil, w, .nil] (pool Z s p t q z)).out = .ok (.int r) S' ∧ PoolOk Z S' ∧ 0 ≤ r ∧ r < m := by
    intro p t q z w hp
    obtain ⟨r, S', e, hh⟩ := draw_tail (wf := wf) (n := n) (m := m) (p := p) (t := t) (q := q) (z := z) (s := s) (w := w) hp hs h0 h1
    exact ⟨r, S', by rw [e]; rfl, hh⟩
  rw [show f_l_draw.body = drHead :: drTail from rfl]
  rw [evB_cons]
  by_cases ht : t ≤ 0
  · by_cases hl : p < s.length
    · obtain ⟨x, hx⟩ : ∃ x, atI (s.map D.int) p = some (.int x) := by
        obtain ⟨k, rfl⟩ := Int.eq_ofNat_of_zero_le hp
        have hk : k < s.length := by omega
        exact ⟨s[k], by rw [atI_nat, List.getElem?_map, List.getElem?_eq_getElem hk]; rfl⟩
      by_cases hx1 : x < 1000000000000000000
      · obtain ⟨y, hy⟩ := l_spread (wf := wf) (n := n) (S := pool Z s (p + 1) x q z) (x := x)
        have := tail (p + 1) y q z (.v (.int x)) (by omega)
        simp [pool] at this hy ⊢
        simp [drHead, b_add, dr_l0, lstAt0, chg0, ixN, ht, hl, hx, hx1, hy, this]
      · have := tail (p + 1) x q z (.v (.int x)) (by omega)
        simp [pool] at this ⊢
        simp [drHead, b_add, dr_l0, lstAt0, chg0, ixN, ht, hl, hx, hx1, this]
    · have := tail p t q z .nil hp
      simp [pool] at this ⊢
      simp [drHead, b_add, dr_l0, lstAt0, chg0, ixN, ht, hl, this]
  · have := tail p t q z .nil hp
    simp [pool] at this ⊢
    simp [drHead, b_add, dr_l0, lstAt0, chg0, ixN, ht, this]
theorem l_pick {xs : List D} (h : PoolOk Z S) (h0 : xs ≠ []) (h1 : xs.length ≤ lim) : ∃ x S', ev wf (n + 3) 32 [.loc 0, .tup xs] S = .ok x S' ∧ PoolOk Z S' ∧ x ∈ xs := by
  have hl : 0 < xs.length := List.length_pos_iff.mpr h0
  obtain ⟨r, S', e, hS, r0, r1⟩ := l_draw (wf := wf) (n := n) (S := S) (m := (xs.length : Int)) h (by omega) (by unfold lim at h1; omega)
  obtain ⟨k, rfl⟩ := Int.eq_ofNat_of_zero_le r0
  have hk : k < xs.length := by omega
  refine ⟨xs[k], S', ?_, hS, List.getElem_mem hk⟩
  rw [show ev wf (n + 3) 32 [.loc 0, .tup xs] S = (evB (cx wf (n + 2)) f_l_pick.body [.v (.loc 0), .v (.tup xs)] S).out from rfl]
  have i1 : atI xs (k : Int) = some xs[k] := by rw [atI_nat, List.getElem?_eq_getElem hk]
  simp [f_l_pick, e, i1]
end
end K
end S_N94b
section S_N94c
set_option linter.all false
set_option maxRecDepth 100000
/-! M82p: weights of drawn data. -/
namespace K
open G T
open PySem
mutual
def W : D → Nat
  | .non => 0
  | .bl _ => 0
  | .int i => if i.natAbs < 10 ^ 30 then 0 else if i.natAbs < 10 ^ 40 then 10 ^ 5 else 10 ^ 9
  | .str s => if s.all (fun c => decide (c < 16 ^ 8)) then s.length else 10 ^ 9
  | .tup xs => WL xs
  | .lst xs => WL xs
  | .loc _ => 10 ^ 9
  | .exc _ _ => 10 ^ 9
def WL : List D → Nat
  | [] => 0
  | x :: xs => W x + 1 + WL xs
end
theorem WL_len : ∀ xs : List D, xs.length ≤ WL xs
  | [] => Nat.zero_le _
  | x :: xs => by
    have := WL_len xs
    simp only [WL, List.length_cons]
    omega
mutual
theorem W_fin : ∀ d : D, W d ≤ 10 ^ 6 → d.fin = true
  | .non, _ => rfl
  | .bl _, _ => rfl
  | .int _, _ => rfl
  | .loc _, h => by simp [W] at h
  | .exc _ _, h => by simp [W] at h
  | .str s, h => by
    simp only [W] at h
    split at h
    · rw [fin_str, decide_eq_true_eq]
      exact h
    · omega
  | .tup xs, h => by
    simp only [W] at h
    have := WL_len xs
    rw [fin_tup, W_finL xs h, Bool.and_true, decide_eq_true_eq]
    unfold flim
    omega
  | .lst xs, h => by
    simp only [W] at h
    have := WL_len xs
    rw [fin_lst, W_finL xs h, Bool.and_true, decide_eq_true_eq]
    unfold flim
    omega
theorem W_finL : ∀ xs : List D, WL xs ≤ 10 ^ 6 → D.finL xs = true
  | [], _ => rfl
  | x :: xs, h => by
    simp only [WL] at h
    rw [finL_cons, W_fin x (by omega), W_finL xs (by omega)]
    rfl
end
theorem log_le {a k : Nat} (h : a < 10 ^ 40) : a.log2 < 133 := by
  by_cases h0 : a = 0
  · subst h0; decide
  · rw [Nat.log2_lt h0]
    exact Nat.lt_of_lt_of_le h (by decide)
mutual
theorem W_py : ∀ d : D, W d ≤ 10 ^ 6 → d.py.showable = true ∧ d.py.leavesShort 41 = true ∧ d.py.bulk ≤ W d
  | .non, _ => ⟨rfl, rfl, Nat.le_refl _⟩
  | .bl _, _ => ⟨rfl, rfl, Nat.le_refl _⟩
  | .int i, h => by
    by_cases hi : i.natAbs < 10 ^ 40
    · have hl := log_le (k := 0) hi
      have ht := int_text_length_le10 (a := i) (k := 40) (by decide) hi
      refine ⟨?_, ?_, ?_⟩
      · simp only [D.py, PyData.showable]
        simp
        omega
      · simp only [D.py, PyData.leavesShort]
        simp
        have e : (PyData.shown (.int i)).length = (toString i).length := by
          simp only [PyData.shown]
          rw [ofString_length]
        omega
      · simp only [D.py, PyData.bulk]
        exact Nat.zero_le _
    · simp only [W] at h
      rw [if_neg (by omega), if_neg hi] at h
      omega
  | .loc _, h => by simp [W] at h
  | .exc _ _, h => by simp [W] at h
  | .str s, h => by
    simp only [W] at h
    split at h
    · rename_i hs
      refine ⟨rfl, ?_, ?_⟩
      · simp only [D.py, PyData.leavesShort]
        simpa using hs
      · simp only [D.py, PyData.bulk, W]
        rw [if_pos hs]
        simp
    · omega
  | .tup xs, h => by
    simp only [W] at h
    have := W_pyL xs h
    simpa only [D.py, PyData.showable, PyData.leavesShort, PyData.bulk, W] using this
  | .lst xs, h => by
    simp only [W] at h
    have := W_pyL xs h
    simpa only [D.py, PyData.showable, PyData.leavesShort, PyData.bulk, W] using this
theorem W_pyL : ∀ xs : List D, WL xs ≤ 10 ^ 6 → PyData.showableAll (D.pyL xs) = true ∧ PyData.leavesShortAll 41 (D.pyL xs) = true ∧ PyData.bulkAll (D.pyL xs) ≤ WL xs
  | [], _ => ⟨rfl, rfl, Nat.le_refl _⟩
  | x :: xs, h => by
    simp only [WL] at h
    obtain ⟨a1, a2, a3⟩ := W_py x (by omega)
    obtain ⟨b1, b2, b3⟩ := W_pyL xs (by omega)
    simp only [D.pyL, PyData.showableAll, PyData.leavesShortAll, PyData.bulkAll, WL, a1, a2, b1, b2]
    refine ⟨rfl, rfl, ?_⟩
    omega
end
theorem W_shown {d : D} (h : W d ≤ 380000) : d.py.shown.length ≤ lim := by
  obtain ⟨h1, h2, h3⟩ := W_py d (by omega)
  have := PyData.shown_le_bulk 41 (by decide) d.py h2
  unfold lim
  omega
end K
end S_N94c
section S_N94d
set_option linter.all false
set_option maxRecDepth 100000
/-! M82q: what a draw gives: rules. -/
namespace K
open G T
section
variable {α β : Type} {wf n : Nat} {S Z : List Cell} {sl : List Sl} {top : Int} {v a b c : D}
def Gd (Z : List Cell) (m : Rs α) (P : α → Prop) : Prop := ∃ x S', m = .ok x S' ∧ PoolOk Z S' ∧ P x
def GF (Z : List Cell) (m : Fl) (I : List Sl → Prop) (R : D → Prop) : Prop := (∃ sl S', m = .nx sl S' ∧ PoolOk Z S' ∧ I sl) ∨ (∃ d S', m = .ret d S' ∧ PoolOk Z S' ∧ R d)
theorem gd_ok {P : α → Prop} {x : α} (h : PoolOk Z S) (p : P x) : Gd Z (.ok x S) P := ⟨x, S, rfl, h, p⟩
theorem gd_bind {m : Rs α} {f : α → List Cell → Rs β} {P : α → Prop} {Q : β → Prop} (h : Gd Z m P) (k : ∀ x S, PoolOk Z S → P x → Gd Z (f x S) Q) : Gd Z (m.bind f) Q := by
  obtain ⟨x, S', rfl, h1, h2⟩ := h
  exact k x S' h1 h2
theorem gd_mono {m : Rs α} {P Q : α → Prop} (h : Gd Z m P) (k : ∀ x, P x → Q x) : Gd Z m Q := by
  obtain ⟨x, S', rfl, h1, h2⟩ := h
  exact ⟨x, S', rfl, h1, k x h2⟩
theorem gf_fl {m : Rs α} {f : α → List Cell → Fl} {P : α → Prop} {I R} (h : Gd Z m P) (k : ∀ x S, PoolOk Z S → P x → GF Z (f x S) I R) : GF Z (m.fl sl f) I R := by
  obtain ⟨x, S', rfl, h1, h2⟩ := h
  exact k x S' h1 h2
theorem gf_nxt {m : Fl} {g : List Sl → List Cell → Fl} {I' I : List Sl → Prop} {R} (h : GF Z m I' R) (k : ∀ sl S, PoolOk Z S → I' sl → GF Z (g sl S) I R) : GF Z (m.nxt g) I R := by
  rcases h with ⟨x, S', rfl, h1, h2⟩ | ⟨x, S', rfl, h1, h2⟩
  · exact k x S' h1 h2
  · exact .inr ⟨x, S', rfl, h1, h2⟩
theorem gf_nx {I R} (h : PoolOk Z S) (p : I sl) : GF Z (.nx sl S) I R := .inl ⟨_, _, rfl, h, p⟩
theorem gf_ret {I R} {d : D} (h : PoolOk Z S) (p : R d) : GF Z (.ret d S) I R := .inr ⟨_, _, rfl, h, p⟩
theorem gf_out {m : Fl} {R : D → Prop} (h : GF Z m (fun _ => R .non) R) : Gd Z m.out R := by
  rcases h with ⟨x, S', rfl, h1, h2⟩ | ⟨x, S', rfl, h1, h2⟩
  · exact ⟨_, _, rfl, h1, h2⟩
  · exact ⟨_, _, rfl, h1, h2⟩
@[simp] theorem bind_bind {γ : Type} {m : Rs α} {f : α → List Cell → Rs β} {g : β → List Cell → Rs γ} : (m.bind f).bind g = m.bind fun a S => (f a S).bind g := by cases m <;> rfl
@[simp] theorem bind_fl {m : Rs α} {f : α → List Cell → Rs β} {g : β → List Cell → Fl} : (m.bind f).fl sl g = m.fl sl fun a S => (f a S).fl sl g := by cases m <;> rfl
@[simp] theorem fl_nxt {m : Rs α} {f : α → List Cell → Fl} {g} : (m.fl sl f).nxt g = m.fl sl fun a S => (f a S).nxt g := by cases m <;> rfl
@[simp] theorem nxt_nxt {m : Fl} {f g} : (m.nxt f).nxt g = m.nxt fun sl S => (f sl S).nxt g := by cases m <;> rfl
theorem gf_for {f : D → List Sl → List Cell → Fl} {R : D → Prop} (I : Nat → List Sl → Prop) : ∀ (ds : List D) (k : Nat) (sl : List Sl) (S : List Cell), PoolOk Z S → I k sl → (∀ (j : Nat) d sl S, ds[j]? = some d → PoolOk Z S → I (k + j) sl → GF Z (f d sl S) (I (k + j + 1)) R) → GF Z (forL f ds sl S) (I (k + ds.length)) R
  | [], k, sl, S, h, hI, _ => gf_nx h hI
  | d :: ds, k, sl, S, h, hI, step => by
    rcases step 0 d sl S rfl h hI with ⟨sl', S', e, h1, h2⟩ | ⟨x, S', e, h1, h2⟩
    · unfold forL
      rw [e]
      have := gf_for I ds (k + 1) sl' S' h1 h2 fun j d' sl'' S'' z1 z2 z3 => by
        rw [show k + 1 + j = k + (j + 1) from by omega] at z3 ⊢
        exact step (j + 1) d' sl'' S'' (by simpa using z1) z2 z3
      rw [show k + (d :: ds).length = k + 1 + ds.length from by rw [List.length_cons]; omega]
      exact this
    · unfold forL
      rw [e]
      exact gf_ret h1 h2
theorem gd_comp {f : D → List Cell → Rs (Option D)} {P : D → Prop} : ∀ {ds : List D} {acc : List D} {S : List Cell}, PoolOk Z S → (∀ d ∈ ds, ∀ S, PoolOk Z S → Gd Z (f d S) fun o => ∀ y, o = some y → P y) → (∀ y ∈ acc, P y) → acc.length + ds.length ≤ lim → Gd Z (compL f ds S acc) fun ys => (∀ y ∈ ys, P y) ∧ ys.length ≤ acc.length + ds.length
  | [], acc, S, h, _, ha, _ => gd_ok h ⟨ha, by simp⟩
  | d :: ds, acc, S, h, hs, ha, hl => by
    rw [List.length_cons] at hl ⊢
    obtain ⟨o, S', e, h1, h2⟩ := hs d List.mem_cons_self S h
    unfold compL
    rw [e]
    cases o with
    | none => exact gd_mono (gd_comp h1 (fun d hd => hs d (List.mem_cons_of_mem _ hd)) ha (by omega)) fun x hx => ⟨hx.1, by omega⟩
    | some y =>
      dsimp only
      rw [if_pos (by omega)]
      refine gd_mono (gd_comp h1 (fun d hd => hs d (List.mem_cons_of_mem _ hd)) (acc := acc ++ [y]) ?_ (by rw [List.length_append, List.length_singleton]; omega)) fun x hx => ⟨hx.1, ?_⟩
      · intro z hz
        rcases List.mem_append.mp hz with hz | hz
        · exact ha z hz
        · rw [List.mem_singleton.mp hz]
          exact h2 y rfl
      · have := hx.2
        rw [List.length_append, List.length_singleton] at this
        omega
/-- exact length, where nothing is left out -/
theorem gd_compE {f : D → List Cell → Rs (Option D)} {P : D → Prop} : ∀ {ds : List D} {acc : List D} {S : List Cell}, PoolOk Z S → (∀ d ∈ ds, ∀ S, PoolOk Z S → Gd Z (f d S) fun o => ∃ y, o = some y ∧ P y) → (∀ y ∈ acc, P y) → acc.length + ds.length ≤ lim → Gd Z (compL f ds S acc) fun ys => (∀ y ∈ ys, P y) ∧ ys.length = acc.length + ds.length
  | [], acc, S, h, _, ha, _ => gd_ok h ⟨ha, by simp⟩
  | d :: ds, acc, S, h, hs, ha, hl => by
    rw [List.length_cons] at hl ⊢
    obtain ⟨o, S', e, h1, y, rfl, h2⟩ := hs d List.mem_cons_self S h
    unfold compL
    rw [e]
    dsimp only
    rw [if_pos (by omega)]
    refine gd_mono (gd_compE h1 (fun d hd => hs d (List.mem_cons_of_mem _ hd)) (acc := acc ++ [y]) ?_ (by rw [List.length_append, List.length_singleton]; omega)) fun x hx => ⟨hx.1, ?_⟩
    · intro z hz
      rcases List.mem_append.mp hz with hz | hz
      · exact ha z hz
      · rw [List.mem_singleton.mp hz]
        exact h2
    · have := hx.2
      rw [List.length_append, List.length_singleton] at this
      omega
theorem at_mem {xs : List D} {r : Int} (h0 : 0 ≤ r) (h1 : r < xs.length) : ∃ x, atI xs r = some x ∧ x ∈ xs := by
  obtain ⟨k, rfl⟩ := Int.eq_ofNat_of_zero_le h0
  have hk : k < xs.length := by omega
  exact ⟨xs[k], by rw [atI_nat, List.getElem?_eq_getElem hk], List.getElem_mem hk⟩
/-- a pick out of written items -/
theorem gd_at {xs : List D} {r : Int} {P : D → Prop} (h : PoolOk Z S) (h0 : 0 ≤ r) (h1 : r < xs.length) (p : ∀ x ∈ xs, P x) : Gd Z (.of S (atI xs r)) P := by
  obtain ⟨x, e, m⟩ := at_mem h0 h1
  rw [e]
  exact gd_ok h (p x m)
@[simp] theorem W_non : W .non = 0 := (rfl)
@[simp] theorem W_bl {b} : W (.bl b) = 0 := (rfl)
@[simp] theorem W_tup {xs} : W (.tup xs) = WL xs := (rfl)
@[simp] theorem W_lst {xs} : W (.lst xs) = WL xs := (rfl)
@[simp] theorem WL_nil : WL [] = 0 := (rfl)
@[simp] theorem WL_cons {x xs} : WL (x :: xs) = W x + 1 + WL xs := (rfl)
theorem WL_app : ∀ {xs ys : List D}, WL (xs ++ ys) = WL xs + WL ys
  | [], ys => by simp
  | x :: xs, ys => by rw [List.cons_append, WL_cons, WL_cons, WL_app]; omega
theorem WL_all {c : Nat} : ∀ {xs : List D}, (∀ x ∈ xs, W x ≤ c) → WL xs ≤ xs.length * (c + 1)
  | [], _ => by simp
  | x :: xs, h => by
    rw [WL_cons, List.length_cons, Nat.succ_mul]
    have h1 := h x List.mem_cons_self
    have h2 := WL_all (fun y hy => h y (List.mem_cons_of_mem _ hy)) (xs := xs)
    omega
theorem W_int {i : Int} (h : i.natAbs < 10 ^ 30) : W (.int i) = 0 := by
  simp only [W]
  rw [if_pos h]
theorem depL_all {c : Nat} : ∀ {xs : List D}, (∀ x ∈ xs, x.dep ≤ c) → D.depL xs ≤ c
  | [], _ => by simp
  | x :: xs, h => by
    rw [depL_cons]
    have h1 := h x List.mem_cons_self
    have h2 := depL_all (fun y hy => h y (List.mem_cons_of_mem _ hy)) (xs := xs)
    omega
theorem depL_app : ∀ {xs ys : List D}, D.depL (xs ++ ys) = max (D.depL xs) (D.depL ys)
  | [], ys => by simp
  | x :: xs, ys => by rw [List.cons_append, depL_cons, depL_cons, depL_app]; omega
/-- small -/
def Sm (w d : Nat) (x : D) : Prop := W x ≤ w ∧ x.dep ≤ d
theorem sm_mono {w d w' d' : Nat} {x : D} (h : Sm w d x) (h1 : w ≤ w') (h2 : d ≤ d') : Sm w' d' x := ⟨Nat.le_trans h.1 h1, Nat.le_trans h.2 h2⟩
theorem sm_fin {w d : Nat} {x : D} (h : Sm w d x) (h1 : w ≤ 10 ^ 6) : x.fin = true := W_fin x (Nat.le_trans h.1 h1)
theorem sm_pur {w d : Nat} {x : D} (h : Sm w d x) (h1 : w ≤ 10 ^ 6) : x.pur = true := fin_pur (sm_fin h h1)
theorem sm_int {i : Int} (h : i.natAbs < 10 ^ 30) : Sm 0 0 (.int i) := ⟨Nat.le_of_eq (W_int h), by simp⟩
theorem sm_tup {w d n : Nat} {xs : List D} (h : ∀ x ∈ xs, Sm w d x) (hn : xs.length ≤ n) : Sm (n * (w + 1)) (d + 1) (.tup xs) := by
  constructor
  · rw [W_tup]
    exact Nat.le_trans (WL_all fun x hx => (h x hx).1) (Nat.mul_le_mul_right _ hn)
  · rw [dep_tup]
    have := depL_all fun x hx => (h x hx).2
    omega
theorem sm_lst {w d n : Nat} {xs : List D} (h : ∀ x ∈ xs, Sm w d x) (hn : xs.length ≤ n) : Sm (n * (w + 1)) (d + 1) (.lst xs) := sm_tup (xs := xs) h hn
def isInt (lo hi : Int) (x : D) : Prop := ∃ r, x = .int r ∧ lo ≤ r ∧ r ≤ hi
theorem d_draw {m : Int} (h : PoolOk Z S) (h0 : 0 < m) (h1 : m < 2 ^ 63) : Gd Z (ev wf (n + 2) 31 [.loc 0, .int m] S) fun x => ∃ r, x = .int r ∧ 0 ≤ r ∧ r < m := by
  obtain ⟨r, S', e, hS, r0, r1⟩ := l_draw (wf := wf) (n := n) h h0 h1
  exact ⟨_, S', e, hS, r, rfl, r0, r1⟩
theorem d_pick {xs : List D} (h : PoolOk Z S) (h0 : xs ≠ []) (h1 : xs.length ≤ lim) : Gd Z (ev wf (n + 3) 32 [.loc 0, .tup xs] S) (· ∈ xs) := by
  obtain ⟨x, S', e, hS, m⟩ := l_pick (wf := wf) (n := n) h h0 h1
  exact ⟨x, S', e, hS, m⟩
theorem d_pickL {xs : List D} (h : PoolOk Z S) (h0 : xs ≠ []) (h1 : xs.length ≤ lim) : Gd Z (ev wf (n + 3) 32 [.loc 0, .lst xs] S) (· ∈ xs) := by
  have hl : 0 < xs.length := List.length_pos_iff.mpr h0
  rw [show ev wf (n + 3) 32 [.loc 0, .lst xs] S = (evB (cx wf (n + 2)) f_l_pick.body [.v (.loc 0), .v (.lst xs)] S).out from rfl]
  apply gf_out
  simp [f_l_pick]
  refine gf_fl (d_draw h (by omega) (by unfold lim at h1; omega)) fun x S h ⟨r, e, r0, r1⟩ => ?_
  subst e
  simp
  exact gf_fl (gd_at h r0 r1 fun x hx => hx) fun x S h hx => gf_ret h hx
theorem d_decision (h : PoolOk Z S) : Gd Z (ev wf (n + 3) 50 [.loc 0] S) (Sm 60 1) := by
  rw [show ev wf (n + 3) 50 [.loc 0] S = (evB (cx wf (n + 2)) f_l_decision.body [.v (.loc 0)] S).out from rfl]
  apply gf_out
  simp [f_l_decision]
  refine gf_fl (d_draw h (by decide) (by decide)) fun x S h ⟨r, e, r0, r1⟩ => ?_
  subst e
  simp
  refine gf_fl (d_draw h (by decide) (by decide)) fun x S h ⟨q, e, q0, q1⟩ => ?_
  subst e
  simp
  refine gf_fl (gd_at (P := Sm 60 1) h q0 (by simpa using q1) ?_) fun x S h hx => gf_ret h hx
  have wi : W (.int r) = 0 := W_int (by omega)
  intro x hm
  simp only [List.mem_cons, List.not_mem_nil, or_false] at hm
  rcases hm with rfl | rfl | rfl | rfl <;> refine ⟨?_, by simp⟩ <;> simp [wi] <;> decide
end
end K
end S_N94d
section S_N94e
set_option linter.all false
set_option maxRecDepth 100000
/-! M82r: small draws. -/
namespace K
open G T
section
variable {α β : Type} {wf n : Nat} {S Z : List Cell} {sl : List Sl} {top : Int} {v a b c : D}
theorem gf_whl {c : List Sl → List Cell → Rs Bool} {f : List Sl → List Cell → Fl} {R : D → Prop} {J : List Sl → Prop} (I : Nat → List Sl → Prop)
    (step : ∀ m sl S, PoolOk Z S → I m sl → (c sl S = .ok false S ∧ J sl) ∨ (c sl S = .ok true S ∧ GF Z (f sl S) (fun sl' => ∃ m', m' < m ∧ I m' sl') R)) : ∀ (n m : Nat) (sl : List Sl) (S : List Cell), m < n → PoolOk Z S → I m sl → GF Z (whlL c f n sl S) J R
  | 0, _, _, _, h, _, _ => by omega
  | n + 1, m, sl, S, h, hS, hI => by
    unfold whlL
    rcases step m sl S hS hI with ⟨e, j⟩ | ⟨e, g⟩
    · rw [e]
      exact gf_nx hS j
    · rw [e, fl_ok]
      rcases g with ⟨sl', S', e', h1, m', hm, h2⟩ | ⟨x, S', e', h1, h2⟩
      · simp only [if_true, e']
        exact gf_whl I step n m' sl' S' (by omega) h1 h2
      · simp only [if_true, e']
        exact gf_ret h1 h2
theorem d_row {m : Int} (h : PoolOk Z S) (h0 : 0 ≤ m) (h1 : m ≤ 10) : Gd Z (ev wf (n + 3) 44 [.loc 0, .int m] S) (fun x => (∃ ys, x = .tup ys) ∧ Sm 10 1 x) := by
  rw [show ev wf (n + 3) 44 [.loc 0, .int m] S = (evB (cx wf (n + 2)) f_l_row.body [.v (.loc 0), .v (.int m), .nil] S).out from rfl]
  apply gf_out
  have hr : rngOk m = true := by
    unfold rngOk
    simp
    omega
  simp [f_l_row, pRng, hr]
  have hl : (upto 0 m.toNat).length = m.toNat := by simp [upto_eq]
  refine gf_fl (gd_compE (P := Sm 0 0) h ?_ (by simp) (by rw [hl]; simp [lim]; omega)) fun ys S h ⟨q1, q2⟩ => ?_
  · intro d hd S h
    simp [turn]
    refine gd_bind (d_draw h (by decide) (by decide)) fun x S h ⟨r, e, r0, r1⟩ => ?_
    subst e
    simp
    refine gd_bind (d_draw h (by decide) (by decide)) fun x S h ⟨q, e, q0, q1⟩ => ?_
    subst e
    simp
    refine gd_bind (gd_at (P := fun x => x.pur = true ∧ Sm 0 0 x) h q0 (by simpa using q1) ?_) fun x S h hx => ?_
    · intro x hm
      simp only [List.mem_cons, List.not_mem_nil, or_false] at hm
      rcases hm with rfl | rfl | rfl | rfl <;> exact ⟨by simp, sm_int (by omega)⟩
    · rw [if_pos hx.1]
      exact gd_ok h ⟨x, rfl, hx.2⟩
  · refine gf_ret h ⟨⟨_, rfl⟩, sm_mono (sm_tup (n := 10) q1 ?_) (by decide) (by decide)⟩
    rw [hl] at q2
    simp at q2
    omega
end
end K
end S_N94e
section S_N94f
set_option linter.all false
set_option maxRecDepth 100000
/-! N94f: words, checks, lengths. -/
namespace K
open G T
section
variable {α β : Type} {wf n : Nat} {S Z : List Cell} {sl : List Sl} {top : Int} {v a b c : D}
/-- a tuple, a list of numbers -/
def tI (ns : List Int) : D := .tup (ns.map .int)
def lI (ns : List Int) : D := .lst (ns.map .int)
/-- numbers up to B -/
def Nb (B : Int) (ns : List Int) : Prop := ∀ x ∈ ns, 0 ≤ x ∧ x ≤ B
theorem nb_app {B : Int} {xs ys : List Int} (h1 : Nb B xs) (h2 : Nb B ys) : Nb B (xs ++ ys) := fun x hx => (List.mem_append.mp hx).elim (h1 x) (h2 x)
theorem nb_nil {B : Int} : Nb B [] := fun x hx => nomatch hx
theorem nb_cons {B x : Int} {xs : List Int} (h : 0 ≤ x ∧ x ≤ B) (h2 : Nb B xs) : Nb B (x :: xs) := fun y hy => (List.mem_cons.mp hy).elim (fun e => e ▸ h) (h2 y)
theorem nb_mono {B B' : Int} {xs : List Int} (h : Nb B xs) (hb : B ≤ B') : Nb B' xs := fun x hx => ⟨(h x hx).1, Int.le_trans (h x hx).2 hb⟩
theorem add_tI {xs ys : List Int} (h : xs.length + ys.length ≤ 1000) : pBin .add (tI xs) (tI ys) = some (tI (xs ++ ys)) := by
  unfold tI
  rw [add_tup (by rw [List.length_map, List.length_map]; unfold lim; omega), List.map_append]
theorem l_two {x : Int} : ev wf (n + 1) 251 [.int x] S = .ok (tI [x / 256, x % 256]) S := by
  rw [show ev wf (n + 1) 251 [.int x] S = (evB (cx wf n) f_l_two.body [.v (.int x)] S).out from rfl]
  simp [f_l_two, fdiv_pos (j := 256) (by decide) (by decide), mod_pos (j := 256) (by decide), tI]
theorem nb_two {x B : Int} (h0 : 0 ≤ x) (h1 : x ≤ 256 * B) (h2 : 255 ≤ B) : Nb B [x / 256, x % 256] := nb_cons (by omega) (nb_cons (by omega) nb_nil)
def innerF (k : Int) : Int := if k = 6 then 8 else if k = 17 then 6 else if k = 1 then 4 else 0
theorem l_inner {k : Int} : ev wf (n + 1) 94 [.int k] S = .ok (.int (innerF k)) S := by
  rw [show ev wf (n + 1) 94 [.int k] S = (evB (cx wf n) f_l_inner_size.body [.v (.int k)] S).out from rfl]
  by_cases h1 : k = 6
  · simp [f_l_inner_size, innerF, h1]
  · by_cases h2 : k = 17
    · simp [f_l_inner_size, innerF, h2]
    · by_cases h3 : k = 1 <;> simp [f_l_inner_size, innerF, h1, h2, h3]
theorem inner_pos {k : Int} : 0 ≤ innerF k ∧ innerF k ≤ 8 := by
  unfold innerF
  repeat' split
  all_goals omega
theorem l_least {k : Int} : ev wf (n + 2) 95 [.int k] S = .ok (.int (12 + innerF k)) S := by
  rw [show ev wf (n + 2) 95 [.int k] S = (evB (cx wf (n + 1)) f_l_least.body [.v (.int k)] S).out from rfl]
  simp [f_l_least, l_inner]
/-- comprehensions: something comes of each -/
theorem ex_comp {f : D → List Cell → Rs (Option D)} {P : D → Prop} : ∀ {ds acc : List D}, (∀ d ∈ ds, ∃ y, f d S = .ok (some y) S ∧ P y) → (∀ y ∈ acc, P y) → acc.length + ds.length ≤ lim → ∃ ys, compL f ds S acc = .ok ys S ∧ ys.length = acc.length + ds.length ∧ ∀ y ∈ ys, P y
  | [], acc, _, ha, _ => ⟨acc, rfl, by simp, ha⟩
  | d :: ds, acc, h, ha, hl => by
    rw [List.length_cons] at hl
    obtain ⟨y, e, p⟩ := h d List.mem_cons_self
    unfold compL
    rw [e]
    dsimp only
    rw [if_pos (by omega)]
    obtain ⟨ys, e1, e2, e3⟩ := ex_comp (f := f) (P := P) (ds := ds) (acc := acc ++ [y]) (fun d hd => h d (List.mem_cons_of_mem _ hd)) (fun z hz => by
      rcases List.mem_append.mp hz with hz | hz
      · exact ha z hz
      · rw [List.mem_singleton.mp hz]
        exact p) (by rw [List.length_append, List.length_singleton]; omega)
    refine ⟨ys, e1, ?_, e3⟩
    rw [e2, List.length_append, List.length_singleton, List.length_cons]
    omega
theorem ints_of {B : Int} : ∀ {ys : List D}, (∀ y ∈ ys, ∃ r, y = .int r ∧ 0 ≤ r ∧ r ≤ B) → ∃ ns : List Int, ys = ns.map .int ∧ Nb B ns
  | [], _ => ⟨[], rfl, nb_nil⟩
  | y :: ys, h => by
    obtain ⟨r, rfl, h1, h2⟩ := h y List.mem_cons_self
    obtain ⟨ns, rfl, h3⟩ := ints_of (fun z hz => h z (List.mem_cons_of_mem _ hz))
    exact ⟨r :: ns, rfl, nb_cons ⟨h1, h2⟩ h3⟩
theorem nb_at {B : Int} {ns : List Int} {k : Nat} (h : Nb B ns) (hk : k < ns.length) : ∃ r, atI (ns.map D.int) (k : Int) = some (.int r) ∧ 0 ≤ r ∧ r ≤ B := by
  refine ⟨ns[k], ?_, h _ (List.getElem_mem hk)⟩
  rw [atI_nat, List.getElem?_map, List.getElem?_eq_getElem hk]
  rfl
theorem l_words {ns : List Int} (h : Nb 70000 ns) (hl : ns.length ≤ 900) : ∃ ms, ev wf (n + 1) 249 [tI ns] S = .ok (lI ms) S ∧ Nb 17990000 ms ∧ ms.length ≤ 451 := by
  rw [show ev wf (n + 1) 249 [tI ns] S = (evB (cx wf n) f_l_words.body [.v (.tup (ns.map .int)), .nil, .nil] S).out from rfl]
  have hz : pBin .mul (.lst [.int 0]) (.int (((ns.map D.int).length : Int) % 2)) = some (.lst (List.replicate (ns.length % 2) (.int 0))) := by
    show (if _ then _ else _) = _
    rw [if_pos (by simp; omega)]
    have e : (((ns.map D.int).length : Int) % 2).toNat = ns.length % 2 := by
      rw [List.length_map]
      omega
    rw [e]
    rcases Nat.mod_two_eq_zero_or_one ns.length with z | z <;> rw [z] <;> rfl
  rw [List.length_map] at hz
  obtain ⟨es, he, h2, hl2⟩ : ∃ es : List Int, ns.map D.int ++ List.replicate (ns.length % 2) (.int 0) = es.map .int ∧ Nb 70000 es ∧ es.length = ns.length + ns.length % 2 := by
    refine ⟨ns ++ List.replicate (ns.length % 2) 0, by simp, nb_app h fun x hx => ?_, by simp⟩
    have := List.eq_of_mem_replicate hx
    omega
  have ha : pBin .add (.lst (ns.map D.int)) (.lst (List.replicate (ns.length % 2) (.int 0))) = some (.lst (es.map .int)) := by
    rw [add_lst (by rw [List.length_map, List.length_replicate]; unfold lim; omega), he]
  have hr : rngOk ((es.length : Int) / 2) = true := by
    unfold rngOk
    simp
    omega
  have e5 : (((es.length : Int) / 2).toNat) = es.length / 2 := by omega
  obtain ⟨ys, y1, y2, y3⟩ := ex_comp (S := S) (P := fun y => ∃ r, y = .int r ∧ 0 ≤ r ∧ r ≤ 17990000) (ds := upto 0 (es.length / 2)) (acc := [])
    (f := turn (cx wf n) (.s 2) (.bin .add (.bin .mul (.k (.int 256)) (.ix (.v 1) (.bin .mul (.k (.int 2)) (.v 2)))) (.ix (.v 1) (.bin .add (.bin .mul (.k (.int 2)) (.v 2)) (.k (.int 1))))) [] [.v (.tup (ns.map .int)), .v (.lst (es.map .int)), .nil]) (fun d hd => by
      rw [upto_eq] at hd
      obtain ⟨k, hk, rfl⟩ := List.mem_map.mp hd
      have hk := List.mem_range.mp hk
      obtain ⟨r, r1, r2, r3⟩ := nb_at h2 (k := 2 * k) (by omega)
      obtain ⟨q, q1, q2, q3⟩ := nb_at h2 (k := 2 * k + 1) (by omega)
      simp only [Int.natCast_mul, Int.natCast_add, Int.cast_ofNat_Int] at r1 q1
      refine ⟨.int (256 * r + q), ?_, _, rfl, by omega, by omega⟩
      simp [turn, mul_small (i := 2) (Or.inl (by decide)), mul_small (i := 256) (Or.inl (by decide)), r1, q1]) (by simp) (by rw [upto_eq]; simp; unfold lim; omega)
  obtain ⟨ms, rfl, h6⟩ := ints_of y3
  refine ⟨ms, ?_, h6, ?_⟩
  · simp [f_l_words, mod_pos (j := 2) (by decide), fdiv_pos (j := 2) (by decide) (by decide), hz, ha, pRng, hr, e5, y1, lI]
  · rw [List.length_map, upto_eq] at y2
    simp at y2
    omega
theorem sum_nb {B : Int} : ∀ {ms : List Int}, Nb B ms → 0 ≤ ms.sum ∧ ms.sum ≤ ms.length * B
  | [], _ => by simp
  | x :: xs, h => by
    have h1 := h x List.mem_cons_self
    have h2 := sum_nb (fun y hy => h y (List.mem_cons_of_mem _ hy)) (ms := xs)
    rw [List.sum_cons, List.length_cons]
    have : ((xs.length + 1 : Nat) : Int) * B = xs.length * B + B := by
      rw [Int.natCast_add, Int.add_mul]
      simp
    omega
/-- a while loop that draws nothing -/
theorem ex_whl {c : List Sl → List Cell → Rs Bool} {f : List Sl → List Cell → Fl} {J : List Sl → Prop} (I : Nat → List Sl → Prop)
    (step : ∀ m sl, I m sl → (c sl S = .ok false S ∧ J sl) ∨ (c sl S = .ok true S ∧ ∃ sl' m', f sl S = .nx sl' S ∧ m' < m ∧ I m' sl')) : ∀ (w m : Nat) (sl : List Sl), m < w → I m sl → ∃ sl', whlL c f w sl S = .nx sl' S ∧ J sl'
  | 0, _, _, h, _ => by omega
  | w + 1, m, sl, h, hI => by
    unfold whlL
    rcases step m sl hI with ⟨e, j⟩ | ⟨e, sl', m', e', hm, h2⟩
    · rw [e]
      exact ⟨sl, rfl, j⟩
    · rw [e, fl_ok]
      simp only [if_true, e']
      exact ex_whl I step w m' sl' (by omega) h2
def foldI (x : D) (m : Nat) (sl : List Sl) : Prop := ∃ t : Int, sl = [.v x, .v (.int t)] ∧ 0 ≤ t ∧ m ≤ 3 ∧ (m = 0 → t ≤ 65535) ∧ (m = 1 → t < 65600) ∧ (m = 2 → t < 262144) ∧ (m = 3 → t < 8589934592)
theorem l_fold {ms : List Int} (h : Nb 17990000 ms) (hl : ms.length ≤ 451) (hw : 50 ≤ wf) : ∃ r, ev wf (n + 1) 248 [lI ms] S = .ok (.int r) S ∧ 0 ≤ r ∧ r ≤ 65535 := by
  rw [show ev wf (n + 1) 248 [lI ms] S = (evB (cx wf n) f_l_fold.body [.v (lI ms), .nil] S).out from rfl]
  have e1 : pB .sum [lI ms] = some (.int ms.sum) := by
    have := asInts_map (fun x : Int => x) ms
    simp only [List.map_id'] at this
    show (asInts (ms.map .int)).map _ = _
    rw [this]
    rfl
  obtain ⟨s0, s1⟩ := sum_nb h
  have s2 : ms.sum < 8589934592 := by
    have : (ms.length : Int) * 17990000 ≤ 451 * 17990000 := Int.mul_le_mul_of_nonneg_right (by omega) (by omega)
    omega
  obtain ⟨sl', e2, t, rfl, t0, t1⟩ := ex_whl (S := S) (c := fun sl S => evT (cx wf n) (.tr (.cmp .gt (.v 1) (.k (.int 65535)))) sl S) (f := fun sl S => evB (cx wf n) [.set 1 (.bin .add (.bin .fdiv (.v 1) (.k (.int 65536))) (.bin .mod (.blt .int [(.v 1)]) (.k (.int 65536))))] sl S)
    (J := fun sl => ∃ t : Int, sl = [.v (lI ms), .v (.int t)] ∧ 0 ≤ t ∧ t ≤ 65535) (foldI (lI ms)) (fun m sl ⟨t, e, t0, m3, h0, h1, h2, h3⟩ => by
      subst e
      by_cases ht : t ≤ 65535
      · left
        refine ⟨?_, t, rfl, t0, ht⟩
        simp
        omega
      · right
        refine ⟨?_, _, m - 1, ?_, ?_, ⟨t / 65536 + t % 65536, rfl, by omega, by omega, ?_, ?_, ?_, ?_⟩⟩
        · simp
          omega
        · simp [fdiv_pos (j := 65536) (by decide) (by decide), mod_pos (j := 65536) (by decide)]
        · omega
        all_goals omega) wf 3 [.v (lI ms), .v (.int ms.sum)] (by omega) ⟨_, rfl, s0, Nat.le_refl _, by omega, by omega, by omega, fun _ => s2⟩
  refine ⟨t, ?_, t0, t1⟩
  have e3 : dr S (lI ms) = lI ms := (rfl)
  simp at e2
  simp [f_l_fold, e1, e3, e2]
theorem l_check {ns : List Int} (h : Nb 70000 ns) (hl : ns.length ≤ 900) (hw : 50 ≤ wf) : ∃ r, ev wf (n + 2) 250 [tI ns] S = .ok (.int r) S ∧ 0 ≤ r ∧ r ≤ 65535 := by
  rw [show ev wf (n + 2) 250 [tI ns] S = (evB (cx wf (n + 1)) f_l_check.body [.v (tI ns)] S).out from rfl]
  obtain ⟨ms, e1, m1, m2⟩ := l_words (wf := wf) (n := n) (S := S) h hl
  obtain ⟨r, e2, r0, r1⟩ := l_fold (wf := wf) (n := n) (S := S) m1 m2 hw
  refine ⟨65535 - r, ?_, by omega, by omega⟩
  simp [f_l_check, e1, e2]
end
end K
end S_N94f
section S_N94g
set_option linter.all false
set_option maxRecDepth 100000
/-! N94g: packets as bytes, what is seen of them. -/
namespace K
open G T
section
variable {α β : Type} {wf n : Nat} {S Z : List Cell} {sl : List Sl} {top : Int} {v a b c : D}
/-- a packet: source, destination, kind, rest, more, inner, payload -/
def pkD (s d k r : Int) (mo inn pay : List Int) : D := .tup [.int s, .int d, .int k, .int r, tI mo, tI inn, tI pay]
structure PkB (s d k r : Int) (mo inn pay : List Int) : Prop where
  hs : 0 ≤ s ∧ s ≤ 65535
  hd : 0 ≤ d ∧ d ≤ 65535
  hk : 0 ≤ k ∧ k ≤ 255
  hr : 0 ≤ r ∧ r ≤ 255
  hm : Nb 255 mo
  ml : mo.length ≤ 16
  hi : Nb 65535 inn
  i6 : k = 6 → inn.length = 3
  i17 : k = 17 → inn.length = 2
  i1 : k = 1 → inn.length = 2
  il : inn.length ≤ 3
  hp : Nb 255 pay
  pl : pay.length ≤ 400
  j1 : k = 1 → Nb 255 inn
def lenF (k : Int) (mo pay : List Int) : Int := 12 + mo.length + innerF k + pay.length
theorem l_length {s d k r : Int} {mo inn pay : List Int} : ev wf (n + 2) 252 [pkD s d k r mo inn pay] S = .ok (.int (lenF k mo pay)) S := by
  rw [show ev wf (n + 2) 252 [pkD s d k r mo inn pay] S = (evB (cx wf (n + 1)) f_l_length.body [.v (pkD s d k r mo inn pay)] S).out from rfl]
  simp [f_l_length, pkD, tI, l_inner, lenF]
theorem len_tI {ns : List Int} : pB .len [tI ns] = some (.int ns.length) := by
  unfold tI
  rw [pB_len_tup, List.length_map]
@[simp] theorem pur_tI {ns : List Int} : (tI ns).pur = true := pur_tup
@[simp] theorem dr_tI {ns : List Int} : dr S (tI ns) = tI ns := (rfl)
theorem ix_tI {ns : List Int} {i : Int} : pIx (tI ns) (.int i) = atI (ns.map .int) i := (rfl)
theorem tI_def {xs : List Int} : D.tup (xs.map .int) = tI xs := (rfl)
theorem tI0 : D.tup [] = tI [] := (rfl)
theorem tI2 {a b : Int} : D.tup [.int a, .int b] = tI [a, b] := (rfl)
theorem tI3 {a b c : Int} : D.tup [.int a, .int b, .int c] = tI [a, b, c] := (rfl)
theorem three {xs : List Int} (h : xs.length = 3) : ∃ a b c, xs = [a, b, c] := by
  match xs, h with
  | [a, b, c], _ => exact ⟨a, b, c, rfl⟩
theorem two' {xs : List Int} (h : xs.length = 2) : ∃ a b, xs = [a, b] := by
  match xs, h with
  | [a, b], _ => exact ⟨a, b, rfl⟩
theorem l_bytes {s d k r : Int} {mo inn pay : List Int} (h : PkB s d k r mo inn pay) (hw : 50 ≤ wf) : ∃ ns, ev wf (n + 4) 253 [pkD s d k r mo inn pay] S = .ok (tI ns) S ∧ ns.length ≤ 1000 := by
  rw [show ev wf (n + 4) 253 [pkD s d k r mo inn pay] S = (evB (cx wf (n + 3)) f_l_bytes.body [.v (pkD s d k r mo inn pay), .nil, .nil, .nil, .nil, .nil, .nil] S).out from rfl]
  have ip := inner_pos (k := k)
  have hl1 := h.ml
  have hl2 := h.pl
  have lf : 0 ≤ lenF k mo pay ∧ lenF k mo pay ≤ 500 := by unfold lenF; omega
  -- the outer head
  obtain ⟨hd, ehd, hn, hhl⟩ : ∃ hd : List Int, hd = [70 + (mo.length : Int) / 2, k] ++ [lenF k mo pay / 256, lenF k mo pay % 256] ++ [r, 0] ∧ Nb 255 hd ∧ hd.length = 6 := by
    refine ⟨_, rfl, ?_, rfl⟩
    have := h.hk
    have := h.hr
    intro x hx
    simp at hx
    omega
  obtain ⟨en, een, hen, hel⟩ : ∃ en : List Int, en = [s / 256, s % 256] ++ [d / 256, d % 256] ∧ Nb 255 en ∧ en.length = 4 := by
    refine ⟨_, rfl, ?_, rfl⟩
    have := h.hs
    have := h.hd
    intro x hx
    simp at hx
    omega
  have n00 : Nb 255 [0, 0] := nb_cons (by omega) (nb_cons (by omega) nb_nil)
  obtain ⟨ck, c1, c2, c3⟩ := l_check (wf := wf) (n := n + 1) (S := S) (ns := hd ++ [0, 0] ++ en ++ mo) (nb_mono (nb_app (nb_app (nb_app hn n00) hen) h.hm) (by omega)) (by simp; omega) hw
  obtain ⟨ou, eou, hou, hol⟩ : ∃ ou : List Int, ou = hd ++ [ck / 256, ck % 256] ++ en ++ mo ∧ Nb 255 ou ∧ ou.length ≤ 30 := by
    refine ⟨_, rfl, nb_app (nb_app (nb_app hn ?_) hen) h.hm, by simp; omega⟩
    exact nb_cons (by omega) (nb_cons (by omega) nb_nil)
  have fin : ∀ inn' : List Int, inn'.length ≤ 6 → Nb 65535 inn' → ∃ ns, (evB (cx wf (n + 3)) (f_l_bytes.body.drop 6) [.v (pkD s d k r mo inn pay), .v (tI hd), .v (tI en), .v (tI ou), .v (tI inn'), .nil, .nil] S).out = .ok (tI ns) S ∧ ns.length ≤ 1000 := by
    intro inn' il nb
    by_cases hi : innerF k = 0
    · refine ⟨ou ++ pay, ?_, by simp; omega⟩
      simp [f_l_bytes, pkD, l_inner, hi]
      simp [add_tI (xs := ou) (ys := pay) (by omega)]
    · obtain ⟨rs, ers, hrs, hrl⟩ : ∃ rs : List Int, rs = inn' ++ [0, 0] ++ pay ∧ Nb 65535 rs ∧ rs.length ≤ 410 := by
        refine ⟨_, rfl, nb_app (nb_app nb (nb_mono n00 (by omega))) (nb_mono h.hp (by omega)), by simp; omega⟩
      have hk := h.hk
      obtain ⟨ck, c1, c2, c3⟩ := l_check (wf := wf) (n := n + 1) (S := S) (ns := en ++ [k / 256, k % 256] ++ [(rs.length : Int) / 256, (rs.length : Int) % 256] ++ rs)
        (nb_app (nb_app (nb_app (nb_mono hen (by omega)) (nb_two (by omega) (by omega) (by omega))) (nb_two (by omega) (by omega) (by omega))) (nb_mono hrs (by omega))) (by simp; omega) hw
      refine ⟨ou ++ inn' ++ [ck / 256, ck % 256] ++ pay, ?_, by simp; omega⟩
      have a1 := add_tI (xs := inn') (ys := [0, 0]) (by simp; omega)
      have a2 := add_tI (xs := inn' ++ [0, 0]) (ys := pay) (by simp; omega)
      have a3 := add_tI (xs := en) (ys := [k / 256, k % 256]) (by simp; omega)
      have a4 := add_tI (xs := en ++ [k / 256, k % 256]) (ys := [(rs.length : Int) / 256, (rs.length : Int) % 256]) (by simp; omega)
      have a5 := add_tI (xs := en ++ [k / 256, k % 256] ++ [(rs.length : Int) / 256, (rs.length : Int) % 256]) (ys := rs) (by simp; omega)
      have a6 := add_tI (xs := ou) (ys := inn') (by omega)
      have a7 := add_tI (xs := ou ++ inn') (ys := [ck / 256, ck % 256]) (by simp; omega)
      have a8 := add_tI (xs := ou ++ inn' ++ [ck / 256, ck % 256]) (ys := pay) (by simp; omega)
      rw [← ers] at a2
      simp only [f_l_bytes, List.drop]
      simp [pkD, l_inner, hi, tI2, len_tI, l_two, -List.append_assoc, a1, a2, a3, a4, a5, a6, a7, a8, c1]
  -- before
  have b1 : pBin .add (tI [70 + (mo.length : Int) / 2, k]) (tI [lenF k mo pay / 256, lenF k mo pay % 256]) = some (tI [70 + (mo.length : Int) / 2, k, lenF k mo pay / 256, lenF k mo pay % 256]) := add_tI (by simp)
  have b2 : pBin .add (tI [70 + (mo.length : Int) / 2, k, lenF k mo pay / 256, lenF k mo pay % 256]) (tI [r, 0]) = some (tI hd) := by
    rw [ehd]
    exact add_tI (by simp)
  have b3 := add_tI (xs := [s / 256, s % 256]) (ys := [d / 256, d % 256]) (by simp)
  rw [← een] at b3
  have b4 := add_tI (xs := hd) (ys := [0, 0]) (by simp; omega)
  have b5 := add_tI (xs := hd ++ [0, 0]) (ys := en) (by simp; omega)
  have b6 := add_tI (xs := hd ++ [0, 0] ++ en) (ys := mo) (by simp; omega)
  have b7 := add_tI (xs := hd) (ys := [ck / 256, ck % 256]) (by simp; omega)
  have b8 := add_tI (xs := hd ++ [ck / 256, ck % 256]) (ys := en) (by simp; omega)
  have b9 := add_tI (xs := hd ++ [ck / 256, ck % 256] ++ en) (ys := mo) (by simp; omega)
  rw [← eou] at b9
  have pre : (evB (cx wf (n + 3)) f_l_bytes.body [.v (pkD s d k r mo inn pay), .nil, .nil, .nil, .nil, .nil, .nil] S).out = (evB (cx wf (n + 3)) (f_l_bytes.body.drop 4) [.v (pkD s d k r mo inn pay), .v (tI hd), .v (tI en), .v (tI ou), .v (tI inn), .nil, .nil] S).out := by
    have lp := l_length (wf := wf) (n := n + 1) (S := S) (s := s) (d := d) (k := k) (r := r) (mo := mo) (inn := inn) (pay := pay)
    simp only [f_l_bytes, List.drop]
    simp only [pkD] at lp ⊢
    simp [lp, tI2, len_tI, l_two, fdiv_pos (j := 2) (by decide) (by decide), -List.append_assoc, b1, b2, b3, b4, b5, b6, b7, b8, b9, c1]
  rw [pre]
  have join : ∀ {SL SL' SL2 : List Sl}, evS (cx wf (n + 3)) (f_l_bytes.body.getD 4 .pas) SL S = .nx SL' S → evS (cx wf (n + 3)) (f_l_bytes.body.getD 5 .pas) SL' S = .nx SL2 S → evB (cx wf (n + 3)) (f_l_bytes.body.drop 4) SL S = evB (cx wf (n + 3)) (f_l_bytes.body.drop 6) SL2 S := by
    intro SL SL' SL2 e4 e5
    rw [show f_l_bytes.body.drop 4 = f_l_bytes.body.getD 4 .pas :: f_l_bytes.body.getD 5 .pas :: f_l_bytes.body.drop 6 from rfl, evB_cons, e4, nxt_nx, evB_cons, e5, nxt_nx]
  by_cases h6 : k = 6
  · obtain ⟨x, y, z, rfl⟩ := three (h.i6 h6)
    obtain ⟨ns, e, l⟩ := fin ([x / 256, x % 256] ++ [y / 256, y % 256] ++ [z, 0]) (by simp) (by
      have h1 := h.hi x (by simp)
      have h2 := h.hi y (by simp)
      have h3 := h.hi z (by simp)
      intro q hq
      simp at hq
      omega)
    refine ⟨ns, ?_, l⟩
    rw [← e]
    have d1 : pBin .add (tI [x / 256, x % 256]) (tI [y / 256, y % 256]) = some (tI [x / 256, x % 256, y / 256, y % 256]) := add_tI (by simp)
    have d2 : pBin .add (tI [x / 256, x % 256, y / 256, y % 256]) (tI [z, 0]) = some (tI [x / 256, x % 256, y / 256, y % 256, z, 0]) := add_tI (by simp)
    subst h6
    refine congrArg Fl.out (join (SL' := [.v (pkD s d 6 r mo [x, y, z] pay), .v (tI hd), .v (tI en), .v (tI ou), .v (tI ([x / 256, x % 256] ++ [y / 256, y % 256] ++ [z, 0])), .nil, .nil]) ?_ ?_)
    · simp [f_l_bytes, pkD, ix_tI, l_two, tI2, d1, d2]
    · simp [f_l_bytes, pkD]
  · by_cases h17 : k = 17
    · obtain ⟨x, y, rfl⟩ := two' (h.i17 h17)
      obtain ⟨ns, e, l⟩ := fin ([x / 256, x % 256] ++ [y / 256, y % 256]) (by simp) (by
        have h1 := h.hi x (by simp)
        have h2 := h.hi y (by simp)
        intro q hq
        simp at hq
        omega)
      refine ⟨ns, ?_, l⟩
      rw [← e]
      have d1 : pBin .add (tI [x / 256, x % 256]) (tI [y / 256, y % 256]) = some (tI [x / 256, x % 256, y / 256, y % 256]) := add_tI (by simp)
      subst h17
      refine congrArg Fl.out (join (SL' := [.v (pkD s d 17 r mo [x, y] pay), .v (tI hd), .v (tI en), .v (tI ou), .v (tI [x, y]), .nil, .nil]) ?_ ?_)
      · simp [f_l_bytes, pkD]
      · simp [f_l_bytes, pkD, ix_tI, l_two, tI2, d1]
    · obtain ⟨ns, e, l⟩ := fin inn (by have := h.il; omega) h.hi
      refine ⟨ns, ?_, l⟩
      rw [← e]
      refine congrArg Fl.out (join (SL' := [.v (pkD s d k r mo inn pay), .v (tI hd), .v (tI en), .v (tI ou), .v (tI inn), .nil, .nil]) ?_ ?_)
      · simp [f_l_bytes, pkD, h6]
      · simp [f_l_bytes, pkD, h17]
end
end K
end S_N94g
section S_N94h
set_option linter.all false
set_option maxRecDepth 100000
/-! N94h: the machine's steps. -/
namespace K
open G T
inductive Dec where | acc | drp | ref (r : Int)
inductive Spn where | itf | len | talk | side
inductive Ins where
  | ans (d : Dec) | load (w : Bool) (s : Int) (i : Bool) (o : Int) | spec (s : Int) (j : Spn) | put (s v : Int) | mask (s v : Int) | less (s v t u : Int)
def decD : Dec → D
  | .acc => .tup [.str s_accept]
  | .drp => .tup [.str s_drop]
  | .ref r => .tup [.str s_refuse, .int r]
def Spn.nm : Spn → List Nat
  | .itf => s_interface
  | .len => s_length
  | .talk => s_talk
  | .side => s_side
def Spn.ix : Spn → Nat
  | .itf => 0
  | .len => 8
  | .talk => 9
  | .side => 10
def insD : Ins → D
  | .ans d => .tup [.str s_answer, decD d]
  | .load w s i o => .tup [.str (if w then s_word else s_byte), .int s, .str (if i then s_inner else s_outer), .int o]
  | .spec s j => .tup [.str s_special, .int s, .str j.nm]
  | .put s v => .tup [.str s_put, .int s, .int v]
  | .mask s v => .tup [.str s_mask, .int s, .int v]
  | .less s v t u => .tup [.str s_less, .int s, .int v, .int t, .int u]
def sOk (s : Int) : Prop := 0 ≤ s ∧ s ≤ 3
def wOk (s : Int) : Prop := 0 ≤ s ∧ s ≤ 65535
/-- all but the places -/
def insV : Ins → Prop
  | .ans (.ref r) => 0 ≤ r ∧ r ≤ 255
  | .ans _ => True
  | .load _ s _ o => sOk s ∧ 0 ≤ o ∧ o ≤ 1500
  | .spec s _ => sOk s
  | .put s v => sOk s ∧ wOk v
  | .mask s v => sOk s ∧ wOk v
  | .less s v _ _ => sOk s ∧ wOk v
section
variable {α β : Type} {wf n : Nat} {S Z : List Cell} {sl : List Sl} {top : Int} {v a b c : D}
def andI (a b : D) (m : Nat) (sl : List Sl) : Prop := ∃ t bit : Int, sl = [.v a, .v b, .v (.int t), .v (.int bit)] ∧ 0 < bit ∧ m ≤ 16 ∧ bit * 2 ^ m = 65536
theorem l_and {x y : Int} (hw : 50 ≤ wf) : ∃ r, ev wf (n + 1) 260 [.int x, .int y] S = .ok (.int r) S := by
  rw [show ev wf (n + 1) 260 [.int x, .int y] S = (evB (cx wf n) f_l_and.body [.v (.int x), .v (.int y), .nil, .nil] S).out from rfl]
  obtain ⟨sl', e, t, bit, rfl⟩ := ex_whl (S := S) (c := fun sl S => evT (cx wf n) (.tr (.cmp .le (.v 3) (.k (.int 32768)))) sl S) (f := fun sl S => evB (cx wf n) [.ife (.and [(.tr (.cmp .eq (.bin .mod (.blt .int [(.bin .fdiv (.v 0) (.v 3))]) (.k (.int 2))) (.k (.int 1)))), (.tr (.cmp .eq (.bin .mod (.blt .int [(.bin .fdiv (.v 1) (.v 3))]) (.k (.int 2))) (.k (.int 1))))]) [.set 2 (.bin .add (.v 2) (.v 3))] [], .set 3 (.bin .mul (.v 3) (.k (.int 2)))] sl S)
    (J := fun sl => ∃ t bit : Int, sl = [.v (.int x), .v (.int y), .v (.int t), .v (.int bit)]) (andI (.int x) (.int y)) (fun m sl ⟨t, bit, e, b0, m16, hm⟩ => by
      subst e
      cases m with
      | zero =>
        left
        refine ⟨?_, t, bit, rfl⟩
        have : bit = 65536 := by simpa using hm
        subst this
        simp
      | succ m =>
        right
        have hp : 1 ≤ (2 : Int) ^ m := Int.pow_pos (by decide)
        have hb : bit ≤ 32768 := by
          rw [Int.pow_succ] at hm
          have : bit * 1 ≤ bit * 2 ^ m := Int.mul_le_mul_of_nonneg_left hp (by omega)
          have : bit * (2 ^ m * 2) = bit * 2 ^ m * 2 := (Int.mul_assoc _ _ _).symm
          omega
        have hm' : bit * 2 * 2 ^ m = 65536 := by
          rw [← hm, Int.pow_succ, Int.mul_assoc, Int.mul_comm 2]
        refine ⟨?_, ?_⟩
        · simp
          exact hb
        · have f1 := fdiv_pos (i := x) (j := bit) b0 (by omega)
          have f2 := fdiv_pos (i := y) (j := bit) b0 (by omega)
          by_cases h1 : x / bit % 2 = 1
          · by_cases h2 : y / bit % 2 = 1
            · refine ⟨_, m, ?_, Nat.lt_succ_self _, t + bit, bit * 2, rfl, by omega, by omega, hm'⟩
              simp [f1, f2, mod_pos (j := 2) (by decide), h1, h2, mul_small (j := 2) (Or.inr (by decide))]
            · refine ⟨_, m, ?_, Nat.lt_succ_self _, t, bit * 2, rfl, by omega, by omega, hm'⟩
              simp [f1, f2, mod_pos (j := 2) (by decide), h1, h2, mul_small (j := 2) (Or.inr (by decide))]
          · refine ⟨_, m, ?_, Nat.lt_succ_self _, t, bit * 2, rfl, by omega, by omega, hm'⟩
            simp [f1, mod_pos (j := 2) (by decide), h1, mul_small (j := 2) (Or.inr (by decide))]) wf 16 [.v (.int x), .v (.int y), .v (.int 0), .v (.int 1)] (by omega) ⟨0, 1, rfl, by decide, Nat.le_refl _, by decide⟩
  refine ⟨t, ?_⟩
  simp at e
  simp [f_l_and, e]
def shutB (k h x : Int) : Bool := [(2 : Int), 3, 5, 6, 7].contains x || (if k = 6 then [(5 : Int), 6, 7] else if k = 17 then [4, 5] else if k = 1 then [2, 3] else []).contains (x - h)
theorem l_shut {k h x : Int} : ev wf (n + 1) 261 [.int k, .int h, .int x] S = .ok (.bl (shutB k h x)) S := by
  rw [show ev wf (n + 1) 261 [.int k, .int h, .int x] S = (evB (cx wf n) f_l_shut.body [.v (.int k), .v (.int h), .v (.int x), .nil] S).out from rfl]
  have inT : ∀ (ns : List Int) (y : Int), pCmp .isin (.int y) (tI ns) = some (ns.contains y) := by
    intro ns y
    unfold tI
    rw [cmp_in_tup rfl (by have := depL_all (c := 0) (xs := ns.map D.int) (fun d hd => by obtain ⟨i, _, rfl⟩ := List.mem_map.mp hd; simp); omega)]
    congr 1
    induction ns with
    | nil => rfl
    | cons z zs ih =>
      have e : (z == y) = decide (y = z) := by
        by_cases hz : y = z
        · subst hz; simp
        · simp [hz, Ne.symm hz]
      simp [ih, e]
  have i1 : pCmp .isin (.int x) (.tup [.int 2, .int 3, .int 5, .int 6, .int 7]) = some ([(2 : Int), 3, 5, 6, 7].contains x) := inT [2, 3, 5, 6, 7] x
  have fin : ∀ ns : List Int, (evB (cx wf n) (f_l_shut.body.drop 1) [.v (.int k), .v (.int h), .v (.int x), .v (tI ns)] S).out = .ok (.bl ([(2 : Int), 3, 5, 6, 7].contains x || ns.contains (x - h))) S := by
    intro ns
    simp only [f_l_shut, List.drop]
    simp [-List.contains_eq_mem, i1, inT ns]
    by_cases hx : x = 2 ∨ x = 3 ∨ x = 5 ∨ x = 6 ∨ x = 7
    · rw [if_pos hx]
      have : (x == 2 || (x == 3 || (x == 5 || (x == 6 || x == 7)))) = true := by simpa using hx
      simp [this]
    · rw [if_neg hx]
      have : (x == 2 || (x == 3 || (x == 5 || (x == 6 || x == 7)))) = false := by simpa using hx
      simp [this]
  have pre : ∀ ns : List Int, evE (cx wf n) (.ite (.tr (.cmp .eq (.v 0) (.k (.int 6)))) (.tup [(.k (.int 5)), (.k (.int 6)), (.k (.int 7))]) (.ite (.tr (.cmp .eq (.v 0) (.k (.int 17)))) (.tup [(.k (.int 4)), (.k (.int 5))]) (.ite (.tr (.cmp .eq (.v 0) (.k (.int 1)))) (.tup [(.k (.int 2)), (.k (.int 3))]) (.tup [])))) [.v (.int k), .v (.int h), .v (.int x), .nil] S = .ok (tI ns) S →
      (evB (cx wf n) f_l_shut.body [.v (.int k), .v (.int h), .v (.int x), .nil] S).out = .ok (.bl ([(2 : Int), 3, 5, 6, 7].contains x || ns.contains (x - h))) S := by
    intro ns e
    rw [← fin ns, show f_l_shut.body = .set 3 (.ite (.tr (.cmp .eq (.v 0) (.k (.int 6)))) (.tup [(.k (.int 5)), (.k (.int 6)), (.k (.int 7))]) (.ite (.tr (.cmp .eq (.v 0) (.k (.int 17)))) (.tup [(.k (.int 4)), (.k (.int 5))]) (.ite (.tr (.cmp .eq (.v 0) (.k (.int 1)))) (.tup [(.k (.int 2)), (.k (.int 3))]) (.tup [])))) :: f_l_shut.body.drop 1 from rfl, evB_cons, evS_set, e]
    rfl
  unfold shutB
  apply pre
  by_cases h1 : k = 6
  · simp [h1, tI3]
  · by_cases h2 : k = 17
    · simp [h2, tI2]
    · by_cases h3 : k = 1
      · simp [h3, tI2]
      · simp [h1, h2, h3, tI0]
end
end K
end S_N94h
section S_N94i
set_option linter.all false
set_option maxRecDepth 100000
/-! N94i: one step of the machine. -/
namespace K
open G T
section
variable {α β : Type} {wf n : Nat} {S Z : List Cell} {sl : List Sl} {top : Int} {v a b c : D}
inductive Rd where | ok (x : Int) | bad (k : List Nat)
def rdL (row : List Int) (kd hd : Int) : Nat → Int → Int → Rd
  | 0, _, acc => .ok acc
  | c + 1, k, acc => if (row.length : Int) ≤ k then .bad s_outside else if shutB kd hd k then .bad s_closed else rdL row kd hd c (k + 1) (256 * acc + row.getD k.toNat 0)
def andV (wf n : Nat) (S : List Cell) (x y : Int) : Int := match ev wf n 260 [.int x, .int y] S with
  | .ok (.int r) _ => r
  | _ => 0
theorem andV_eq {x y : Int} (hw : 50 ≤ wf) : ev wf (n + 1) 260 [.int x, .int y] S = .ok (.int (andV wf (n + 1) S x y)) S := by
  obtain ⟨r, e⟩ := l_and (wf := wf) (n := n) (S := S) (x := x) (y := y) hw
  unfold andV
  rw [e]
def oD : Option Int → D
  | none => .non
  | some i => .int i
inductive Out where | ans (d : D) | harm (k : List Nat) | jmp (t : Int) | go (sls : List (Option Int))
structure Ctx where
  row : List Int
  kd : Int
  hd : Int
  vw : List Int
def stepF (an : Int → Int → Int) (X : Ctx) (sls : List (Option Int)) : Ins → Out
  | .ans d => .ans (decD d)
  | .less s v t u => match sls.getD s.toNat none with
    | some x => .jmp (if x < v then t else u)
    | none => .harm s_unset
  | .load w s i o => match rdL X.row X.kd X.hd (if w then 2 else 1) (o + if i then X.hd else 0) 0 with
    | .ok x => .go (sls.set s.toNat (some x))
    | .bad k => .harm k
  | .spec s j => .go (sls.set s.toNat (some (X.vw.getD j.ix 0)))
  | .put s v => .go (sls.set s.toNat (some v))
  | .mask s v => match sls.getD s.toNat none with
    | some x => .go (sls.set s.toNat (some (an x v)))
    | none => .harm s_unset
def rdBody : List G.T := [.ife (.tr (.cmp .ge (.v 11) (.blt .len [(.v 3)]))) [.ret (.tup [(.k (.str s_harm)), (.k (.str s_outside)), (.v 6)])] [], .ife (.tr (.cal 261 [(.ix (.v 1) (.k (.int 2))), (.v 4), (.v 11)])) [.ret (.tup [(.k (.str s_harm)), (.k (.str s_closed)), (.v 6)])] [], .set 10 (.bin .add (.bin .mul (.k (.int 256)) (.v 10)) (.ix (.v 3) (.v 11)))]
def harmD (k : List Nat) (at_ : Int) : D := .tup [.str s_harm, .str k, .int at_]
/-- the machine's slots -/
def mS (pr pk vw : D) (row : List Int) (hd : Int) (sls : List (Option Int)) (at_ tk : Int) (x8 x9 x10 x11 : Sl) : List Sl := [.v pr, .v pk, .v vw, .v (tI row), .v (.int hd), .own (sls.map oD), .v (.int at_), .v (.int tk), x8, x9, x10, x11]
theorem tI_at {ns : List Int} {k : Nat} (h : k < ns.length) : atI (ns.map D.int) (k : Int) = some (.int (ns.getD k 0)) := by
  rw [atI_nat, List.getElem?_map, List.getElem?_eq_getElem h, List.getD_eq_getElem?_getD, List.getElem?_eq_getElem h]
  rfl
theorem rd_loop {pr vw : D} {row : List Int} {s d k r : Int} {mo inn pay : List Int} {hd : Int} {sls : List (Option Int)} {at_ tk : Int} {x8 x9 : Sl} : ∀ (c : Nat) (st acc : Int) (x11 : Sl), 0 ≤ st →
    match rdL row k hd c st acc with
    | .ok x => ∃ y, forL (turnS (cx wf (n + 1)) (.s 11) rdBody) (upto st c) (mS pr (pkD s d k r mo inn pay) vw row hd sls at_ tk x8 x9 (.v (.int acc)) x11) S = .nx (mS pr (pkD s d k r mo inn pay) vw row hd sls at_ tk x8 x9 (.v (.int x)) y) S
    | .bad kk => forL (turnS (cx wf (n + 1)) (.s 11) rdBody) (upto st c) (mS pr (pkD s d k r mo inn pay) vw row hd sls at_ tk x8 x9 (.v (.int acc)) x11) S = .ret (harmD kk at_) S
  | 0, st, acc, x11, h0 => ⟨x11, rfl⟩
  | c + 1, st, acc, x11, h0 => by
    obtain ⟨m, rfl⟩ := Int.eq_ofNat_of_zero_le h0
    unfold rdL upto forL
    by_cases h1 : (row.length : Int) ≤ (m : Int)
    · rw [if_pos h1]
      simp [turnS, rdBody, mS, len_tI, h1, harmD]
    · rw [if_neg h1]
      by_cases h2 : shutB k hd m
      · rw [if_pos h2]
        simp [turnS, rdBody, mS, len_tI, h1, harmD, pkD, l_shut, h2]
      · rw [if_neg h2]
        have ih := rd_loop (pr := pr) (vw := vw) (row := row) (s := s) (d := d) (k := k) (r := r) (mo := mo) (inn := inn) (pay := pay) (hd := hd) (sls := sls) (at_ := at_) (tk := tk) (x8 := x8) (x9 := x9) c ((m : Int) + 1) (256 * acc + row.getD m 0) (.v (.int m)) (by omega)
        have step : turnS (cx wf (n + 1)) (.s 11) rdBody (.int m) (mS pr (pkD s d k r mo inn pay) vw row hd sls at_ tk x8 x9 (.v (.int acc)) x11) S = .nx (mS pr (pkD s d k r mo inn pay) vw row hd sls at_ tk x8 x9 (.v (.int (256 * acc + row.getD m 0))) (.v (.int m))) S := by
          simp only [Bool.not_eq_true] at h2
          simp [turnS, rdBody, mS, len_tI, h1, pkD, l_shut, h2, mul_small (i := 256) (Or.inl (by decide)), ix_tI, tI_at (ns := row) (k := m) (by omega)]
        rw [step]
        simpa using ih
end
end K
end S_N94i
section S_N94s
set_option linter.all false
/-! N94s: words that differ. -/
namespace K
open G T
@[simp] theorem ne_answer_byte : (s_answer = s_byte) = False := eq_false (by decide)
@[simp] theorem ne_answer_word : (s_answer = s_word) = False := eq_false (by decide)
@[simp] theorem ne_answer_special : (s_answer = s_special) = False := eq_false (by decide)
@[simp] theorem ne_answer_put : (s_answer = s_put) = False := eq_false (by decide)
@[simp] theorem ne_answer_mask : (s_answer = s_mask) = False := eq_false (by decide)
@[simp] theorem ne_answer_less : (s_answer = s_less) = False := eq_false (by decide)
@[simp] theorem ne_answer_harm : (s_answer = s_harm) = False := eq_false (by decide)
@[simp] theorem ne_byte_answer : (s_byte = s_answer) = False := eq_false (by decide)
@[simp] theorem ne_byte_word : (s_byte = s_word) = False := eq_false (by decide)
@[simp] theorem ne_byte_special : (s_byte = s_special) = False := eq_false (by decide)
@[simp] theorem ne_byte_put : (s_byte = s_put) = False := eq_false (by decide)
@[simp] theorem ne_byte_mask : (s_byte = s_mask) = False := eq_false (by decide)
@[simp] theorem ne_byte_less : (s_byte = s_less) = False := eq_false (by decide)
@[simp] theorem ne_byte_harm : (s_byte = s_harm) = False := eq_false (by decide)
@[simp] theorem ne_word_answer : (s_word = s_answer) = False := eq_false (by decide)
@[simp] theorem ne_word_byte : (s_word = s_byte) = False := eq_false (by decide)
@[simp] theorem ne_word_special : (s_word = s_special) = False := eq_false (by decide)
@[simp] theorem ne_word_put : (s_word = s_put) = False := eq_false (by decide)
@[simp] theorem ne_word_mask : (s_word = s_mask) = False := eq_false (by decide)
@[simp] theorem ne_word_less : (s_word = s_less) = False := eq_false (by decide)
@[simp] theorem ne_word_harm : (s_word = s_harm) = False := eq_false (by decide)
@[simp] theorem ne_special_answer : (s_special = s_answer) = False := eq_false (by decide)
@[simp] theorem ne_special_byte : (s_special = s_byte) = False := eq_false (by decide)
@[simp] theorem ne_special_word : (s_special = s_word) = False := eq_false (by decide)
@[simp] theorem ne_special_put : (s_special = s_put) = False := eq_false (by decide)
@[simp] theorem ne_special_mask : (s_special = s_mask) = False := eq_false (by decide)
@[simp] theorem ne_special_less : (s_special = s_less) = False := eq_false (by decide)
@[simp] theorem ne_special_harm : (s_special = s_harm) = False := eq_false (by decide)
@[simp] theorem ne_put_answer : (s_put = s_answer) = False := eq_false (by decide)
@[simp] theorem ne_put_byte : (s_put = s_byte) = False := eq_false (by decide)
@[simp] theorem ne_put_word : (s_put = s_word) = False := eq_false (by decide)
@[simp] theorem ne_put_special : (s_put = s_special) = False := eq_false (by decide)
@[simp] theorem ne_put_mask : (s_put = s_mask) = False := eq_false (by decide)
@[simp] theorem ne_put_less : (s_put = s_less) = False := eq_false (by decide)
@[simp] theorem ne_put_harm : (s_put = s_harm) = False := eq_false (by decide)
@[simp] theorem ne_mask_answer : (s_mask = s_answer) = False := eq_false (by decide)
@[simp] theorem ne_mask_byte : (s_mask = s_byte) = False := eq_false (by decide)
@[simp] theorem ne_mask_word : (s_mask = s_word) = False := eq_false (by decide)
@[simp] theorem ne_mask_special : (s_mask = s_special) = False := eq_false (by decide)
@[simp] theorem ne_mask_put : (s_mask = s_put) = False := eq_false (by decide)
@[simp] theorem ne_mask_less : (s_mask = s_less) = False := eq_false (by decide)
@[simp] theorem ne_mask_harm : (s_mask = s_harm) = False := eq_false (by decide)
@[simp] theorem ne_less_answer : (s_less = s_answer) = False := eq_false (by decide)
@[simp] theorem ne_less_byte : (s_less = s_byte) = False := eq_false (by decide)
@[simp] theorem ne_less_word : (s_less = s_word) = False := eq_false (by decide)
@[simp] theorem ne_less_special : (s_less = s_special) = False := eq_false (by decide)
@[simp] theorem ne_less_put : (s_less = s_put) = False := eq_false (by decide)
@[simp] theorem ne_less_mask : (s_less = s_mask) = False := eq_false (by decide)
@[simp] theorem ne_less_harm : (s_less = s_harm) = False := eq_false (by decide)
@[simp] theorem ne_harm_answer : (s_harm = s_answer) = False := eq_false (by decide)
@[simp] theorem ne_harm_byte : (s_harm = s_byte) = False := eq_false (by decide)
@[simp] theorem ne_harm_word : (s_harm = s_word) = False := eq_false (by decide)
@[simp] theorem ne_harm_special : (s_harm = s_special) = False := eq_false (by decide)
@[simp] theorem ne_harm_put : (s_harm = s_put) = False := eq_false (by decide)
@[simp] theorem ne_harm_mask : (s_harm = s_mask) = False := eq_false (by decide)
@[simp] theorem ne_harm_less : (s_harm = s_less) = False := eq_false (by decide)
@[simp] theorem ne_outer_inner : (s_outer = s_inner) = False := eq_false (by decide)
@[simp] theorem ne_inner_outer : (s_inner = s_outer) = False := eq_false (by decide)
@[simp] theorem ne_accept_drop : (s_accept = s_drop) = False := eq_false (by decide)
@[simp] theorem ne_accept_refuse : (s_accept = s_refuse) = False := eq_false (by decide)
@[simp] theorem ne_drop_accept : (s_drop = s_accept) = False := eq_false (by decide)
@[simp] theorem ne_drop_refuse : (s_drop = s_refuse) = False := eq_false (by decide)
@[simp] theorem ne_refuse_accept : (s_refuse = s_accept) = False := eq_false (by decide)
@[simp] theorem ne_refuse_drop : (s_refuse = s_drop) = False := eq_false (by decide)
@[simp] theorem ne_told_order : (s_told = s_order) = False := eq_false (by decide)
@[simp] theorem ne_order_told : (s_order = s_told) = False := eq_false (by decide)
@[simp] theorem ne_interface_length : (s_interface = s_length) = False := eq_false (by decide)
@[simp] theorem ne_interface_talk : (s_interface = s_talk) = False := eq_false (by decide)
@[simp] theorem ne_interface_side : (s_interface = s_side) = False := eq_false (by decide)
@[simp] theorem ne_interface_kind : (s_interface = s_kind) = False := eq_false (by decide)
@[simp] theorem ne_interface_source : (s_interface = s_source) = False := eq_false (by decide)
@[simp] theorem ne_interface_sport : (s_interface = s_sport) = False := eq_false (by decide)
@[simp] theorem ne_interface_destination : (s_interface = s_destination) = False := eq_false (by decide)
@[simp] theorem ne_interface_dport : (s_interface = s_dport) = False := eq_false (by decide)
@[simp] theorem ne_interface_flags : (s_interface = s_flags) = False := eq_false (by decide)
@[simp] theorem ne_interface_code : (s_interface = s_code) = False := eq_false (by decide)
@[simp] theorem ne_length_interface : (s_length = s_interface) = False := eq_false (by decide)
@[simp] theorem ne_length_talk : (s_length = s_talk) = False := eq_false (by decide)
@[simp] theorem ne_length_side : (s_length = s_side) = False := eq_false (by decide)
@[simp] theorem ne_length_kind : (s_length = s_kind) = False := eq_false (by decide)
@[simp] theorem ne_length_source : (s_length = s_source) = False := eq_false (by decide)
@[simp] theorem ne_length_sport : (s_length = s_sport) = False := eq_false (by decide)
@[simp] theorem ne_length_destination : (s_length = s_destination) = False := eq_false (by decide)
@[simp] theorem ne_length_dport : (s_length = s_dport) = False := eq_false (by decide)
@[simp] theorem ne_length_flags : (s_length = s_flags) = False := eq_false (by decide)
@[simp] theorem ne_length_code : (s_length = s_code) = False := eq_false (by decide)
@[simp] theorem ne_talk_interface : (s_talk = s_interface) = False := eq_false (by decide)
@[simp] theorem ne_talk_length : (s_talk = s_length) = False := eq_false (by decide)
@[simp] theorem ne_talk_side : (s_talk = s_side) = False := eq_false (by decide)
@[simp] theorem ne_talk_kind : (s_talk = s_kind) = False := eq_false (by decide)
@[simp] theorem ne_talk_source : (s_talk = s_source) = False := eq_false (by decide)
@[simp] theorem ne_talk_sport : (s_talk = s_sport) = False := eq_false (by decide)
@[simp] theorem ne_talk_destination : (s_talk = s_destination) = False := eq_false (by decide)
@[simp] theorem ne_talk_dport : (s_talk = s_dport) = False := eq_false (by decide)
@[simp] theorem ne_talk_flags : (s_talk = s_flags) = False := eq_false (by decide)
@[simp] theorem ne_talk_code : (s_talk = s_code) = False := eq_false (by decide)
@[simp] theorem ne_side_interface : (s_side = s_interface) = False := eq_false (by decide)
@[simp] theorem ne_side_length : (s_side = s_length) = False := eq_false (by decide)
@[simp] theorem ne_side_talk : (s_side = s_talk) = False := eq_false (by decide)
@[simp] theorem ne_side_kind : (s_side = s_kind) = False := eq_false (by decide)
@[simp] theorem ne_side_source : (s_side = s_source) = False := eq_false (by decide)
@[simp] theorem ne_side_sport : (s_side = s_sport) = False := eq_false (by decide)
@[simp] theorem ne_side_destination : (s_side = s_destination) = False := eq_false (by decide)
@[simp] theorem ne_side_dport : (s_side = s_dport) = False := eq_false (by decide)
@[simp] theorem ne_side_flags : (s_side = s_flags) = False := eq_false (by decide)
@[simp] theorem ne_side_code : (s_side = s_code) = False := eq_false (by decide)
@[simp] theorem ne_kind_interface : (s_kind = s_interface) = False := eq_false (by decide)
@[simp] theorem ne_kind_length : (s_kind = s_length) = False := eq_false (by decide)
@[simp] theorem ne_kind_talk : (s_kind = s_talk) = False := eq_false (by decide)
@[simp] theorem ne_kind_side : (s_kind = s_side) = False := eq_false (by decide)
@[simp] theorem ne_kind_source : (s_kind = s_source) = False := eq_false (by decide)
@[simp] theorem ne_kind_sport : (s_kind = s_sport) = False := eq_false (by decide)
@[simp] theorem ne_kind_destination : (s_kind = s_destination) = False := eq_false (by decide)
@[simp] theorem ne_kind_dport : (s_kind = s_dport) = False := eq_false (by decide)
@[simp] theorem ne_kind_flags : (s_kind = s_flags) = False := eq_false (by decide)
@[simp] theorem ne_kind_code : (s_kind = s_code) = False := eq_false (by decide)
@[simp] theorem ne_source_interface : (s_source = s_interface) = False := eq_false (by decide)
@[simp] theorem ne_source_length : (s_source = s_length) = False := eq_false (by decide)
@[simp] theorem ne_source_talk : (s_source = s_talk) = False := eq_false (by decide)
@[simp] theorem ne_source_side : (s_source = s_side) = False := eq_false (by decide)
@[simp] theorem ne_source_kind : (s_source = s_kind) = False := eq_false (by decide)
@[simp] theorem ne_source_sport : (s_source = s_sport) = False := eq_false (by decide)
@[simp] theorem ne_source_destination : (s_source = s_destination) = False := eq_false (by decide)
@[simp] theorem ne_source_dport : (s_source = s_dport) = False := eq_false (by decide)
@[simp] theorem ne_source_flags : (s_source = s_flags) = False := eq_false (by decide)
@[simp] theorem ne_source_code : (s_source = s_code) = False := eq_false (by decide)
@[simp] theorem ne_sport_interface : (s_sport = s_interface) = False := eq_false (by decide)
@[simp] theorem ne_sport_length : (s_sport = s_length) = False := eq_false (by decide)
@[simp] theorem ne_sport_talk : (s_sport = s_talk) = False := eq_false (by decide)
@[simp] theorem ne_sport_side : (s_sport = s_side) = False := eq_false (by decide)
@[simp] theorem ne_sport_kind : (s_sport = s_kind) = False := eq_false (by decide)
@[simp] theorem ne_sport_source : (s_sport = s_source) = False := eq_false (by decide)
@[simp] theorem ne_sport_destination : (s_sport = s_destination) = False := eq_false (by decide)
@[simp] theorem ne_sport_dport : (s_sport = s_dport) = False := eq_false (by decide)
@[simp] theorem ne_sport_flags : (s_sport = s_flags) = False := eq_false (by decide)
@[simp] theorem ne_sport_code : (s_sport = s_code) = False := eq_false (by decide)
@[simp] theorem ne_destination_interface : (s_destination = s_interface) = False := eq_false (by decide)
@[simp] theorem ne_destination_length : (s_destination = s_length) = False := eq_false (by decide)
@[simp] theorem ne_destination_talk : (s_destination = s_talk) = False := eq_false (by decide)
@[simp] theorem ne_destination_side : (s_destination = s_side) = False := eq_false (by decide)
@[simp] theorem ne_destination_kind : (s_destination = s_kind) = False := eq_false (by decide)
@[simp] theorem ne_destination_source : (s_destination = s_source) = False := eq_false (by decide)
@[simp] theorem ne_destination_sport : (s_destination = s_sport) = False := eq_false (by decide)
@[simp] theorem ne_destination_dport : (s_destination = s_dport) = False := eq_false (by decide)
@[simp] theorem ne_destination_flags : (s_destination = s_flags) = False := eq_false (by decide)
@[simp] theorem ne_destination_code : (s_destination = s_code) = False := eq_false (by decide)
@[simp] theorem ne_dport_interface : (s_dport = s_interface) = False := eq_false (by decide)
@[simp] theorem ne_dport_length : (s_dport = s_length) = False := eq_false (by decide)
@[simp] theorem ne_dport_talk : (s_dport = s_talk) = False := eq_false (by decide)
@[simp] theorem ne_dport_side : (s_dport = s_side) = False := eq_false (by decide)
@[simp] theorem ne_dport_kind : (s_dport = s_kind) = False := eq_false (by decide)
@[simp] theorem ne_dport_source : (s_dport = s_source) = False := eq_false (by decide)
@[simp] theorem ne_dport_sport : (s_dport = s_sport) = False := eq_false (by decide)
@[simp] theorem ne_dport_destination : (s_dport = s_destination) = False := eq_false (by decide)
@[simp] theorem ne_dport_flags : (s_dport = s_flags) = False := eq_false (by decide)
@[simp] theorem ne_dport_code : (s_dport = s_code) = False := eq_false (by decide)
@[simp] theorem ne_flags_interface : (s_flags = s_interface) = False := eq_false (by decide)
@[simp] theorem ne_flags_length : (s_flags = s_length) = False := eq_false (by decide)
@[simp] theorem ne_flags_talk : (s_flags = s_talk) = False := eq_false (by decide)
@[simp] theorem ne_flags_side : (s_flags = s_side) = False := eq_false (by decide)
@[simp] theorem ne_flags_kind : (s_flags = s_kind) = False := eq_false (by decide)
@[simp] theorem ne_flags_source : (s_flags = s_source) = False := eq_false (by decide)
@[simp] theorem ne_flags_sport : (s_flags = s_sport) = False := eq_false (by decide)
@[simp] theorem ne_flags_destination : (s_flags = s_destination) = False := eq_false (by decide)
@[simp] theorem ne_flags_dport : (s_flags = s_dport) = False := eq_false (by decide)
@[simp] theorem ne_flags_code : (s_flags = s_code) = False := eq_false (by decide)
@[simp] theorem ne_code_interface : (s_code = s_interface) = False := eq_false (by decide)
@[simp] theorem ne_code_length : (s_code = s_length) = False := eq_false (by decide)
@[simp] theorem ne_code_talk : (s_code = s_talk) = False := eq_false (by decide)
@[simp] theorem ne_code_side : (s_code = s_side) = False := eq_false (by decide)
@[simp] theorem ne_code_kind : (s_code = s_kind) = False := eq_false (by decide)
@[simp] theorem ne_code_source : (s_code = s_source) = False := eq_false (by decide)
@[simp] theorem ne_code_sport : (s_code = s_sport) = False := eq_false (by decide)
@[simp] theorem ne_code_destination : (s_code = s_destination) = False := eq_false (by decide)
@[simp] theorem ne_code_dport : (s_code = s_dport) = False := eq_false (by decide)
@[simp] theorem ne_code_flags : (s_code = s_flags) = False := eq_false (by decide)
end K
end S_N94s
section S_N94j
set_option linter.all false
set_option maxRecDepth 100000
/-! N94j: one turn of the machine's loop. -/
namespace K
open G T
section
variable {α β : Type} {wf n : Nat} {S Z : List Cell} {sl : List Sl} {top : Int} {v a b c : D}
def mBody : List G.T := [.set 8 (.ix (.v 0) (.v 6)), .set 7 (.bin .add (.v 7) (.k (.int 1))), .ife (.tr (.cmp .eq (.ix (.v 8) (.k (.int 0))) (.k (.str s_answer)))) [.ret (.tup [(.k (.str s_answer)), (.ix (.v 8) (.k (.int 1))), (.v 7)])] [], .ife (.and [(.tr (.cmp .isin (.ix (.v 8) (.k (.int 0))) (.tup [(.k (.str s_less)), (.k (.str s_mask))]))), (.tr (.cmp .isn (.ix (.b 5) (.ix (.v 8) (.k (.int 1)))) (.k .non)))]) [.ret (.tup [(.k (.str s_harm)), (.k (.str s_unset)), (.v 6)])] [], .ife (.tr (.cmp .eq (.ix (.v 8) (.k (.int 0))) (.k (.str s_less)))) [.set 6 (.ite (.tr (.cmp .lt (.ix (.b 5) (.ix (.v 8) (.k (.int 1)))) (.ix (.v 8) (.k (.int 2))))) (.ix (.v 8) (.k (.int 3))) (.ix (.v 8) (.k (.int 4)))), .cnt] [], .ife (.tr (.cmp .isin (.ix (.v 8) (.k (.int 0))) (.tup [(.k (.str s_byte)), (.k (.str s_word))]))) [.set 9 (.bin .add (.ix (.v 8) (.k (.int 3))) (.ite (.tr (.cmp .eq (.ix (.v 8) (.k (.int 2))) (.k (.str s_inner)))) (.v 4) (.k (.int 0)))), .set 10 (.k (.int 0)), .for_ (.s 11) (.rng [(.v 9), (.bin .add (.v 9) (.ite (.tr (.cmp .eq (.ix (.v 8) (.k (.int 0))) (.k (.str s_byte)))) (.k (.int 1)) (.k (.int 2))))]) [.ife (.tr (.cmp .ge (.v 11) (.blt .len [(.v 3)]))) [.ret (.tup [(.k (.str s_harm)), (.k (.str s_outside)), (.v 6)])] [], .ife (.tr (.cal 261 [(.ix (.v 1) (.k (.int 2))), (.v 4), (.v 11)])) [.ret (.tup [(.k (.str s_harm)), (.k (.str s_closed)), (.v 6)])] [], .set 10 (.bin .add (.bin .mul (.k (.int 256)) (.v 10)) (.ix (.v 3) (.v 11)))], .sub (.b 5) (.ix (.v 8) (.k (.int 1))) (.v 10)] [.ife (.tr (.cmp .eq (.ix (.v 8) (.k (.int 0))) (.k (.str s_special)))) [.sub (.b 5) (.ix (.v 8) (.k (.int 1))) (.ix (.v 2) (.ixc 48 (.ix (.v 8) (.k (.int 2)))))] [.ife (.tr (.cmp .eq (.ix (.v 8) (.k (.int 0))) (.k (.str s_put)))) [.sub (.b 5) (.ix (.v 8) (.k (.int 1))) (.ix (.v 8) (.k (.int 2)))] [.sub (.b 5) (.ix (.v 8) (.k (.int 1))) (.cal 260 [(.ix (.b 5) (.ix (.v 8) (.k (.int 1)))), (.ix (.v 8) (.k (.int 2)))])]]], .set 6 (.bin .add (.v 6) (.k (.int 1))), .ife (.tr (.cmp .eq (.v 6) (.blt .len [(.v 0)]))) [.ret (.tup [(.k (.str s_harm)), (.k (.str s_end)), (.bin .sub (.v 6) (.k (.int 1)))])] []]
theorem mBody_eq : f_l_machine.body = [.set 3 (.cal 253 [(.v 1)]), .set 4 (.bin .add (.k (.int 12)) (.blt .len [(.ix (.v 1) (.k (.int 4)))])), .setO 5 (.lst [(.k .non), (.k .non), (.k .non), (.k .non)]), .set 6 (.k (.int 0)), .set 7 (.k (.int 0)), .whl (.tr (.cmp .lt (.v 7) (.k (.int 201)))) mBody, .ret (.k .non)] := rfl
theorem sl_at {sls : List (Option Int)} {m : Nat} (h : m < sls.length) : atI (sls.map oD) (m : Int) = some (oD (sls.getD m none)) := by
  rw [atI_nat, List.getElem?_map, List.getElem?_eq_getElem h, List.getD_eq_getElem?_getD, List.getElem?_eq_getElem h]
  rfl
theorem sl_set {sls : List (Option Int)} {m : Nat} {x : Int} : (sls.map oD).set m (.int x) = (sls.set m (some x)).map oD := by
  rw [List.map_set]
  rfl
theorem ixN_nat {l m : Nat} (h : m < l) : ixN l (m : Int) = some m := by
  unfold ixN
  rw [if_pos (by omega), if_pos (by omega)]
  simp
def endF (len : Nat) (pr pk vw : D) (row : List Int) (hd : Int) (sls : List (Option Int)) (at_ tk : Int) (st : D) (x9 x10 x11 : Sl) (S : List Cell) : Fl := if at_ + 1 = len then .ret (harmD s_end at_) S else .nx (mS pr pk vw row hd sls (at_ + 1) tk (.v st) x9 x10 x11) S
/-- what one turn does -/
def turnM (len : Nat) (pr pk vw : D) (row : List Int) (hd : Int) (sls : List (Option Int)) (at_ tk : Int) (st : D) (S : List Cell) (o : Out) (r : Fl) : Prop := match o with
  | .ans d => r = .ret (.tup [.str s_answer, d, .int (tk + 1)]) S
  | .harm k => r = .ret (harmD k at_) S
  | .jmp t => ∃ x9 x10 x11, r = .cnt (mS pr pk vw row hd sls t (tk + 1) (.v st) x9 x10 x11) S
  | .go sls' => ∃ x9 x10 x11, r = endF len pr pk vw row hd sls' at_ (tk + 1) st x9 x10 x11 S
theorem decD_pur {d : Dec} : (decD d).pur = true := by cases d <;> rfl
theorem insD_pur {i : Ins} : (insD i).pur = true := by cases i <;> rfl
theorem turn_ans {p : List Ins} {d : Dec} {pk vw : D} {row : List Int} {hd tk : Int} {i : Nat} {sls : List (Option Int)} {x8 x9 x10 x11 : Sl} (h : p[i]? = some (.ans d)) :
    evB (cx wf (n + 1)) mBody (mS (.tup (p.map insD)) pk vw row hd sls i tk x8 x9 x10 x11) S = .ret (.tup [.str s_answer, decD d, .int (tk + 1)]) S := by
  have e : atI (p.map insD) (i : Int) = some (.tup [.str s_answer, decD d]) := by
    rw [atI_nat, List.getElem?_map, h]
    rfl
  simp [mBody, mS, e, decD_pur]
theorem turn_less {p : List Ins} {s v t u : Int} {pk vw : D} {row : List Int} {hd tk : Int} {i : Nat} {sls : List (Option Int)} {x8 x9 x10 x11 : Sl} (h : p[i]? = some (.less s v t u)) (hs : sOk s) (hl : sls.length = 4) :
    turnM p.length (.tup (p.map insD)) pk vw row hd sls i tk (insD (.less s v t u)) S (stepF (andV wf (n + 1) S) X sls (.less s v t u)) (evB (cx wf (n + 1)) mBody (mS (.tup (p.map insD)) pk vw row hd sls i tk x8 x9 x10 x11) S) := by
  have e : atI (p.map insD) (i : Int) = some (insD (.less s v t u)) := by
    rw [atI_nat, List.getElem?_map, h]
    rfl
  obtain ⟨m, rfl⟩ := Int.eq_ofNat_of_zero_le hs.1
  have hm : m < sls.length := by have := hs.2; omega
  have e2 := sl_at hm
  simp only [stepF, Int.toNat_natCast]
  cases hx : sls.getD m none with
  | none =>
    rw [hx] at e2
    simp [turnM, mBody, mS, e, insD, e2, oD, harmD]
  | some x =>
    rw [hx] at e2
    refine ⟨x9, x10, x11, ?_⟩
    by_cases hv : x < v <;> simp [mBody, mS, e, insD, e2, oD, hv]
end
end K
end S_N94j
section S_N94k
set_option linter.all false
set_option maxRecDepth 100000
/-! N94k: one turn of the machine's loop: loads and the others. -/
namespace K
open G T
section
variable {α β : Type} {wf n : Nat} {S Z : List Cell} {sl : List Sl} {top : Int} {v a b c : D} {X : Ctx}
theorem end_eq {len : Nat} {pr pk vw : D} {row : List Int} {hd : Int} {sls : List (Option Int)} {at_ tk : Int} {st : D} {x9 x10 x11 : Sl} {C : Cx} (hp : pB .len [pr] = some (.int len)) (hd' : dr S pr = pr) :
    evB C [.set 6 (.bin .add (.v 6) (.k (.int 1))), .ife (.tr (.cmp .eq (.v 6) (.blt .len [(.v 0)]))) [.ret (.tup [(.k (.str s_harm)), (.k (.str s_end)), (.bin .sub (.v 6) (.k (.int 1)))])] []] (mS pr pk vw row hd sls at_ tk (.v st) x9 x10 x11) S = endF len pr pk vw row hd sls at_ tk st x9 x10 x11 S := by
  unfold endF
  by_cases h : at_ + 1 = len
  · simp [mS, hp, hd', h, harmD]
    omega
  · simp [mS, hp, hd', h]
/-- the middle of a turn -/
def mMid : G.T := (mBody.getD 5 .pas)
theorem turn_mid {p : List Ins} {ins : Ins} {pk vw : D} {row : List Int} {hd tk : Int} {i : Nat} {sls : List (Option Int)} {x8 x9 x10 x11 : Sl} (h : p[i]? = some ins) (hk : match ins with | .ans _ => False | .less .. => False | .mask s _ => (sls.getD s.toNat none).isSome = true ∧ sOk s ∧ sls.length = 4 | _ => True) {Q : Fl → Prop}
    (q : Q ((evS (cx wf (n + 1)) mMid (mS (.tup (p.map insD)) pk vw row hd sls i (tk + 1) (.v (insD ins)) x9 x10 x11) S).nxt fun sl S => evB (cx wf (n + 1)) [.set 6 (.bin .add (.v 6) (.k (.int 1))), .ife (.tr (.cmp .eq (.v 6) (.blt .len [(.v 0)]))) [.ret (.tup [(.k (.str s_harm)), (.k (.str s_end)), (.bin .sub (.v 6) (.k (.int 1)))])] []] sl S)) :
    Q (evB (cx wf (n + 1)) mBody (mS (.tup (p.map insD)) pk vw row hd sls i tk x8 x9 x10 x11) S) := by
  have e : atI (p.map insD) (i : Int) = some (insD ins) := by
    rw [atI_nat, List.getElem?_map, h]
    rfl
  have pre : evB (cx wf (n + 1)) (mBody.take 5) (mS (.tup (p.map insD)) pk vw row hd sls i tk x8 x9 x10 x11) S = .nx (mS (.tup (p.map insD)) pk vw row hd sls i (tk + 1) (.v (insD ins)) x9 x10 x11) S := by
    cases ins with
    | ans d => exact hk.elim
    | less s v t u => exact hk.elim
    | load w s j o => cases w <;> simp [mBody, mS, e, insD]
    | spec s j => simp [mBody, mS, e, insD]
    | put s v => simp [mBody, mS, e, insD]
    | mask s v =>
      obtain ⟨k1, k2, k3⟩ := hk
      obtain ⟨m, rfl⟩ := Int.eq_ofNat_of_zero_le k2.1
      have e2 := sl_at (sls := sls) (m := m) (by have := k2.2; omega)
      rw [Int.toNat_natCast] at k1
      obtain ⟨y, hy⟩ := Option.isSome_iff_exists.mp k1
      rw [hy] at e2
      simp [mBody, mS, e, insD, e2, oD]
  have cut : ∀ (ts us : List G.T) (sl : List Sl) (S : List Cell), evB (cx wf (n + 1)) (ts ++ us) sl S = (evB (cx wf (n + 1)) ts sl S).nxt fun sl S => evB (cx wf (n + 1)) us sl S := by
    intro ts
    induction ts with
    | nil => intro us sl S; simp
    | cons t ts ih =>
      intro us sl S
      rw [List.cons_append, evB_cons, evB_cons, nxt_nxt]
      congr 1
      funext sl S
      exact ih us sl S
  rw [show mBody = mBody.take 5 ++ (mMid :: mBody.drop 6) from rfl, cut, pre, nxt_nx, evB_cons]
  exact q
theorem turn_put {p : List Ins} {s v : Int} {pk vw : D} {row : List Int} {hd tk : Int} {i : Nat} {sls : List (Option Int)} {x8 x9 x10 x11 : Sl} {an} (h : p[i]? = some (.put s v)) (hs : sOk s) (hl : sls.length = 4) :
    turnM p.length (.tup (p.map insD)) pk vw row hd sls i tk (insD (.put s v)) S (stepF an X sls (.put s v)) (evB (cx wf (n + 1)) mBody (mS (.tup (p.map insD)) pk vw row hd sls i tk x8 x9 x10 x11) S) := by
  obtain ⟨m, rfl⟩ := Int.eq_ofNat_of_zero_le hs.1
  have hm : m < sls.length := by have := hs.2; omega
  have hp : pB .len [.tup (p.map insD)] = some (.int p.length) := by rw [pB_len_tup, List.length_map]
  refine turn_mid (Q := fun r => turnM p.length (.tup (p.map insD)) pk vw row hd sls i tk (insD (.put m v)) S (stepF an X sls (.put m v)) r) h trivial ?_
  refine ⟨x9, x10, x11, ?_⟩
  rw [← end_eq (C := cx wf (n + 1)) hp rfl]
  have e : evS (cx wf (n + 1)) mMid (mS (.tup (p.map insD)) pk vw row hd sls i (tk + 1) (.v (insD (.put m v))) x9 x10 x11) S = .nx (mS (.tup (p.map insD)) pk vw row hd (sls.set m (some v)) i (tk + 1) (.v (insD (.put m v))) x9 x10 x11) S := by
    simp [mMid, mBody, mS, insD, lstAt, chg, ixN_nat hm, sl_set]
  rw [e, nxt_nx]
  rfl
theorem turn_spec {p : List Ins} {s : Int} {j : Spn} {pk : D} {vw : List Int} {row : List Int} {hd tk : Int} {i : Nat} {sls : List (Option Int)} {x8 x9 x10 x11 : Sl} {an} (h : p[i]? = some (.spec s j)) (hs : sOk s) (hl : sls.length = 4) (hv : vw.length = 11) (hX : X.vw = vw) :
    turnM p.length (.tup (p.map insD)) pk (tI vw) row hd sls i tk (insD (.spec s j)) S (stepF an X sls (.spec s j)) (evB (cx wf (n + 1)) mBody (mS (.tup (p.map insD)) pk (tI vw) row hd sls i tk x8 x9 x10 x11) S) := by
  obtain ⟨m, rfl⟩ := Int.eq_ofNat_of_zero_le hs.1
  have hm : m < sls.length := by have := hs.2; omega
  have hp : pB .len [.tup (p.map insD)] = some (.int p.length) := by rw [pB_len_tup, List.length_map]
  refine turn_mid (Q := fun r => turnM p.length (.tup (p.map insD)) pk (tI vw) row hd sls i tk (insD (.spec m j)) S (stepF an X sls (.spec m j)) r) h trivial ?_
  refine ⟨x9, x10, x11, ?_⟩
  rw [← end_eq (C := cx wf (n + 1)) hp rfl, hX]
  have pl : placeC [s_interface, s_kind, s_source, s_sport, s_destination, s_dport, s_flags, s_code, s_length, s_talk, s_side] (.str j.nm) = some (.int j.ix) := by cases j <;> rfl
  have at_ := tI_at (ns := vw) (k := j.ix) (by cases j <;> simp [Spn.ix, hv])
  have e : evS (cx wf (n + 1)) mMid (mS (.tup (p.map insD)) pk (tI vw) row hd sls i (tk + 1) (.v (insD (.spec m j))) x9 x10 x11) S = .nx (mS (.tup (p.map insD)) pk (tI vw) row hd (sls.set m (some (vw.getD j.ix 0))) i (tk + 1) (.v (insD (.spec m j))) x9 x10 x11) S := by
    simp [mMid, mBody, mS, insD, lstAt, chg, ixN_nat hm, cst, pl, ix_tI, at_, sl_set]
  rw [e, nxt_nx]
  rfl
theorem turn_mask {p : List Ins} {s v : Int} {pk vw : D} {row : List Int} {hd tk : Int} {i : Nat} {sls : List (Option Int)} {x8 x9 x10 x11 : Sl} (h : p[i]? = some (.mask s v)) (hs : sOk s) (hl : sls.length = 4) (hw : 50 ≤ wf) :
    turnM p.length (.tup (p.map insD)) pk vw row hd sls i tk (insD (.mask s v)) S (stepF (andV wf (n + 1) S) X sls (.mask s v)) (evB (cx wf (n + 1)) mBody (mS (.tup (p.map insD)) pk vw row hd sls i tk x8 x9 x10 x11) S) := by
  obtain ⟨m, rfl⟩ := Int.eq_ofNat_of_zero_le hs.1
  have hm : m < sls.length := by have := hs.2; omega
  have e2 := sl_at hm
  have hp : pB .len [.tup (p.map insD)] = some (.int p.length) := by rw [pB_len_tup, List.length_map]
  cases hx : sls.getD m none with
  | none =>
    have e : atI (p.map insD) (i : Int) = some (insD (.mask m v)) := by
      rw [atI_nat, List.getElem?_map, h]
      rfl
    simp only [stepF, Int.toNat_natCast, hx]
    rw [hx] at e2
    have pre : evB (cx wf (n + 1)) (mBody.take 4) (mS (.tup (p.map insD)) pk vw row hd sls i tk x8 x9 x10 x11) S = .ret (harmD s_unset i) S := by
      simp [mBody, mS, e, insD, e2, oD, harmD]
    have cut : ∀ (ts us : List G.T) (sl : List Sl) (S : List Cell), evB (cx wf (n + 1)) (ts ++ us) sl S = (evB (cx wf (n + 1)) ts sl S).nxt fun sl S => evB (cx wf (n + 1)) us sl S := by
      intro ts
      induction ts with
      | nil => intro us sl S; simp
      | cons t ts ih =>
        intro us sl S
        rw [List.cons_append, evB_cons, evB_cons, nxt_nxt]
        congr 1
        funext sl S
        exact ih us sl S
    show _ = Fl.ret _ _
    rw [show mBody = mBody.take 4 ++ mBody.drop 4 from rfl, cut, pre, nxt_ret]
  | some x =>
    refine turn_mid (Q := fun r => turnM p.length (.tup (p.map insD)) pk vw row hd sls i tk (insD (.mask m v)) S (stepF (andV wf (n + 1) S) X sls (.mask m v)) r) h ⟨by rw [Int.toNat_natCast, hx]; rfl, hs, hl⟩ ?_
    simp only [stepF, Int.toNat_natCast, hx]
    refine ⟨x9, x10, x11, ?_⟩
    rw [← end_eq (C := cx wf (n + 1)) hp rfl]
    rw [hx] at e2
    have e2 : atI (sls.map oD) (m : Int) = some (.int x) := e2
    have e : evS (cx wf (n + 1)) mMid (mS (.tup (p.map insD)) pk vw row hd sls i (tk + 1) (.v (insD (.mask m v))) x9 x10 x11) S = .nx (mS (.tup (p.map insD)) pk vw row hd (sls.set m (some (andV wf (n + 1) S x v))) i (tk + 1) (.v (insD (.mask m v))) x9 x10 x11) S := by
      simp [mMid, mBody, mS, insD, lstAt, chg, ixN_nat hm, e2, andV_eq hw, sl_set]
    rw [e, nxt_nx]
theorem turn_load {p : List Ins} {w : Bool} {s' : Int} {j : Bool} {o : Int} {vw : D} {row : List Int} {s d k r : Int} {mo inn pay : List Int} {hd tk : Int} {i : Nat} {sls : List (Option Int)} {x8 x9 x10 x11 : Sl} {an} (h : p[i]? = some (.load w s' j o)) (hs : sOk s') (ho : 0 ≤ o ∧ o ≤ 1500) (hl : sls.length = 4) (hh : 0 ≤ hd ∧ hd ≤ 1000)
    (h1 : X.row = row) (h2 : X.kd = k) (h3 : X.hd = hd) :
    turnM p.length (.tup (p.map insD)) (pkD s d k r mo inn pay) vw row hd sls i tk (insD (.load w s' j o)) S (stepF an X sls (.load w s' j o)) (evB (cx wf (n + 1)) mBody (mS (.tup (p.map insD)) (pkD s d k r mo inn pay) vw row hd sls i tk x8 x9 x10 x11) S) := by
  obtain ⟨m, rfl⟩ := Int.eq_ofNat_of_zero_le hs.1
  have hm : m < sls.length := by have := hs.2; omega
  have hp : pB .len [.tup (p.map insD)] = some (.int p.length) := by rw [pB_len_tup, List.length_map]
  refine turn_mid (Q := fun r' => turnM p.length (.tup (p.map insD)) (pkD s d k r mo inn pay) vw row hd sls i tk (insD (.load w m j o)) S (stepF an X sls (.load w m j o)) r') h trivial ?_
  obtain ⟨st, est, st0, st1⟩ : ∃ st : Int, st = o + (if j then hd else 0) ∧ 0 ≤ st ∧ st ≤ 2500 := ⟨_, rfl, by split <;> omega, by split <;> omega⟩
  have hc : ∃ c : Nat, c = (if w then 2 else 1) := ⟨_, rfl⟩
  obtain ⟨c, ec⟩ := hc
  have rl := rd_loop (wf := wf) (n := n) (S := S) (pr := .tup (p.map insD)) (vw := vw) (row := row) (s := s) (d := d) (k := k) (r := r) (mo := mo) (inn := inn) (pay := pay) (hd := hd) (sls := sls) (at_ := i) (tk := tk + 1) (x8 := .v (insD (.load w m j o))) (x9 := .v (.int st)) c st 0 x11 st0
  have rng : pRng [.int st, .int (st + c)] = some (upto st c) := by
    have q1 : rngOk st = true := by unfold rngOk; simp; omega
    have q2 : rngOk (st + c) = true := by
      unfold rngOk
      simp
      cases w <;> simp at ec <;> omega
    simp [pRng, q1, q2]
    congr 1
    omega
  have mid : evS (cx wf (n + 1)) mMid (mS (.tup (p.map insD)) (pkD s d k r mo inn pay) vw row hd sls i (tk + 1) (.v (insD (.load w m j o))) x9 x10 x11) S = (forL (turnS (cx wf (n + 1)) (.s 11) rdBody) (upto st c) (mS (.tup (p.map insD)) (pkD s d k r mo inn pay) vw row hd sls i (tk + 1) (.v (insD (.load w m j o))) (.v (.int st)) (.v (.int 0)) x11) S).nxt fun sl S => evB (cx wf (n + 1)) [.sub (.b 5) (.ix (.v 8) (.k (.int 1))) (.v 10)] sl S := by
    cases w <;> cases j <;> simp at ec est <;> subst ec <;> subst est <;> simp at rng <;> simp [mMid, mBody, mS, insD, rng, rdBody]
  simp only [stepF, h1, h2, h3, Int.toNat_natCast]
  rw [← est, ← ec]
  rw [mid]
  cases hr : rdL row k hd c st 0 with
  | ok x =>
    rw [hr] at rl
    obtain ⟨y, rl⟩ := rl
    refine ⟨.v (.int st), .v (.int x), y, ?_⟩
    rw [← end_eq (C := cx wf (n + 1)) hp rfl, rl, nxt_nx]
    have e : evB (cx wf (n + 1)) [.sub (.b 5) (.ix (.v 8) (.k (.int 1))) (.v 10)] (mS (.tup (p.map insD)) (pkD s d k r mo inn pay) vw row hd sls i (tk + 1) (.v (insD (.load w m j o))) (.v (.int st)) (.v (.int x)) y) S = .nx (mS (.tup (p.map insD)) (pkD s d k r mo inn pay) vw row hd (sls.set m (some x)) i (tk + 1) (.v (insD (.load w m j o))) (.v (.int st)) (.v (.int x)) y) S := by
      simp [mS, insD, lstAt, chg, ixN_nat hm, sl_set]
    rw [e, nxt_nx]
  | bad kk =>
    rw [hr] at rl
    show _ = Fl.ret _ _
    rw [rl]
    rfl
end
end K
end S_N94k
section S_N94l
set_option linter.all false
set_option maxRecDepth 100000
/-! N94l: two programs run alike. -/
namespace K
open G T
def relI (π : Int → Int) : Ins → Ins
  | .less s v t u => .less s v (π t) (π u)
  | i => i
def relO (π : Int → Int) : Out → Out
  | .jmp t => .jmp (π t)
  | o => o
def goes : Ins → Bool
  | .ans _ => false
  | .less .. => false
  | _ => true
theorem relV {π : Int → Int} {i : Ins} : insV (relI π i) ↔ insV i := by cases i <;> exact Iff.rfl
section
variable {α β : Type} {wf n : Nat} {S Z : List Cell} {sl : List Sl} {top : Int} {v a b c : D} {X : Ctx}
theorem step_rel {an} {π : Int → Int} {sls : List (Option Int)} {i : Ins} : stepF an X sls (relI π i) = relO π (stepF an X sls i) := by
  cases i with
  | less s v t u =>
    simp only [relI, stepF]
    split
    · simp only [relO]
      congr 1
      split <;> rfl
    · rfl
  | load w s j o =>
    simp only [relI, stepF]
    split <;> rfl
  | mask s v =>
    simp only [relI, stepF]
    split <;> rfl
  | _ => rfl
theorem step_jmp {an} {sls : List (Option Int)} {i : Ins} {t : Int} (h : stepF an X sls i = .jmp t) : ∃ s v a b, i = .less s v a b ∧ (t = a ∨ t = b) := by
  cases i with
  | less s v a b =>
    refine ⟨s, v, a, b, rfl, ?_⟩
    simp only [stepF] at h
    split at h
    · cases h
      split
      · exact .inl rfl
      · exact .inr rfl
    · cases h
  | load w s j o =>
    simp only [stepF] at h
    split at h <;> cases h
  | mask s v =>
    simp only [stepF] at h
    split at h <;> cases h
  | _ => cases h
theorem step_go {an} {sls sls' : List (Option Int)} {i : Ins} (h : stepF an X sls i = .go sls') : goes i = true ∧ sls'.length = sls.length := by
  cases i with
  | less s v a b =>
    simp only [stepF] at h
    split at h <;> cases h
  | load w s j o =>
    simp only [stepF] at h
    split at h
    · cases h
      exact ⟨rfl, by simp⟩
    · cases h
  | mask s v =>
    simp only [stepF] at h
    split at h
    · cases h
      exact ⟨rfl, by simp⟩
    · cases h
  | ans d => cases h
  | spec s j =>
    cases h
    exact ⟨rfl, by simp⟩
  | put s v =>
    cases h
    exact ⟨rfl, by simp⟩
theorem turn_any {p : List Ins} {ins : Ins} {vw row : List Int} {s d k r : Int} {mo inn pay : List Int} {hd tk : Int} {i : Nat} {sls : List (Option Int)} {x8 x9 x10 x11 : Sl} (h : p[i]? = some ins) (hv : insV ins) (hl : sls.length = 4) (hh : 0 ≤ hd ∧ hd ≤ 1000) (hvw : vw.length = 11) (hw : 50 ≤ wf) :
    turnM p.length (.tup (p.map insD)) (pkD s d k r mo inn pay) (tI vw) row hd sls i tk (insD ins) S (stepF (andV wf (n + 1) S) ⟨row, k, hd, vw⟩ sls ins) (evB (cx wf (n + 1)) mBody (mS (.tup (p.map insD)) (pkD s d k r mo inn pay) (tI vw) row hd sls i tk x8 x9 x10 x11) S) := by
  cases ins with
  | ans d => exact turn_ans h
  | less s v t u => exact turn_less h hv.1 hl
  | load w s j o => exact turn_load h hv.1 hv.2 hl hh rfl rfl rfl
  | spec s j => exact turn_spec h hv hl hvw rfl
  | put s v => exact turn_put h hv.1 hl
  | mask s v => exact turn_mask h hv.1 hl hw
def SameEnd (a b : D) : Prop := (∃ d t, a = .tup [.str s_answer, d, .int t] ∧ b = a ∧ d.pur = true ∧ d.dep ≤ 5 ∧ D.eqv d d = true) ∨ ∃ k x y, a = harmD k x ∧ b = harmD k y
/-- a program whose jumps go on, the same one in another order -/
structure Alike (p q : List Ins) (pos : Nat → Nat) : Prop where
  len : q.length = p.length
  val : ∀ ins ∈ p, insV ins
  tgt : ∀ (i : Nat) s v t u, p[i]? = some (.less s v t u) → (i : Int) < t ∧ t < p.length ∧ (i : Int) < u ∧ u < p.length
  at_ : ∀ (i : Nat) ins, p[i]? = some ins → q[pos i]? = some (relI (fun t => (pos t.toNat : Int)) ins)
  nxt : ∀ (i : Nat) ins, p[i]? = some ins → goes ins = true → (i + 1 < p.length ∧ pos (i + 1) = pos i + 1 ∧ pos i + 1 < p.length) ∨ (i + 1 = p.length ∧ pos i + 1 = p.length)
def mC (wf n : Nat) : List Sl → List Cell → Rs Bool := fun sl S => evT (cx wf (n + 1)) (.tr (.cmp .lt (.v 7) (.k (.int 201)))) sl S
def mF (wf n : Nat) : List Sl → List Cell → Fl := fun sl S => evB (cx wf (n + 1)) mBody sl S
theorem mC_lt {pr pk vw : D} {row : List Int} {hd : Int} {sls : List (Option Int)} {at_ tk : Int} {x8 x9 x10 x11 : Sl} (h : tk < 201) : mC wf n (mS pr pk vw row hd sls at_ tk x8 x9 x10 x11) S = .ok true S := by
  simp [mC, mS, h]
theorem whl_step {c : List Sl → List Cell → Rs Bool} {f : List Sl → List Cell → Fl} {w : Nat} (h : c sl S = .ok true S) : whlL c f (w + 1) sl S = match f sl S with
    | .nx sl S => whlL c f w sl S
    | .cnt sl S => whlL c f w sl S
    | .brk sl S => .nx sl S
    | .ret d S => .ret d S
    | .exc c x sl S => .exc c x sl S
    | .stk => .stk := by
  rw [whlL, h, fl_ok, if_pos rfl]
  all_goals (cases f sl S <;> rfl)
theorem decD_ok {d : Dec} : (decD d).pur = true ∧ (decD d).dep ≤ 5 ∧ D.eqv (decD d) (decD d) = true := by
  cases d <;> refine ⟨rfl, ?_, ?_⟩ <;> simp [decD]
theorem sim {p q : List Ins} {pos : Nat → Nat} (A : Alike p q pos) {vw row : List Int} {s d k r : Int} {mo inn pay : List Int} {hd : Int} (hh : 0 ≤ hd ∧ hd ≤ 1000) (hvw : vw.length = 11) (hw : 50 ≤ wf) : ∀ (m i : Nat) (sls : List (Option Int)) (tk : Int) (w : Nat) (x8 x9 x10 x11 y8 y9 y10 y11 : Sl), p.length ≤ i + m → i < p.length → sls.length = 4 → tk + m ≤ 200 → m < w →
    ∃ dP dQ, whlL (mC wf n) (mF wf n) w (mS (.tup (p.map insD)) (pkD s d k r mo inn pay) (tI vw) row hd sls i tk x8 x9 x10 x11) S = .ret dP S ∧ whlL (mC wf n) (mF wf n) w (mS (.tup (q.map insD)) (pkD s d k r mo inn pay) (tI vw) row hd sls (pos i) tk y8 y9 y10 y11) S = .ret dQ S ∧ SameEnd dP dQ
  | 0, i, _, _, _, _, _, _, _, _, _, _, _, h1, h2, _, _, _ => by omega
  | m + 1, i, sls, tk, 0, _, _, _, _, _, _, _, _, h1, h2, h3, h4, h5 => by omega
  | m + 1, i, sls, tk, w + 1, x8, x9, x10, x11, y8, y9, y10, y11, h1, h2, h3, h4, h5 => by
    have hi : p[i]? = some p[i] := List.getElem?_eq_getElem h2
    generalize p[i] = ins at hi
    have hm := List.mem_of_getElem? hi
    have hq := A.at_ i ins hi
    have tp := turn_any (wf := wf) (n := n) (S := S) (vw := vw) (row := row) (s := s) (d := d) (k := k) (r := r) (mo := mo) (inn := inn) (pay := pay) (tk := tk) (x8 := x8) (x9 := x9) (x10 := x10) (x11 := x11) hi (A.val _ hm) h3 hh hvw hw
    have tq := turn_any (wf := wf) (n := n) (S := S) (vw := vw) (row := row) (s := s) (d := d) (k := k) (r := r) (mo := mo) (inn := inn) (pay := pay) (tk := tk) (x8 := y8) (x9 := y9) (x10 := y10) (x11 := y11) hq (relV.mpr (A.val _ hm)) h3 hh hvw hw
    rw [step_rel] at tq
    rw [whl_step (mC_lt (by omega)), whl_step (mC_lt (by omega))]
    unfold mF at *
    cases ho : stepF (andV wf (n + 1) S) ⟨row, k, hd, vw⟩ sls ins with
    | ans x =>
      rw [ho] at tp tq
      have tp : evB (cx wf (n + 1)) mBody _ S = _ := tp
      have tq : evB (cx wf (n + 1)) mBody _ S = _ := tq
      rw [tp, tq]
      refine ⟨_, _, rfl, rfl, .inl ⟨x, _, rfl, rfl, ?_⟩⟩
      cases ins with
      | ans dd =>
        cases ho
        exact decD_ok
      | less s v a b =>
        simp only [stepF] at ho
        split at ho <;> cases ho
      | load w s j o =>
        simp only [stepF] at ho
        split at ho <;> cases ho
      | mask s v =>
        simp only [stepF] at ho
        split at ho <;> cases ho
      | _ => cases ho
    | harm kk =>
      rw [ho] at tp tq
      have tp : evB (cx wf (n + 1)) mBody _ S = _ := tp
      have tq : evB (cx wf (n + 1)) mBody _ S = _ := tq
      rw [tp, tq]
      exact ⟨_, _, rfl, rfl, .inr ⟨kk, _, _, rfl, rfl⟩⟩
    | jmp t =>
      rw [ho] at tp tq
      obtain ⟨u9, u10, u11, tp⟩ := tp
      obtain ⟨z9, z10, z11, tq⟩ := tq
      rw [tp, tq]
      obtain ⟨s', v', a', b', rfl, ht⟩ := step_jmp ho
      have tt := A.tgt i _ _ _ _ hi
      have t1 : (i : Int) < t ∧ t < p.length := by rcases ht with rfl | rfl <;> omega
      obtain ⟨j, rfl⟩ := Int.eq_ofNat_of_zero_le (show 0 ≤ t by omega)
      exact sim A hh hvw hw m j sls (tk + 1) w _ _ _ _ _ _ _ _ (by omega) (by omega) h3 (by omega) (by omega)
    | go sls' =>
      rw [ho] at tp tq
      obtain ⟨u9, u10, u11, tp⟩ := tp
      obtain ⟨z9, z10, z11, tq⟩ := tq
      rw [tp, tq]
      obtain ⟨g1, g2⟩ := step_go ho
      unfold endF
      rw [A.len]
      rcases A.nxt i ins hi g1 with ⟨n1, n2, n3⟩ | ⟨n1, n2⟩
      · rw [if_neg (by omega), if_neg (by omega)]
        have ih := sim (s := s) (d := d) (k := k) (r := r) (mo := mo) (inn := inn) (pay := pay) (row := row) A hh hvw hw m (i + 1) sls' (tk + 1) w (.v (insD ins)) u9 u10 u11 (.v (insD (relI (fun t => (pos t.toNat : Int)) ins))) z9 z10 z11 (by omega) n1 (by rw [g2, h3]) (by omega) (by omega)
        rw [n2] at ih
        exact ih
      · rw [if_pos (by omega), if_pos (by omega)]
        exact ⟨_, _, rfl, rfl, .inr ⟨_, _, _, rfl, rfl⟩⟩
end
end K
end S_N94l
section S_N94m
set_option linter.all false
set_option maxRecDepth 100000
/-! N94m: the machine's runs. -/
namespace K
open G T
section
variable {α β : Type} {wf n : Nat} {S Z : List Cell} {sl : List Sl} {top : Int} {v a b c : D} {X : Ctx}
theorem run_of {p : List Ins} {vw row : List Int} {s d k r : Int} {mo inn pay : List Int} {dP : D} (hb : ev wf (n + 4) 253 [pkD s d k r mo inn pay] S = .ok (tI row) S)
    (h : whlL (mC wf (n + 3)) (mF wf (n + 3)) wf (mS (.tup (p.map insD)) (pkD s d k r mo inn pay) (tI vw) row (12 + mo.length) [none, none, none, none] 0 0 .nil .nil .nil .nil) S = .ret dP S) :
    ev wf (n + 5) 262 [.tup (p.map insD), pkD s d k r mo inn pay, tI vw] S = .ok dP S := by
  rw [show ev wf (n + 5) 262 [.tup (p.map insD), pkD s d k r mo inn pay, tI vw] S = (evB (cx wf (n + 4)) f_l_machine.body [.v (.tup (p.map insD)), .v (pkD s d k r mo inn pay), .v (tI vw), .nil, .nil, .nil, .nil, .nil, .nil, .nil, .nil, .nil] S).out from rfl, mBody_eq]
  have pre : evB (cx wf (n + 4)) [.set 3 (.cal 253 [(.v 1)]), .set 4 (.bin .add (.k (.int 12)) (.blt .len [(.ix (.v 1) (.k (.int 4)))])), .setO 5 (.lst [(.k .non), (.k .non), (.k .non), (.k .non)]), .set 6 (.k (.int 0)), .set 7 (.k (.int 0))] [.v (.tup (p.map insD)), .v (pkD s d k r mo inn pay), .v (tI vw), .nil, .nil, .nil, .nil, .nil, .nil, .nil, .nil, .nil] S = .nx (mS (.tup (p.map insD)) (pkD s d k r mo inn pay) (tI vw) row (12 + mo.length) [none, none, none, none] 0 0 .nil .nil .nil .nil) S := by
    simp only [pkD] at hb ⊢
    simp [hb, len_tI, mS, oD]
  have cut : ∀ (ts us : List G.T) (sl : List Sl) (S : List Cell), evB (cx wf (n + 4)) (ts ++ us) sl S = (evB (cx wf (n + 4)) ts sl S).nxt fun sl S => evB (cx wf (n + 4)) us sl S := by
    intro ts
    induction ts with
    | nil => intro us sl S; simp
    | cons t ts ih =>
      intro us sl S
      rw [List.cons_append, evB_cons, evB_cons, nxt_nxt]
      congr 1
      funext sl S
      exact ih us sl S
  rw [show ([.set 3 (.cal 253 [(.v 1)]), .set 4 (.bin .add (.k (.int 12)) (.blt .len [(.ix (.v 1) (.k (.int 4)))])), .setO 5 (.lst [(.k .non), (.k .non), (.k .non), (.k .non)]), .set 6 (.k (.int 0)), .set 7 (.k (.int 0)), .whl (.tr (.cmp .lt (.v 7) (.k (.int 201)))) mBody, .ret (.k .non)] : List G.T) = [.set 3 (.cal 253 [(.v 1)]), .set 4 (.bin .add (.k (.int 12)) (.blt .len [(.ix (.v 1) (.k (.int 4)))])), .setO 5 (.lst [(.k .non), (.k .non), (.k .non), (.k .non)]), .set 6 (.k (.int 0)), .set 7 (.k (.int 0))] ++ [.whl (.tr (.cmp .lt (.v 7) (.k (.int 201)))) mBody, .ret (.k .non)] from rfl, cut, pre, nxt_nx, evB_cons, evS_whl]
  rw [show whlL (fun sl S => evT (cx wf (n + 4)) (.tr (.cmp .lt (.v 7) (.k (.int 201)))) sl S) (fun sl S => evB (cx wf (n + 4)) mBody sl S) (cx wf (n + 4)).wf = whlL (mC wf (n + 3)) (mF wf (n + 3)) wf from rfl, h]
  rfl
theorem l_run2 {p q : List Ins} {pos : Nat → Nat} (A : Alike p q pos) (h0 : pos 0 = 0) (hp : 0 < p.length) (hp2 : p.length ≤ 40) {vw : List Int} {s d k r : Int} {mo inn pay : List Int} (B : PkB s d k r mo inn pay) (hvw : vw.length = 11) (hw : 50 ≤ wf) :
    ∃ dP dQ, ev wf (n + 5) 262 [.tup (p.map insD), pkD s d k r mo inn pay, tI vw] S = .ok dP S ∧ ev wf (n + 5) 262 [.tup (q.map insD), pkD s d k r mo inn pay, tI vw] S = .ok dQ S ∧ SameEnd dP dQ := by
  obtain ⟨row, hb, _⟩ := l_bytes (wf := wf) (n := n) (S := S) B hw
  have hl := B.ml
  obtain ⟨dP, dQ, e1, e2, e3⟩ := sim (n := n + 3) (S := S) (s := s) (d := d) (k := k) (r := r) (mo := mo) (inn := inn) (pay := pay) (row := row) A (hd := 12 + mo.length) (by omega) hvw hw p.length 0 [none, none, none, none] 0 wf .nil .nil .nil .nil .nil .nil .nil .nil (by omega) hp rfl (by omega) (by omega)
  rw [h0] at e2
  exact ⟨dP, dQ, run_of hb e1, run_of hb e2, e3⟩
/-! ### is it a program -/
def wB (top x : Int) : Bool := decide (0 ≤ x) && decide (x ≤ top)
theorem n_num {top x : Int} : ev wf (n + 1) 0 [.int x, .int top] S = .ok (.bl (wB top x)) S := by
  rw [show ev wf (n + 1) 0 [.int x, .int top] S = (evB (cx wf n) f_is_number.body [.v (.int x), .v (.int top)] S).out from rfl]
  by_cases h : 0 ≤ x <;> simp [f_is_number, wB, h]
theorem n_lint {x : Int} : ev wf (n + 1) 28 [.int x] S = .ok (.bl true) S := by
  rw [show ev wf (n + 1) 28 [.int x] S = (evB (cx wf n) f_l_is_integer.body [.v (.int x)] S).out from rfl]
  simp [f_l_is_integer]
theorem n_lnum {top x : Int} : ev wf (n + 2) 45 [.int x, .int top] S = .ok (.bl (wB top x)) S := by
  rw [show ev wf (n + 2) 45 [.int x, .int top] S = (evB (cx wf (n + 1)) f_l_is_number.body [.v (.int x), .v (.int top)] S).out from rfl]
  by_cases h : 0 ≤ x <;> simp [f_l_is_number, wB, h, n_lint]
theorem n_dec {d : Dec} (h : insV (.ans d)) : ev wf (n + 2) 12 [decD d] S = .ok (.bl true) S := by
  rw [show ev wf (n + 2) 12 [decD d] S = (evB (cx wf (n + 1)) f_is_decision.body [.v (decD d)] S).out from rfl]
  have i2 : ∀ x y : D, (x = .tup [.str s_accept] ∨ x = .tup [.str s_drop]) → pCmp .isin x (.tup [.tup [.str s_accept], .tup [.str s_drop]]) = some true := by
    rintro x y (rfl | rfl) <;> rfl
  cases d with
  | acc => simp [f_is_decision, decD, i2 (.tup [.str s_accept]) .non (.inl rfl)]
  | drp => simp [f_is_decision, decD, i2 (.tup [.str s_drop]) .non (.inr rfl)]
  | ref r => simp [f_is_decision, decD, n_num, wB, h.1, h.2]
theorem n_ldec {d : Dec} (h : insV (.ans d)) : ev wf (n + 3) 56 [decD d] S = .ok (.bl true) S := by
  rw [show ev wf (n + 3) 56 [decD d] S = (evB (cx wf (n + 2)) f_l_is_decision.body [.v (decD d)] S).out from rfl]
  cases d with
  | acc => simp [f_l_is_decision, decD]
  | drp => simp [f_l_is_decision, decD]
  | ref r => simp [f_l_is_decision, decD, n_lnum, wB, h.1, h.2]
/-- the jumps go on -/
def tgB (at_ many : Int) : Ins → Bool
  | .less _ _ t u => wB (many - 1) t && decide (at_ < t) && (wB (many - 1) u && decide (at_ < u))
  | _ => true
theorem wB_of {top x : Int} (h : 0 ≤ x ∧ x ≤ top) : wB top x = true := by simp [wB, h]
theorem cut3 {α} {a b c : α} {r : List α} : cut (a :: b :: c :: r) (some 3) none = r := by
  have := cut_from (xs := a :: b :: c :: r) (k := 3)
  simpa using this
theorem sl3 {a b c : D} {r : List D} : pSl (.tup (a :: b :: c :: r)) (some 3) none = some (.tup r) := by
  show some (D.tup (cut _ _ _)) = _
  rw [cut3]
theorem n_ins {i : Ins} {at_ many : Int} (h : insV i) : ev wf (n + 3) 243 [insD i, .int at_, .int many] S = .ok (.bl (tgB at_ many i)) S := by
  rw [show ev wf (n + 3) 243 [insD i, .int at_, .int many] S = (evB (cx wf (n + 2)) f_is_instruction.body [.v (insD i), .v (.int at_), .v (.int many), .nil] S).out from rfl]
  have g14 : glob 14 = some (.int 4) := rfl
  have g13 : glob 13 = some (.tup [.str s_interface, .str s_length, .str s_talk, .str s_side]) := rfl
  cases i with
  | ans d => simp [f_is_instruction, insD, n_dec h, tgB]
  | load w s j o =>
    have w1 := wB_of h.1
    have w2 := wB_of h.2
    have e : ev wf (n + 2) 242 [insD (.load w s j o)] S = .ok (.bl true) S := by
      rw [show ev wf (n + 2) 242 [insD (.load w s j o)] S = (evB (cx wf (n + 1)) f_is_load.body [.v (insD (.load w s j o))] S).out from rfl]
      cases j <;> simp [f_is_load, insD, n_num, w2]
    simp only [insD] at e
    cases w <;> simp [f_is_instruction, insD, n_num, g14, w1, tgB] at e ⊢ <;> simp [e]
  | spec s j =>
    have w1 := wB_of h
    cases j <;> simp [f_is_instruction, insD, n_num, g14, g13, w1, tgB, Spn.nm]
  | put s v =>
    have w1 := wB_of h.1
    have w2 := wB_of h.2
    simp [f_is_instruction, insD, n_num, g14, w1, w2, tgB]
  | mask s v =>
    have w1 := wB_of h.1
    have w2 := wB_of h.2
    simp [f_is_instruction, insD, n_num, g14, w1, w2, tgB]
  | less s v t u =>
    have w1 := wB_of h.1
    have w2 := wB_of h.2
    have c := compL_map (S := S) (f := turn (cx wf (n + 2)) (.s 3) (.and [(.cal 0 [(.v 3), (.bin .sub (.v 2) (.k (.int 1)))]), (.cmp .gt (.v 3) (.v 1))]) [] [.v (.tup [.str s_less, .int s, .int v, .int t, .int u]), .v (.int at_), .v (.int many), .nil]) (g := fun d => match d with | .int x => .bl (wB (many - 1) x && decide (at_ < x)) | d => d) (ds := [.int t, .int u]) (acc := []) (by
      intro d hd
      have : ∃ x, d = .int x := by
        simp only [List.mem_cons, List.not_mem_nil, or_false] at hd
        rcases hd with rfl | rfl <;> exact ⟨_, rfl⟩
      obtain ⟨x, rfl⟩ := this
      cases hx : wB (many - 1) x <;> simp [turn, n_num, hx]) (by simp [lim])
    simp at c
    have pa : pB .all [.lst [.bl (wB (many - 1) t && decide (at_ < t)), .bl (wB (many - 1) u && decide (at_ < u))]] = some (.bl (tgB at_ many (.less s v t u))) := by
      have := pB_all (p := fun b : Bool => b) (xs := [wB (many - 1) t && decide (at_ < t), wB (many - 1) u && decide (at_ < u)])
      simp only [List.map_cons, List.map_nil, List.all_cons, List.all_nil, Bool.and_true] at this
      exact this
    simp [f_is_instruction, insD, n_num, g14, w1, w2, sl3, c, pa]
theorem n_lins {i : Ins} {at_ many : Int} (h : insV i) : ev wf (n + 4) 256 [insD i, .int at_, .int many] S = .ok (.bl (tgB at_ many i)) S := by
  rw [show ev wf (n + 4) 256 [insD i, .int at_, .int many] S = (evB (cx wf (n + 3)) f_l_is_instruction.body [.v (insD i), .v (.int at_), .v (.int many), .nil] S).out from rfl]
  cases i with
  | ans d => simp [f_l_is_instruction, insD, n_ldec h, tgB]
  | load w s j o =>
    have w1 := wB_of h.1
    have w2 := wB_of h.2
    cases w <;> cases j <;> simp [f_l_is_instruction, insD, n_lnum, w1, w2, tgB]
  | spec s j =>
    have w1 := wB_of h
    cases j <;> simp [f_l_is_instruction, insD, n_lnum, w1, tgB, Spn.nm]
  | put s v =>
    have w1 := wB_of h.1
    have w2 := wB_of h.2
    simp [f_l_is_instruction, insD, n_lnum, w1, w2, tgB]
  | mask s v =>
    have w1 := wB_of h.1
    have w2 := wB_of h.2
    simp [f_l_is_instruction, insD, n_lnum, w1, w2, tgB]
  | less s v t u =>
    have w1 := wB_of h.1
    have w2 := wB_of h.2
    have c := compL_filter (S := S) (f := turn (cx wf (n + 3)) (.s 3) (.v 3) [(.or [(.not (.tr (.cal 45 [(.v 3), (.bin .sub (.v 2) (.k (.int 1)))]))), (.tr (.cmp .le (.v 3) (.v 1)))])] [.v (.tup [.str s_less, .int s, .int v, .int t, .int u]), .v (.int at_), .v (.int many), .nil]) (g := fun d => d) (p := fun d => match d with | .int x => !(wB (many - 1) x && decide (at_ < x)) | d => false) (ds := [.int t, .int u]) (acc := []) (by
      intro d hd
      have : ∃ x, d = .int x := by
        simp only [List.mem_cons, List.not_mem_nil, or_false] at hd
        rcases hd with rfl | rfl <;> exact ⟨_, rfl⟩
      obtain ⟨x, rfl⟩ := this
      cases hx : wB (many - 1) x <;> by_cases hy : x ≤ at_ <;> simp [turn, n_lnum, hx, hy]) (by simp [lim])
    simp at c
    simp [f_l_is_instruction, insD, n_lnum, w1, w2, sl3, c, tgB]
    cases h1 : wB (many - 1) t <;> cases h2 : wB (many - 1) u <;> by_cases h3 : at_ < t <;> by_cases h4 : at_ < u <;> simp [h1, h2, h3, h4] <;> omega
end
end K
end S_N94m
section S_N94n
set_option linter.all false
set_option maxRecDepth 100000
/-! N94n: programs, two tellings; what is the same. -/
namespace K
open G T
section
variable {α β : Type} {wf n : Nat} {S Z : List Cell} {sl : List Sl} {top : Int} {v a b c : D} {X : Ctx}
@[simp] theorem cmp_ne_bl {i j : Bool} : pCmp .ne (.bl i) (.bl j) = some (!(i == j)) := (rfl)
def insAt (p : List Ins) (k : Nat) : Ins := p.getD k (.put 0 0)
theorem insAt_eq {p : List Ins} {k : Nat} (h : k < p.length) : p[k]? = some (insAt p k) := by
  unfold insAt
  rw [List.getD_eq_getElem?_getD, List.getElem?_eq_getElem h]
  rfl
theorem insAt_mem {p : List Ins} {k : Nat} (h : k < p.length) : insAt p k ∈ p := List.mem_of_getElem? (insAt_eq h)
theorem at_ins {p : List Ins} {k : Nat} (h : k < p.length) : atI (p.map insD) (k : Int) = some (insD (insAt p k)) := by
  rw [atI_nat, List.getElem?_map, insAt_eq h]
  rfl
@[simp] theorem dr_ins {i : Ins} : dr S (insD i) = insD i := by cases i <;> rfl
@[simp] theorem pur_ins {i : Ins} : (insD i).pur = true := insD_pur
def progB (p : List Ins) : Bool := decide (1 ≤ p.length) && (List.range p.length).all fun (k : Nat) => tgB (k : Int) p.length (insAt p k)
theorem rngN {m : Nat} (h : m ≤ 1000) : pRng [.int m] = some ((List.range m).map fun (k : Nat) => .int (k : Int)) := by
  have hr : rngOk (m : Int) = true := by unfold rngOk; simp; omega
  show (if rngOk (m : Int) then some (upto 0 (m : Int).toNat) else none) = _
  rw [if_pos hr, upto_eq, Int.toNat_natCast]
  simp
theorem n_prog {p : List Ins} (h : ∀ i ∈ p, insV i) (hl : p.length ≤ 150) : ev wf (n + 4) 244 [.tup (p.map insD)] S = .ok (.bl (progB p)) S := by
  rw [show ev wf (n + 4) 244 [.tup (p.map insD)] S = (evB (cx wf (n + 3)) f_is_program.body [.v (.tup (p.map insD)), .nil] S).out from rfl]
  have hc : compL (turn (cx wf (n + 3)) (.s 1) (.cal 243 [(.ix (.v 0) (.v 1)), (.v 1), (.blt .len [(.v 0)])]) [] [.v (.tup (p.map insD)), .nil]) ((List.range p.length).map fun (k : Nat) => .int (k : Int)) S [] = .ok ((List.range p.length).map fun (k : Nat) => .bl (tgB (k : Int) p.length (insAt p k))) S := by
    rw [compL_map (g := fun d => match d with | .int k => .bl (tgB k p.length (insAt p k.toNat)) | d => d) (fun d hd => ?_) (by simp [lim]; omega)]
    · simp [Function.comp_def]
    · obtain ⟨k, hk, rfl⟩ := List.mem_map.mp hd
      have hk := List.mem_range.mp hk
      simp [turn, at_ins hk, n_ins (h _ (insAt_mem hk))]
  unfold progB
  by_cases h1 : 1 ≤ p.length
  · have h2 : (p.length : Int) ≤ 200 := by omega
    have h3 : (1 : Int) ≤ p.length := by omega
    simp [f_is_program, h1, h2, h3, rngN (show p.length ≤ 1000 by omega), hc]
  · have h3 : ¬ (1 : Int) ≤ p.length := by omega
    simp [f_is_program, h1, h3]
theorem n_lprog {p : List Ins} (h : ∀ i ∈ p, insV i) (hl : p.length ≤ 150) : ev wf (n + 5) 257 [.tup (p.map insD)] S = .ok (.bl (progB p)) S := by
  rw [show ev wf (n + 5) 257 [.tup (p.map insD)] S = (evB (cx wf (n + 4)) f_l_is_program.body [.v (.tup (p.map insD)), .nil] S).out from rfl]
  have hc : compL (turn (cx wf (n + 4)) (.s 1) (.v 1) [(.not (.tr (.cal 256 [(.ix (.v 0) (.v 1)), (.v 1), (.blt .len [(.v 0)])])))] [.v (.tup (p.map insD)), .nil]) ((List.range p.length).map fun (k : Nat) => .int (k : Int)) S [] = .ok (((List.range p.length).filter fun (k : Nat) => !tgB (k : Int) p.length (insAt p k)).map fun (k : Nat) => .int (k : Int)) S := by
    rw [compL_filter (g := fun d => d) (p := fun d => match d with | .int k => !(tgB k p.length (insAt p k.toNat)) | d => false) (fun d hd => ?_) (by simp [lim]; omega)]
    · simp [List.filter_map, Function.comp_def]
    · obtain ⟨k, hk, rfl⟩ := List.mem_map.mp hd
      have hk := List.mem_range.mp hk
      cases ht : tgB k p.length (insAt p k) <;> simp [turn, at_ins hk, n_lins (h _ (insAt_mem hk)), ht]
  unfold progB
  by_cases h1 : 1 ≤ p.length
  · have h2 : ¬ (200 : Int) < p.length := by omega
    have h3 : ¬ ((p.length : Int) < 1) := by omega
    have e : (List.range p.length).all (fun (k : Nat) => tgB (k : Int) p.length (insAt p k)) = ((((List.range p.length).filter fun (k : Nat) => !tgB (k : Int) p.length (insAt p k)).length : Int) == 0) := by
      rw [Bool.eq_iff_iff]
      rw [List.all_eq_true, beq_iff_eq]
      constructor
      · intro hh
        have : ((List.range p.length).filter fun (k : Nat) => !tgB (k : Int) p.length (insAt p k)) = [] := List.filter_eq_nil_iff.mpr fun k hk => by simp [hh k hk]
        rw [this]
        rfl
      · intro hh k hk
        have : ((List.range p.length).filter fun (k : Nat) => !tgB (k : Int) p.length (insAt p k)) = [] := List.length_eq_zero_iff.mp (by omega)
        have := List.filter_eq_nil_iff.mp this k hk
        simpa using this
    rw [e]
    simp [f_l_is_program, h1, h2, h3, rngN (show p.length ≤ 1000 by omega), hc]
  · have h3 : p.length = 0 := by omega
    simp [f_l_is_program, h1, h3]
theorem n_goes {i : Ins} : ev wf (n + 1) 245 [insD i] S = .ok (.bl (goes i)) S := by
  rw [show ev wf (n + 1) 245 [insD i] S = (evB (cx wf n) f_goes_on.body [.v (insD i)] S).out from rfl]
  cases i with
  | load w s j o => cases w <;> simp [f_goes_on, insD, goes]
  | _ => simp [f_goes_on, insD, goes]
/-! ### the same -/
theorem same_refl : ∀ (N : Nat) (d : D), d.fin = true → D.dep d ≤ N → ev wf (n + N + 1) 27 [d, d] S = .ok (.bl true) S := by
  intro N
  induction N with
  | zero =>
    intro d hf hd
    rw [show ev wf (n + 0 + 1) 27 [d, d] S = (evB (cx wf n) f_l_same.body [.v d, .v d, .nil] S).out from rfl]
    cases d with
    | tup xs => simp at hd
    | lst xs => simp at hd
    | loc _ => cases hf
    | exc _ _ => cases hf
    | _ => simp [f_l_same]
  | succ N ih =>
    intro d hf hd
    rw [show ev wf (n + (N + 1) + 1) 27 [d, d] S = (evB (cx wf (n + N + 1)) f_l_same.body [.v d, .v d, .nil] S).out from rfl]
    have core : ∀ (xs : List D), (∀ x ∈ xs, x.fin = true ∧ x.dep ≤ N) → xs.length ≤ flim → ∀ (t : D), (t = .tup xs ∨ t = .lst xs) → compL (turn (cx wf (n + N + 1)) (.s 2) (.v 2) [(.not (.tr (.cal 27 [(.ix (.v 0) (.v 2)), (.ix (.v 1) (.v 2))])))] [.v t, .v t, .nil]) (upto 0 xs.length) S [] = .ok [] S := by
      intro xs hx hl t ht
      rw [compL_filter (g := fun d => d) (p := fun _ => false) (fun d hd => ?_) (by rw [upto_eq]; simp; unfold flim lim at *; omega)]
      · simp
      · rw [upto_eq] at hd
        obtain ⟨k, hk, rfl⟩ := List.mem_map.mp hd
        have hk := List.mem_range.mp hk
        have i1 : atI xs (k : Int) = some xs[k] := by rw [atI_nat, List.getElem?_eq_getElem hk]
        obtain ⟨g1, g2⟩ := hx _ (List.getElem_mem hk)
        have e := ih xs[k] g1 g2
        rcases ht with rfl | rfl <;> simp [turn, i1, e]
    cases d with
    | tup xs =>
      have hl := fin_tup_lf hf
      have hr : rngOk (xs.length : Int) = true := by unfold rngOk flim at *; simp; omega
      have := core xs (fun x hx => ⟨fin_tup_mem hf hx, by
        rw [dep_tup] at hd
        have : ∀ {ys : List D} {x : D}, x ∈ ys → x.dep ≤ D.depL ys := by
          intro ys
          induction ys with
          | nil => intro x hx; cases hx
          | cons y ys ih =>
            intro x hx
            rw [depL_cons]
            rcases List.mem_cons.mp hx with rfl | hx
            · omega
            · have := ih hx; omega
        have := this hx
        omega⟩) hl (.tup xs) (.inl rfl)
      simp [f_l_same, pRng, hr, this]
    | lst xs =>
      have hf' : (D.tup xs).fin = true := hf
      have hl := fin_tup_lf hf'
      have hr : rngOk (xs.length : Int) = true := by unfold rngOk flim at *; simp; omega
      have := core xs (fun x hx => ⟨fin_tup_mem hf' hx, by
        rw [dep_lst] at hd
        have : ∀ {ys : List D} {x : D}, x ∈ ys → x.dep ≤ D.depL ys := by
          intro ys
          induction ys with
          | nil => intro x hx; cases hx
          | cons y ys ih =>
            intro x hx
            rw [depL_cons]
            rcases List.mem_cons.mp hx with rfl | hx
            · omega
            · have := ih hx; omega
        have := this hx
        omega⟩) hl (.lst xs) (.inr rfl)
      simp [f_l_same, pRng, hr, this]
    | loc _ => cases hf
    | exc _ _ => cases hf
    | _ => simp [f_l_same]
end
end K
end S_N94n
section S_N94o
set_option linter.all false
set_option maxRecDepth 100000
/-! N94o: relinked. -/
namespace K
open G T
section
variable {α β : Type} {wf n : Nat} {S Z : List Cell} {sl : List Sl} {top : Int} {v a b c : D} {X : Ctx}
theorem rngU {m : Nat} (h : m ≤ 1000) : pRng [.int m] = some (upto 0 m) := by
  have hr : rngOk (m : Int) = true := by unfold rngOk; simp; omega
  show (if rngOk (m : Int) then some (upto 0 (m : Int).toNat) else none) = _
  rw [if_pos hr, Int.toNat_natCast]
theorem for_rng {f : D → List Sl → List Cell → Fl} {c : Nat} {x : D} (I : Nat → List Sl → Prop) (ok : Nat → Bool) : ∀ (m k : Nat) (sl : List Sl), I k sl →
    (∀ j sl, k ≤ j → j < k + m → I j sl → if ok j then ∃ sl', f (.int j) sl S = .nx sl' S ∧ I (j + 1) sl' else ∃ sl', f (.int j) sl S = .exc c x sl' S) →
    if (List.range' k m).all ok then ∃ sl', forL f (upto k m) sl S = .nx sl' S ∧ I (k + m) sl' else ∃ sl', forL f (upto k m) sl S = .exc c x sl' S
  | 0, k, sl, hI, _ => by
    simp only [List.range'_zero, List.all_nil, if_true]
    exact ⟨sl, rfl, hI⟩
  | m + 1, k, sl, hI, h => by
    have h1 := h k sl (Nat.le_refl _) (by omega) hI
    rw [List.range'_succ, List.all_cons]
    cases ho : ok k with
    | false =>
      rw [ho] at h1
      simp only [Bool.false_eq_true, if_false] at h1
      obtain ⟨sl', e⟩ := h1
      simp only [Bool.false_and, Bool.false_eq_true, if_false]
      exact ⟨sl', by rw [upto, forL, e]⟩
    | true =>
      rw [ho] at h1
      simp only [if_true] at h1
      obtain ⟨sl', e, hI'⟩ := h1
      have ih := for_rng I ok m (k + 1) sl' hI' fun j sl z1 z2 z3 => h j sl (by omega) (by omega) z3
      rw [Bool.true_and]
      rw [show upto (k : Int) (m + 1) = .int k :: upto ((k + 1 : Nat) : Int) m from rfl, forL, e]
      rw [show k + (m + 1) = k + 1 + m from by omega]
      exact ih
/-! dicts by whole numbers -/
def prs : Nat → List Int → List (Int × D)
  | _, [] => []
  | k, x :: r => (x, .int k) :: prs (k + 1) r
theorem dput_new {acc : List (Int × D)} {k : Int} {y : D} (h : ∀ p ∈ acc, p.1 ≠ k) : dput acc k y = acc ++ [(k, y)] := by
  unfold dput
  rw [if_neg]
  simp only [List.any_eq_true, decide_eq_true_eq, not_exists, not_and]
  exact fun p hp => h p hp
theorem prs_mem : ∀ {r : List Int} {k : Nat} {p : Int × D}, p ∈ prs k r → p.1 ∈ r
  | [], _, _, h => nomatch h
  | x :: r, k, p, h => by
    rcases List.mem_cons.mp h with rfl | h
    · exact List.mem_cons_self
    · exact List.mem_cons_of_mem _ (prs_mem h)
theorem prs_app : ∀ {r r2 : List Int} {k : Nat}, prs k (r ++ r2) = prs k r ++ prs (k + r.length) r2
  | [], r2, k => rfl
  | x :: r, r2, k => by
    rw [List.cons_append, prs, prs, prs_app, List.length_cons]
    rw [show k + 1 + r.length = k + (r.length + 1) from by omega]
    rfl
theorem prs_get : ∀ {r : List Int} {k : Nat} {t : Int}, t ∈ r → dgt (prs k r) t = some (.int ((k + r.idxOf t : Nat) : Int))
  | x :: r, k, t, h => by
    unfold dgt prs
    rw [List.find?_cons]
    by_cases e : x = t
    · subst e
      simp
    · have ht : t ∈ r := by
        rcases List.mem_cons.mp h with z | z
        · exact absurd z.symm e
        · exact z
      have ih := prs_get (k := k + 1) ht
      unfold dgt at ih
      simp only [e, decide_false]
      rw [ih, List.idxOf_cons, show (x == t) = false from by simpa using e]
      simp only [cond_false]
      congr 3
      omega
theorem dcp_prs {f : D → List Cell → Rs (Int × D)} {row : List Int} (nd : row.Nodup) (hl : row.length ≤ 1000) (h : ∀ k : Nat, k < row.length → f (.int k) S = .ok (row.getD k 0, .int k) S) : dcpL f (upto 0 row.length) S [] = .ok (prs 0 row) S := by
  have core : ∀ (suf pre : List Int), row = pre ++ suf → dcpL f (upto (pre.length : Nat) suf.length) S (prs 0 pre) = .ok (prs 0 row) S := by
    intro suf
    induction suf with
    | nil =>
      intro pre e
      rw [List.append_nil] at e
      subst e
      rfl
    | cons x suf ih =>
      intro pre e
      rw [List.length_cons, upto, dcpL]
      have hk : pre.length < row.length := by rw [e]; simp
      have hx : row.getD pre.length 0 = x := by rw [e]; simp
      rw [h _ hk, hx]
      dsimp only
      have hplen : (prs 0 pre).length = pre.length := by
        have : ∀ (r : List Int) (k : Nat), (prs k r).length = r.length := by
          intro r
          induction r with
          | nil => intro k; rfl
          | cons y r ih => intro k; rw [prs, List.length_cons, List.length_cons, ih]
        exact this _ _
      rw [if_pos (by rw [hplen]; unfold lim; omega)]
      rw [dput_new (fun p hp => by
        have m := prs_mem hp
        rintro rfl
        rw [e] at nd
        exact (List.nodup_append.mp nd).2.2 _ m _ List.mem_cons_self rfl)]
      have := ih (pre ++ [x]) (by rw [e]; simp)
      rw [prs_app] at this
      simpa [prs] using this
  exact core row [] rfl
theorem merge_prs {row : List Int} (nd : row.Nodup) : mergeI [] (prs 0 row) = prs 0 row := by
  have core : ∀ (suf pre : List Int), row = pre ++ suf → mergeI (prs 0 pre) (prs pre.length suf) = prs 0 row := by
    intro suf
    induction suf with
    | nil =>
      intro pre e
      rw [List.append_nil] at e
      subst e
      rfl
    | cons x suf ih =>
      intro pre e
      rw [prs]
      unfold mergeI
      rw [List.foldl_cons]
      rw [dput_new (fun p hp => by
        have m := prs_mem hp
        rintro rfl
        rw [e] at nd
        exact (List.nodup_append.mp nd).2.2 _ m _ List.mem_cons_self rfl)]
      have := ih (pre ++ [x]) (by rw [e]; simp)
      rw [prs_app] at this
      unfold mergeI at this
      simpa [prs] using this
  exact core row [] rfl
theorem cell_last {T : List Cell} {kvs : List (Int × D)} {t : Int} : cellDg (S ++ .dki kvs :: T) (.loc S.length) (.int t) = dgt kvs t := by
  unfold cellDg
  simp
/-! what relinking is -/
def permB (many : Nat) (row : List Int) : Bool := decide (row.length = many) && (row.all (fun x => wB ((many : Int) - 1) x) && decide ((ddup row).length = many))
def aft (many : Nat) (row : List Int) (k : Nat) : Int := if k + 1 < many then row.getD (k + 1) 0 else many
def goodK (p : List Ins) (row : List Int) (k : Nat) : Bool := !(goes (insAt p (row.getD k 0).toNat) && !(aft p.length row k == row.getD k 0 + 1))
def posI (row : List Int) (t : Int) : Int := (row.idxOf t : Nat)
def made (p : List Ins) (row : List Int) : List Ins := row.map fun x => relI (posI row) (insAt p x.toNat)
def goodP (p : List Ins) (row : List Int) : Bool := (List.range' 0 p.length).all (goodK p row)
def relP (p : List Ins) (row : List Int) : Option (List Ins) := if permB p.length row && goodP p row && progB (made p row) then some (made p row) else none
/-- a program that may be drawn -/
structure Prog (p : List Ins) : Prop where
  val : ∀ i ∈ p, insV i
  one : 1 ≤ p.length
  len : p.length ≤ 12
  tgt : ∀ (i : Nat) s v t u, p[i]? = some (.less s v t u) → (i : Int) < t ∧ t < p.length ∧ (i : Int) < u ∧ u < p.length
theorem perm_nd {many : Nat} {row : List Int} (h : permB many row = true) : row.length = many ∧ (∀ x ∈ row, 0 ≤ x ∧ x ≤ (many : Int) - 1) ∧ row.Nodup := by
  unfold permB at h
  simp only [Bool.and_eq_true, decide_eq_true_eq, List.all_eq_true] at h
  obtain ⟨h1, h2, h3⟩ := h
  refine ⟨h1, fun x hx => ?_, ?_⟩
  · have := h2 x hx
    simpa [wB] using this
  · have core : ∀ r : List Int, (ddup r).length = r.length → r.Nodup := by
      intro r
      induction r with
      | nil => intro _; exact List.nodup_nil
      | cons x r ih =>
        intro e
        rw [ddup_cons] at e
        by_cases hx : x ∈ r
        · rw [if_pos hx] at e
          have := ddup_le r
          rw [List.length_cons] at e
          omega
        · rw [if_neg hx] at e
          simp only [List.length_cons] at e
          exact List.nodup_cons.mpr ⟨hx, ih (by omega)⟩
    exact core row (by omega)
theorem nd_len : ∀ (m : Nat) (l : List Int), l.Nodup → (∀ x ∈ l, 0 ≤ x ∧ x < m) → l.length ≤ m
  | 0, [], _, _ => Nat.le_refl _
  | 0, x :: l, _, h => by
    have := h x List.mem_cons_self
    omega
  | m + 1, l, nd, h => by
    have ih := nd_len m (l.erase (m : Int)) (nd.erase _) fun x hx => by
      have h1 := h x (List.mem_of_mem_erase hx)
      have h2 := (nd.mem_erase_iff.mp hx).1
      omega
    rw [List.length_erase] at ih
    split at ih <;> omega
theorem perm_all {many : Nat} {row : List Int} (h : permB many row = true) : ∀ t : Int, 0 ≤ t → t < many → t ∈ row := by
  obtain ⟨h1, h2, h3⟩ := perm_nd h
  intro t t0 t1
  refine Decidable.byContradiction fun hn => ?_
  have := nd_len many (t :: row) (List.nodup_cons.mpr ⟨hn, h3⟩) fun x hx => by
    rcases List.mem_cons.mp hx with rfl | hx
    · exact ⟨t0, t1⟩
    · have := h2 x hx
      omega
  rw [List.length_cons] at this
  omega
theorem n_len {ns : List Int} (h : ns.length ≤ 900) : pB .lenset [tI ns] = some (.int ((ddup ns).length : Nat)) := by
  have := asInts_map (fun x : Int => x) ns
  simp only [List.map_id'] at this
  show (if (ns.map D.int).length ≤ setLim then (asInts (ns.map .int)).map _ else none) = _
  rw [if_pos (by rw [List.length_map]; unfold setLim; omega), this]
  rfl
theorem relI_pos {p : List Ins} {row : List Int} {k : Nat} (h : k < row.length) : (made p row)[k]? = some (relI (posI row) (insAt p (row.getD k 0).toNat)) := by
  unfold made
  rw [List.getElem?_map, List.getElem?_eq_getElem h, List.getD_eq_getElem?_getD, List.getElem?_eq_getElem h]
  rfl
/-- the loop's slots -/
def relS (p : List Ins) (row : List Int) (S : List Cell) (k : Nat) (sl : List Sl) : Prop := ∃ x5 x6 x7 x8, sl = [.v (.tup (p.map insD)), .v (tI row), .v (.int p.length), .v (.loc S.length), .own (((made p row).take k).map insD), x5, x6, x7, x8]
def relBody : List G.T := [.set 6 (.ix (.v 1) (.v 5)), .set 7 (.ix (.v 0) (.v 6)), .set 8 (.ite (.tr (.cmp .lt (.bin .add (.v 5) (.k (.int 1))) (.v 2))) (.ix (.v 1) (.bin .add (.v 5) (.k (.int 1)))) (.v 2)), .ife (.and [(.tr (.cal 245 [(.v 7)])), (.tr (.cmp .ne (.v 8) (.bin .add (.v 6) (.k (.int 1)))))]) [.rse 0 (.v 1)] [], .ife (.tr (.cmp .eq (.ix (.v 7) (.k (.int 0))) (.k (.str s_less)))) [.set 7 (.bin .add (.sl (.v 7) none (some (.k (.int 3)))) (.tup [(.dgx (.v 3) (.ix (.v 7) (.k (.int 3)))), (.dgx (.v 3) (.ix (.v 7) (.k (.int 4))))]))] [], .app (.b 4) (.v 7)]
theorem take_made {p : List Ins} {row : List Int} {k : Nat} (h : k < row.length) : ((made p row).take (k + 1)).map insD = ((made p row).take k).map insD ++ [insD (relI (posI row) (insAt p (row.getD k 0).toNat))] := by
  rw [List.take_add_one, relI_pos h, List.map_append]
  rfl
theorem cutTo3 {α} {a b c : α} {r : List α} : cut (a :: b :: c :: r) none (some 3) = [a, b, c] := by
  have := cut_to (xs := a :: b :: c :: r) (k := 3)
  simpa using this
theorem slTo3 {a b c : D} {r : List D} : pSl (.tup (a :: b :: c :: r)) none (some 3) = some (.tup [a, b, c]) := by
  show some (D.tup (cut _ _ _)) = _
  rw [cutTo3]
theorem add5 {a b c d e : D} : pBin .add (.tup [a, b, c]) (.tup [d, e]) = some (.tup [a, b, c, d, e]) := add_tup (by simp [lim])
/-- the instruction, told anew -/
theorem rel_ins {p : List Ins} {row : List Int} {k : Nat} (P : Prog p) (h : permB p.length row = true) (hk : k < p.length) {C : Cx} {sl : List Sl} {T : List Cell} (h3 : sl[3]? = some (.v (.loc S.length))) (h7 : sl[7]? = some (.v (insD (insAt p k)))) (hl : sl.length = 9) :
    evS C (.ife (.tr (.cmp .eq (.ix (.v 7) (.k (.int 0))) (.k (.str s_less)))) [.set 7 (.bin .add (.sl (.v 7) none (some (.k (.int 3)))) (.tup [(.dgx (.v 3) (.ix (.v 7) (.k (.int 3)))), (.dgx (.v 3) (.ix (.v 7) (.k (.int 4))))]))] []) sl (S ++ .dki (prs 0 row) :: T) = .nx (sl.set 7 (.v (insD (relI (posI row) (insAt p k))))) (S ++ .dki (prs 0 row) :: T) := by
  have same : ∀ i : Ins, insAt p k = i → relI (posI row) i = i → sl.set 7 (.v (insD (relI (posI row) i))) = sl := by
    intro i e e'
    rw [e']
    have h7' := h7
    rw [e] at h7'
    apply List.ext_getElem?
    intro j
    rw [List.getElem?_set]
    split
    · rename_i e7
      subst e7
      rw [if_pos (by omega), h7']
    · rfl
  cases hi : insAt p k with
  | less s v t u =>
    have tg := P.tgt k s v t u (by rw [insAt_eq hk, hi])
    have g1 := prs_get (k := 0) (perm_all h t (by omega) (by omega))
    have g2 := prs_get (k := 0) (perm_all h u (by omega) (by omega))
    rw [hi] at h7
    simp [h3, h7, insD, slTo3, cell_last, g1, g2, add5, relI, posI]
  | ans d => rw [same _ hi rfl]; rw [hi] at h7; simp [h7, insD]
  | load w s j o => rw [same _ hi rfl]; rw [hi] at h7; cases w <;> simp [h7, insD]
  | spec s j => rw [same _ hi rfl]; rw [hi] at h7; simp [h7, insD]
  | put s v => rw [same _ hi rfl]; rw [hi] at h7; simp [h7, insD]
  | mask s v => rw [same _ hi rfl]; rw [hi] at h7; simp [h7, insD]
theorem row_at {row : List Int} {k : Nat} (h : k < row.length) : atI (row.map D.int) (k : Int) = some (.int (row.getD k 0)) := tI_at h
theorem getD_mem {row : List Int} {k : Nat} (h : k < row.length) : row.getD k 0 ∈ row := by
  rw [List.getD_eq_getElem?_getD, List.getElem?_eq_getElem h]
  exact List.getElem_mem h
theorem rel_turn {p : List Ins} {row : List Int} {k : Nat} {T : List Cell} (P : Prog p) (h : permB p.length row = true) (hk : k < p.length) {sl : List Sl} (hI : relS p row S k sl) :
    if goodK p row k then ∃ sl', turnS (cx wf (n + 1)) (.s 5) relBody (.int k) sl (S ++ .dki (prs 0 row) :: T) = .nx sl' (S ++ .dki (prs 0 row) :: T) ∧ relS p row S (k + 1) sl' else ∃ sl', turnS (cx wf (n + 1)) (.s 5) relBody (.int k) sl (S ++ .dki (prs 0 row) :: T) = .exc 0 (tI row) sl' (S ++ .dki (prs 0 row) :: T) := by
  obtain ⟨x5, x6, x7, x8, rfl⟩ := hI
  obtain ⟨r1, r2, r3⟩ := perm_nd h
  have hkr : k < row.length := by omega
  have m1 := r2 _ (getD_mem hkr)
  have ra := row_at hkr
  have tm := take_made (p := p) hkr
  unfold goodK
  generalize hy : row.getD k 0 = y at m1 ra tm
  obtain ⟨j, rfl⟩ := Int.eq_ofNat_of_zero_le m1.1
  have hj : j < p.length := by omega
  rw [Int.toNat_natCast] at tm ⊢
  have ai := at_ins hj
  -- the first four
  have e1 : evB (cx wf (n + 1)) (relBody.take 4) [.v (.tup (p.map insD)), .v (tI row), .v (.int p.length), .v (.loc S.length), .own (((made p row).take k).map insD), .v (.int k), x6, x7, x8] (S ++ .dki (prs 0 row) :: T) =
      if (goes (insAt p j) && !(aft p.length row k == (j : Int) + 1)) then .exc 0 (tI row) [.v (.tup (p.map insD)), .v (tI row), .v (.int p.length), .v (.loc S.length), .own (((made p row).take k).map insD), .v (.int k), .v (.int j), .v (insD (insAt p j)), .v (.int (aft p.length row k))] (S ++ .dki (prs 0 row) :: T)
      else .nx [.v (.tup (p.map insD)), .v (tI row), .v (.int p.length), .v (.loc S.length), .own (((made p row).take k).map insD), .v (.int k), .v (.int j), .v (insD (insAt p j)), .v (.int (aft p.length row k))] (S ++ .dki (prs 0 row) :: T) := by
    unfold aft
    by_cases hn : k + 1 < p.length
    · have hn' : (k : Int) + 1 < p.length := by omega
      have rb := row_at (row := row) (k := k + 1) (by omega)
      simp only [Int.natCast_add, Int.cast_ofNat_Int] at rb
      rw [if_pos hn]
      cases hg : goes (insAt p j)
      · simp [relBody, ix_tI, ra, ai, hn', rb, n_goes, hg]
      · simp [relBody, ix_tI, ra, ai, hn', rb, n_goes, hg]
    · have hn' : ¬ (k : Int) + 1 < p.length := by omega
      rw [if_neg hn]
      cases hg : goes (insAt p j)
      · simp [relBody, ix_tI, ra, ai, hn', n_goes, hg]
      · simp [relBody, ix_tI, ra, ai, hn', n_goes, hg]
  have e2 : turnS (cx wf (n + 1)) (.s 5) relBody (.int k) [.v (.tup (p.map insD)), .v (tI row), .v (.int p.length), .v (.loc S.length), .own (((made p row).take k).map insD), x5, x6, x7, x8] (S ++ .dki (prs 0 row) :: T) = (evB (cx wf (n + 1)) (relBody.take 4) [.v (.tup (p.map insD)), .v (tI row), .v (.int p.length), .v (.loc S.length), .own (((made p row).take k).map insD), .v (.int k), x6, x7, x8] (S ++ .dki (prs 0 row) :: T)).nxt fun sl S => (evS (cx wf (n + 1)) (.ife (.tr (.cmp .eq (.ix (.v 7) (.k (.int 0))) (.k (.str s_less)))) [.set 7 (.bin .add (.sl (.v 7) none (some (.k (.int 3)))) (.tup [(.dgx (.v 3) (.ix (.v 7) (.k (.int 3)))), (.dgx (.v 3) (.ix (.v 7) (.k (.int 4))))]))] []) sl S).nxt fun sl S => evB (cx wf (n + 1)) [.app (.b 4) (.v 7)] sl S := by
    unfold turnS
    rw [tgSet_s]
    dsimp only [List.set]
    rw [show relBody = relBody.take 4 ++ relBody.drop 4 from rfl]
    have cut : ∀ (ts us : List G.T) (sl : List Sl) (S : List Cell), evB (cx wf (n + 1)) (ts ++ us) sl S = (evB (cx wf (n + 1)) ts sl S).nxt fun sl S => evB (cx wf (n + 1)) us sl S := by
      intro ts
      induction ts with
      | nil => intro us sl S; simp
      | cons t ts ih =>
        intro us sl S
        rw [List.cons_append, evB_cons, evB_cons, nxt_nxt]
        congr 1
        funext sl S
        exact ih us sl S
    rw [cut]
    congr 1
    funext sl S
    rw [show relBody.drop 4 = [(.ife (.tr (.cmp .eq (.ix (.v 7) (.k (.int 0))) (.k (.str s_less)))) [.set 7 (.bin .add (.sl (.v 7) none (some (.k (.int 3)))) (.tup [(.dgx (.v 3) (.ix (.v 7) (.k (.int 3)))), (.dgx (.v 3) (.ix (.v 7) (.k (.int 4))))]))] []), .app (.b 4) (.v 7)] from rfl, evB_cons]
  rw [e2, e1]
  cases hg : (goes (insAt p j) && !(aft p.length row k == (j : Int) + 1)) with
  | true =>
    simp only [if_true, Bool.not_true, Bool.false_eq_true, if_false, nxt_exc]
    exact ⟨_, rfl⟩
  | false =>
    simp only [Bool.false_eq_true, if_false, Bool.not_false, if_true, nxt_nx]
    rw [rel_ins P h hj rfl rfl rfl, nxt_nx]
    refine ⟨_, ?_, .v (.int k), .v (.int j), .v (insD (relI (posI row) (insAt p j))), .v (.int (aft p.length row k)), by rw [tm]⟩
    have ll : ((made p row).take k).length < lim := by
      have := List.length_take_le k (made p row)
      have := P.len
      have : lim = 16777216 := rfl
      omega
    have ll2 := ll
    rw [List.length_take] at ll2
    simp [lstAt, chg, ll2]
end
end K
end S_N94o
section S_N94p
set_option linter.all false
set_option maxRecDepth 100000
/-! N94p: relinked, whole. -/
namespace K
open G T
section
variable {α β : Type} {wf n : Nat} {S Z : List Cell} {sl : List Sl} {top : Int} {v a b c : D} {X : Ctx}
theorem cutB {C : Cx} : ∀ (ts us : List G.T) (sl : List Sl) (S : List Cell), evB C (ts ++ us) sl S = (evB C ts sl S).nxt fun sl S => evB C us sl S := by
  intro ts
  induction ts with
  | nil => intro us sl S; simp
  | cons t ts ih =>
    intro us sl S
    rw [List.cons_append, evB_cons, evB_cons, nxt_nxt]
    congr 1
    funext sl S
    exact ih us sl S
theorem made_len {p : List Ins} {row : List Int} : (made p row).length = row.length := by
  unfold made
  rw [List.length_map]
theorem made_val {p : List Ins} {row : List Int} (P : Prog p) (h : permB p.length row = true) : ∀ i ∈ made p row, insV i := by
  intro i hi
  unfold made at hi
  obtain ⟨x, hx, rfl⟩ := List.mem_map.mp hi
  have := (perm_nd h).2.1 x hx
  exact relV.mpr (P.val _ (insAt_mem (by omega)))
theorem rel_one {p : List Ins} {row : List Int} (hl : row.length ≤ 300) (hp : p.length ≤ 12) :
    evB (cx wf (n + 5)) (f_relinked.body.take 2) [.v (.tup (p.map insD)), .v (tI row), .nil, .nil, .nil, .nil, .nil, .nil, .nil] S = if permB p.length row then .nx [.v (.tup (p.map insD)), .v (tI row), .v (.int p.length), .nil, .nil, .nil, .nil, .nil, .nil] S else .exc 0 (tI row) [.v (.tup (p.map insD)), .v (tI row), .v (.int p.length), .nil, .nil, .nil, .nil, .nil, .nil] S := by
  have hc : compL (turn (cx wf (n + 5)) (.s 6) (.cal 0 [(.v 6), (.bin .sub (.v 2) (.k (.int 1)))]) [] [.v (.tup (p.map insD)), .v (tI row), .v (.int p.length), .nil, .nil, .nil, .nil, .nil, .nil]) (row.map .int) S [] = .ok (row.map fun x => .bl (wB ((p.length : Int) - 1) x)) S := by
    rw [compL_map (g := fun d => match d with | .int x => .bl (wB ((p.length : Int) - 1) x) | d => d) (fun d hd => ?_) (by simp [lim]; omega)]
    · simp [Function.comp_def]
    · obtain ⟨x, hx, rfl⟩ := List.mem_map.mp hd
      simp [turn, n_num]
  have it : items (tI row) = some (row.map .int) := (rfl)
  unfold permB
  by_cases h1 : row.length = p.length
  · have h1' : (row.length : Int) = p.length := by omega
    cases h2 : row.all fun x => wB ((p.length : Int) - 1) x
    · simp [f_relinked, len_tI, h1, h1', it, hc, h2]
    · by_cases h3 : (ddup row).length = p.length
      · have h3' : ((ddup row).length : Int) = p.length := by omega
        simp [f_relinked, len_tI, h1, h1', it, hc, h2, n_len (show row.length ≤ 900 by omega), h3, h3']
      · have h3' : ¬ ((ddup row).length : Int) = p.length := by omega
        simp [f_relinked, len_tI, h1, h1', it, hc, h2, n_len (show row.length ≤ 900 by omega), h3, h3']
  · have h1' : ¬ (row.length : Int) = p.length := by omega
    simp [f_relinked, len_tI, h1, h1']
theorem l_rel {p : List Ins} {row : List Int} (P : Prog p) (hl : row.length ≤ 300) : match relP p row with
    | some q => ∃ T, ev wf (n + 6) 246 [.tup (p.map insD), tI row] S = .ok (.tup (q.map insD)) (S ++ T)
    | none => ∃ T, ev wf (n + 6) 246 [.tup (p.map insD), tI row] S = .exc 0 (tI row) (S ++ T) := by
  have hb : ev wf (n + 6) 246 [.tup (p.map insD), tI row] S = (evB (cx wf (n + 5)) (f_relinked.body.take 2 ++ (.set 3 (.dcp (.s 5) (.rng [(.v 2)]) (.ix (.v 1) (.v 5)) (.v 5)) :: .setO 4 (.lst []) :: .for_ (.s 5) (.rng [(.v 2)]) relBody :: f_relinked.body.drop 5)) [.v (.tup (p.map insD)), .v (tI row), .nil, .nil, .nil, .nil, .nil, .nil, .nil] S).out := rfl
  rw [hb, cutB, rel_one hl P.len]
  unfold relP
  cases hp : permB p.length row with
  | false => exact ⟨[], by simp⟩
  | true =>
    obtain ⟨r1, r2, r3⟩ := perm_nd hp
    rw [if_pos rfl, nxt_nx, evB_cons]
    have pl := P.len
    have d1 := dcp_prs (S := S) (row := row) (f := turnD (cx wf (n + 5)) (.s 5) (.ix (.v 1) (.v 5)) (.v 5) [.v (.tup (p.map insD)), .v (tI row), .v (.int p.length), .nil, .nil, .nil, .nil, .nil, .nil]) r3 (by omega) (fun k hk => by
      simp [turnD, ix_tI, row_at hk])
    rw [r1] at d1
    have e3 : evS (cx wf (n + 5)) (.set 3 (.dcp (.s 5) (.rng [(.v 2)]) (.ix (.v 1) (.v 5)) (.v 5))) [.v (.tup (p.map insD)), .v (tI row), .v (.int p.length), .nil, .nil, .nil, .nil, .nil, .nil] S = .nx [.v (.tup (p.map insD)), .v (tI row), .v (.int p.length), .v (.loc S.length), .nil, .nil, .nil, .nil, .nil] (S ++ [.dki (prs 0 row)]) := by
      simp [rngU (show p.length ≤ 1000 by omega), d1]
    have e4 : evS (cx wf (n + 5)) (.setO 4 (.lst [])) [.v (.tup (p.map insD)), .v (tI row), .v (.int p.length), .v (.loc S.length), .nil, .nil, .nil, .nil, .nil] (S ++ [.dki (prs 0 row)]) = .nx [.v (.tup (p.map insD)), .v (tI row), .v (.int p.length), .v (.loc S.length), .own [], .nil, .nil, .nil, .nil] (S ++ [.dki (prs 0 row)]) := by
      simp
    rw [e3, nxt_nx, evB_cons, e4, nxt_nx, evB_cons]
    have e5 : evS (cx wf (n + 5)) (.for_ (.s 5) (.rng [(.v 2)]) relBody) [.v (.tup (p.map insD)), .v (tI row), .v (.int p.length), .v (.loc S.length), .own [], .nil, .nil, .nil, .nil] (S ++ [.dki (prs 0 row)]) = forL (turnS (cx wf (n + 5)) (.s 5) relBody) (upto ((0 : Nat) : Int) p.length) [.v (.tup (p.map insD)), .v (tI row), .v (.int p.length), .v (.loc S.length), .own [], .nil, .nil, .nil, .nil] (S ++ [.dki (prs 0 row)]) := by
      rw [evS_for]
      simp [rngU (show p.length ≤ 1000 by omega)]
    rw [e5]
    have lp := for_rng (S := S ++ [.dki (prs 0 row)]) (f := turnS (cx wf (n + 5)) (.s 5) relBody) (c := 0) (x := tI row) (relS p row S) (goodK p row) p.length 0 [.v (.tup (p.map insD)), .v (tI row), .v (.int p.length), .v (.loc S.length), .own [], .nil, .nil, .nil, .nil] ⟨.nil, .nil, .nil, .nil, by simp⟩ (fun j sl z1 z2 z3 => rel_turn P hp (by omega) z3)
    cases hg : goodP p row with
    | false =>
      unfold goodP at hg
      rw [hg] at lp
      simp only [Bool.false_eq_true, if_false] at lp
      obtain ⟨sl', e⟩ := lp
      rw [e]
      exact ⟨[.dki (prs 0 row)], by simp⟩
    | true =>
      unfold goodP at hg
      rw [hg] at lp
      simp only [if_true] at lp
      obtain ⟨sl', e, x5, x6, x7, x8, rfl⟩ := lp
      rw [e, nxt_nx]
      have tk : (made p row).take (0 + p.length) = made p row := List.take_of_length_le (by rw [made_len]; omega)
      rw [tk]
      have np := n_prog (wf := wf) (n := n + 1) (S := S ++ [.dki (prs 0 row)]) (made_val P hp) (by rw [made_len]; omega)
      cases hq : progB (made p row) with
      | false =>
        rw [hq] at np
        exact ⟨[.dki (prs 0 row)], by simp [f_relinked, np]⟩
      | true =>
        rw [hq] at np
        exact ⟨[.dki (prs 0 row)], by simp [f_relinked, np]⟩
theorem l_told {p : List Ins} {row : List Int} (P : Prog p) (hl : row.length ≤ 300) : ∃ T, ev wf (n + 7) 264 [.tup (p.map insD), tI row] S = .ok (match relP p row with | some q => .tup [.str s_told, .tup (q.map insD)] | none => .str s_order) (S ++ T) := by
  rw [show ev wf (n + 7) 264 [.tup (p.map insD), tI row] S = (evB (cx wf (n + 6)) f_l_relinked.body [.v (.tup (p.map insD)), .v (tI row), .nil] S).out from rfl]
  have lr := l_rel (wf := wf) (n := n) (S := S) P hl
  cases hr : relP p row with
  | some q =>
    rw [hr] at lr
    obtain ⟨T, e⟩ := lr
    exact ⟨T, by simp [f_l_relinked, e]⟩
  | none =>
    rw [hr] at lr
    obtain ⟨T, e⟩ := lr
    exact ⟨T, by simp [f_l_relinked, e, evH]⟩
end
end K
end S_N94p
section S_N94q
set_option linter.all false
set_option maxRecDepth 100000
/-! N94q: drawn instructions, programs. -/
namespace K
open G T
section
variable {α β : Type} {wf n : Nat} {S Z : List Cell} {sl : List Sl} {top : Int} {v a b c : D} {X : Ctx}
/-- an int between -/
def iB (lo hi : Int) (x : D) : Prop := ∃ r, x = .int r ∧ lo ≤ r ∧ r ≤ hi
theorem d_dec (h : PoolOk Z S) : Gd Z (ev wf (n + 3) 50 [.loc 0] S) fun x => ∃ d, x = decD d ∧ insV (.ans d) := by
  rw [show ev wf (n + 3) 50 [.loc 0] S = (evB (cx wf (n + 2)) f_l_decision.body [.v (.loc 0)] S).out from rfl]
  apply gf_out
  simp [f_l_decision]
  refine gf_fl (d_draw h (by decide) (by decide)) fun x S h ⟨r, e, r0, r1⟩ => ?_
  subst e
  simp
  refine gf_fl (d_draw h (by decide) (by decide)) fun x S h ⟨q, e, q0, q1⟩ => ?_
  subst e
  simp
  refine gf_fl (gd_at (P := fun x => ∃ d, x = decD d ∧ insV (.ans d)) h q0 (by simpa using q1) ?_) fun x S h hx => gf_ret h hx
  intro x hm
  simp only [List.mem_cons, List.not_mem_nil, or_false] at hm
  rcases hm with rfl | rfl | rfl | rfl
  · exact ⟨.acc, rfl, trivial⟩
  · exact ⟨.acc, rfl, trivial⟩
  · exact ⟨.drp, rfl, trivial⟩
  · exact ⟨.ref r, rfl, r0, by omega⟩
/-- an instruction for the place -/
def insP (at_ many : Int) (x : D) : Prop := ∃ i, x = insD i ∧ insV i ∧ ∀ s v t u, i = .less s v t u → at_ < t ∧ t < many ∧ at_ < u ∧ u < many
theorem gf_ife_f {C : Cx} {c : B} {a r : List G.T} {I R} (h : evT C c sl S = .ok false S) (k : GF Z (evB C r sl S) I R) : GF Z (evB C (.ife c a [] :: r) sl S) I R := by
  rw [evB_cons, evS_ife, h, fl_ok]
  simpa using k
theorem gf_ife_t {C : Cx} {c : B} {a r : List G.T} {I R} (h : evT C c sl S = .ok true S) (k : GF Z (evB C a sl S) (fun _ => False) R) : GF Z (evB C (.ife c a [] :: r) sl S) I R := by
  rw [evB_cons, evS_ife, h, fl_ok]
  rw [if_pos rfl]
  rcases k with ⟨_, _, _, _, z⟩ | ⟨d, S', e, h1, h2⟩
  · exact z.elim
  · rw [e]
    exact gf_ret h1 h2
theorem gf_rets {C : Cx} {e : E} {R : D → Prop} {I} {r : List G.T} (h : Gd Z (evE C e sl S) R) : GF Z (evB C (.ret e :: r) sl S) I R := by
  obtain ⟨x, S', e', h1, h2⟩ := h
  rw [evB_cons, evS_ret, e', fl_ok]
  exact gf_ret h1 h2
theorem gf_sets {C : Cx} {e : E} {i : Nat} {R : D → Prop} {Q : D → Prop} {I} {r : List G.T} (h : Gd Z (evE C e sl S) Q) (k : ∀ x S, PoolOk Z S → Q x → GF Z (evB C r (sl.set i (.v x)) S) I R) : GF Z (evB C (.set i e :: r) sl S) I R := by
  obtain ⟨x, S', e', h1, h2⟩ := h
  rw [evB_cons, evS_set, e', fl_ok, nxt_nx]
  exact k x S' h1 h2
theorem d_ins {at_ many : Int} (h : PoolOk Z S) (h0 : 0 ≤ at_) (h1 : at_ < many) (h2 : many ≤ 1000) : Gd Z (ev wf (n + 4) 258 [.loc 0, .int at_, .int many] S) (insP at_ many) := by
  rw [show ev wf (n + 4) 258 [.loc 0, .int at_, .int many] S = (evB (cx wf (n + 3)) f_l_instruction.body [.v (.loc 0), .v (.int at_), .v (.int many), .nil, .nil, .nil] S).out from rfl]
  apply gf_out
  simp only [f_l_instruction]
  refine gf_sets (Q := iB 0 3) ?_ fun x S h ⟨s, e, s0, s1⟩ => ?_
  · simp
    refine gd_bind (d_draw h (by decide) (by decide)) fun x S h ⟨r, e, r0, r1⟩ => ?_
    subst e
    simp
    refine gd_at (P := iB 0 3) h r0 (by simpa using r1) ?_
    intro x hm
    simp only [List.mem_cons, List.not_mem_nil, or_false] at hm
    rcases hm with rfl | rfl | rfl | rfl | rfl | rfl <;> exact ⟨_, rfl, by decide, by decide⟩
  subst e
  refine gf_sets (Q := iB 0 7) ?_ fun x S h ⟨t, e, t0, t1⟩ => ?_
  · simp
    exact gd_mono (d_draw h (by decide) (by decide)) fun x ⟨r, e, r0, r1⟩ => ⟨r, e, r0, by omega⟩
  subst e
  have so : sOk s := ⟨s0, s1⟩
  dsimp only [List.set]
  by_cases hA : t = 0 ∨ at_ = many - 1
  · refine gf_ife_t ?_ (gf_rets ?_)
    · by_cases z : t = 0
      · simp [z]
      · have z2 := hA.resolve_left z
        simp [z, z2]
    · simp
      refine gd_bind (d_dec h) fun x S h ⟨d, e, hd⟩ => ?_
      subst e
      simp [decD_pur]
      exact gd_ok h ⟨.ans d, rfl, hd, fun _ _ _ _ z => nomatch z⟩
  simp only [not_or] at hA
  obtain ⟨hA1, hA2⟩ := hA
  refine gf_ife_f (by simp [hA1, hA2]) ?_
  by_cases e1 : t = 1
  · refine gf_ife_t (by simp [e1]) (gf_rets ?_)
    simp
    refine gd_bind (d_draw h (by decide) (by decide)) fun x S h ⟨r, e, r0, r1⟩ => ?_
    subst e
    simp
    refine gd_bind (gd_at (P := fun x => ∃ w : Bool, x = .str (if w then s_inner else s_outer)) h r0 (by simpa using r1) ?_) fun x S h ⟨w, e⟩ => ?_
    · intro x hm
      simp only [List.mem_cons, List.not_mem_nil, or_false] at hm
      rcases hm with rfl | rfl
      · exact ⟨false, rfl⟩
      · exact ⟨true, rfl⟩
    subst e
    simp
    refine gd_bind (d_draw h (by decide) (by decide)) fun x S h ⟨u, e, u0, u1⟩ => ?_
    subst e
    simp
    refine gd_bind (d_draw h (by decide) (by decide)) fun x S h ⟨v, e, v0, v1⟩ => ?_
    subst e
    simp
    refine gd_bind (d_draw h (by decide) (by decide)) fun x S h ⟨q, e, q0, q1⟩ => ?_
    subst e
    simp
    refine gd_bind (gd_at (P := iB 0 1500) h q0 (by simpa using q1) ?_) fun x S h ⟨o, e, o0, o1⟩ => ?_
    · intro x hm
      simp only [List.mem_cons, List.not_mem_nil, or_false] at hm
      rcases hm with rfl | rfl | rfl | rfl | rfl | rfl | rfl | rfl | rfl | rfl | rfl <;> exact ⟨_, rfl, by omega, by omega⟩
    subst e
    simp
    exact gd_ok h ⟨.load false s w o, rfl, ⟨so, o0, o1⟩, fun _ _ _ _ z => nomatch z⟩
  refine gf_ife_f (by simp [e1]) ?_
  by_cases e2 : t = 2
  · refine gf_ife_t (by simp [e2]) (gf_rets ?_)
    simp
    refine gd_bind (d_draw h (by decide) (by decide)) fun x S h ⟨r, e, r0, r1⟩ => ?_
    subst e
    simp
    refine gd_bind (gd_at (P := fun x => ∃ w : Bool, x = .str (if w then s_inner else s_outer)) h r0 (by simpa using r1) ?_) fun x S h ⟨w, e⟩ => ?_
    · intro x hm
      simp only [List.mem_cons, List.not_mem_nil, or_false] at hm
      rcases hm with rfl | rfl
      · exact ⟨false, rfl⟩
      · exact ⟨true, rfl⟩
    subst e
    simp
    refine gd_bind (d_draw h (by decide) (by decide)) fun x S h ⟨u, e, u0, u1⟩ => ?_
    subst e
    simp
    refine gd_bind (d_draw h (by decide) (by decide)) fun x S h ⟨q, e, q0, q1⟩ => ?_
    subst e
    simp
    refine gd_bind (gd_at (P := iB 0 1500) h q0 (by simpa using q1) ?_) fun x S h ⟨o, e, o0, o1⟩ => ?_
    · intro x hm
      simp only [List.mem_cons, List.not_mem_nil, or_false] at hm
      rcases hm with rfl | rfl | rfl | rfl | rfl <;> exact ⟨_, rfl, by omega, by omega⟩
    subst e
    simp
    exact gd_ok h ⟨.load true s w o, rfl, ⟨so, o0, o1⟩, fun _ _ _ _ z => nomatch z⟩
  refine gf_ife_f (by simp [e2]) ?_
  by_cases e3 : t = 3
  · refine gf_ife_t (by simp [e3]) (gf_rets ?_)
    simp
    refine gd_bind (d_draw h (by decide) (by decide)) fun x S h ⟨q, e, q0, q1⟩ => ?_
    subst e
    simp
    refine gd_bind (gd_at (P := fun x => ∃ j : Spn, x = .str j.nm) h q0 (by simpa using q1) ?_) fun x S h ⟨j, e⟩ => ?_
    · intro x hm
      simp only [List.mem_cons, List.not_mem_nil, or_false] at hm
      rcases hm with rfl | rfl | rfl | rfl
      · exact ⟨.itf, rfl⟩
      · exact ⟨.len, rfl⟩
      · exact ⟨.talk, rfl⟩
      · exact ⟨.side, rfl⟩
    subst e
    simp
    exact gd_ok h ⟨.spec s j, rfl, so, fun _ _ _ _ z => nomatch z⟩
  refine gf_ife_f (by simp [e3]) ?_
  by_cases e4 : t = 4
  · refine gf_ife_t (by simp [e4]) (gf_rets ?_)
    simp
    refine gd_bind (d_draw h (by decide) (by decide)) fun x S h ⟨r, e, r0, r1⟩ => ?_
    subst e
    simp
    refine gd_bind (d_draw h (by decide) (by decide)) fun x S h ⟨u, e, u0, u1⟩ => ?_
    subst e
    simp
    refine gd_bind (gd_at (P := iB 0 65535) h u0 (by simpa using u1) ?_) fun x S h ⟨o, e, o0, o1⟩ => ?_
    · intro x hm
      simp only [List.mem_cons, List.not_mem_nil, or_false] at hm
      rcases hm with rfl | rfl | rfl | rfl | rfl <;> exact ⟨_, rfl, by decide, by decide⟩
    subst e
    simp
    refine gd_bind (d_draw h (by decide) (by decide)) fun x S h ⟨q, e, q0, q1⟩ => ?_
    subst e
    simp
    refine gd_at h q0 (by simpa using q1) ?_
    intro x hm
    simp only [List.mem_cons, List.not_mem_nil, or_false] at hm
    rcases hm with rfl | rfl
    · exact ⟨.put s r, rfl, ⟨so, r0, by omega⟩, fun _ _ _ _ z => nomatch z⟩
    · exact ⟨.mask s o, rfl, ⟨so, o0, o1⟩, fun _ _ _ _ z => nomatch z⟩
  refine gf_ife_f (by simp [e4]) ?_
  refine gf_sets (Q := iB 0 65535) ?_ fun x S h ⟨v, e, v0, v1⟩ => ?_
  · simp
    refine gd_bind (d_draw h (by decide) (by decide)) fun x S h ⟨r, e, r0, r1⟩ => ?_
    subst e
    simp
    refine gd_bind (d_draw h (by decide) (by decide)) fun x S h ⟨q, e, q0, q1⟩ => ?_
    subst e
    simp
    refine gd_at (P := iB 0 65535) h q0 (by simpa using q1) ?_
    intro x hm
    simp only [List.mem_cons, List.not_mem_nil, or_false] at hm
    rcases hm with rfl | rfl | rfl | rfl | rfl | rfl | rfl | rfl <;> exact ⟨_, rfl, by omega, by omega⟩
  subst e
  dsimp only [List.set]
  refine gf_rets ?_
  simp
  refine gd_bind (d_draw h (by omega) (by omega)) fun x S h ⟨r, e, r0, r1⟩ => ?_
  subst e
  simp
  refine gd_bind (d_draw h (by omega) (by omega)) fun x S h ⟨q, e, q0, q1⟩ => ?_
  subst e
  simp
  refine gd_ok h ⟨.less s v (at_ + 1 + r) (at_ + 1 + q), rfl, ⟨so, v0, v1⟩, ?_⟩
  intro _ _ _ _ z
  cases z
  omega
end
end K
end S_N94q
section S_N94r
set_option linter.all false
set_option maxRecDepth 100000
/-! N94r: drawn programs. -/
namespace K
open G T
section
variable {α β : Type} {wf n : Nat} {S Z : List Cell} {sl : List Sl} {top : Int} {v a b c : D} {X : Ctx}
theorem cut_m1 {α} {xs : List α} : cut xs none (some (-1)) = xs.dropLast := by
  unfold cut sIx
  dsimp only
  rw [if_pos (by decide), List.drop_zero, Nat.sub_zero, List.dropLast_eq_take]
  congr 1
  omega
def pgI (many : Nat) (k : Nat) (sl : List Sl) : Prop := ∃ (p : List Ins) (x4 : Sl), sl = [.v (.loc 0), .v (.int 10), .v (.int many), .own (p.map insD), x4] ∧ p.length = k ∧ (∀ i ∈ p, insV i) ∧ ∀ (i : Nat) s v t u, p[i]? = some (.less s v t u) → (i : Int) < t ∧ t < many ∧ (i : Int) < u ∧ u < many
theorem pgI_add {many k : Nat} {p : List Ins} {i : Ins} {x4 : Sl} (h1 : p.length = k) (h2 : ∀ i ∈ p, insV i) (h3 : ∀ (i : Nat) s v t u, p[i]? = some (.less s v t u) → (i : Int) < t ∧ t < many ∧ (i : Int) < u ∧ u < many) (hv : insV i) (ht : ∀ s v t u, i = .less s v t u → (k : Int) < t ∧ t < many ∧ (k : Int) < u ∧ u < many) : pgI many (k + 1) [.v (.loc 0), .v (.int 10), .v (.int many), .own (p.map insD ++ [insD i]), x4] := by
  refine ⟨p ++ [i], x4, by simp, by simp [h1], fun j hj => ?_, fun j s v t u e => ?_⟩
  · rcases List.mem_append.mp hj with hj | hj
    · exact h2 j hj
    · rw [List.mem_singleton.mp hj]
      exact hv
  · by_cases hj : j < p.length
    · rw [List.getElem?_append_left hj] at e
      exact h3 j s v t u e
    · rw [List.getElem?_append_right (by omega)] at e
      have : j - p.length = 0 := by
        have := (List.getElem?_eq_some_iff.mp e).1
        simp at this
        omega
      rw [this] at e
      simp at e
      have hjk : j = k := by omega
      rw [hjk]
      exact ht s v t u e
theorem d_prog (h : PoolOk Z S) : Gd Z (ev wf (n + 6) 259 [.loc 0, .int 10] S) fun x => ∃ p, x = .tup (p.map insD) ∧ Prog p := by
  rw [show ev wf (n + 6) 259 [.loc 0, .int 10] S = (evB (cx wf (n + 5)) f_l_program.body [.v (.loc 0), .v (.int 10), .nil, .nil, .nil] S).out from rfl]
  apply gf_out
  simp only [f_l_program]
  refine gf_sets (Q := iB 1 10) ?_ fun x S h ⟨m, e, m0, m1⟩ => ?_
  · simp
    refine gd_bind (d_draw h (by decide) (by decide)) fun x S h ⟨r, e, r0, r1⟩ => ?_
    subst e
    simp
    exact gd_ok h ⟨_, rfl, by omega, by omega⟩
  subst e
  obtain ⟨many, rfl⟩ := Int.eq_ofNat_of_zero_le (show 0 ≤ m by omega)
  have hm : many ≤ 10 := by omega
  dsimp only [List.set]
  rw [evB_cons, evS_setO]
  simp only [evE_lst, evL_nil, bind_ok, List.all_nil, if_true, fl_ok, flO_lst, nxt_nx, List.set]
  rw [evB_cons, evS_for]
  have er : evI (cx wf (n + 5)) (.rng [.v 2]) [.v (.loc 0), .v (.int 10), .v (.int (many : Int)), .own [], .nil] S = .ok (upto 0 many) S := by
    simp [rngU (show many ≤ 1000 by omega)]
  rw [er, fl_ok]
  refine gf_nxt (gf_for (pgI many) _ 0 _ S h ⟨[], .nil, rfl, rfl, fun _ z => (nomatch z), fun i _ _ _ _ z => by simp at z⟩ ?_) ?_
  · rintro k d sl S hd h ⟨p, x4, rfl, p1, p2, p3⟩
    rw [Nat.zero_add] at p1 ⊢
    have hk : k < many ∧ d = .int k := by
      rw [upto_eq, List.getElem?_map] at hd
      obtain ⟨j, hj, rfl⟩ := Option.map_eq_some_iff.mp hd
      obtain ⟨j1, j2⟩ := List.getElem?_eq_some_iff.mp hj
      simp at j1 j2
      subst j2
      exact ⟨j1, by simp⟩
    obtain ⟨hk, rfl⟩ := hk
    have hlim : p.length < lim := by unfold lim; omega
    unfold turnS
    rw [tgSet_s]
    dsimp only [List.set]
    have app : ∀ (e : E) (S : List Cell), PoolOk Z S → Gd Z (evE (cx wf (n + 5)) e [.v (.loc 0), .v (.int 10), .v (.int (many : Int)), .own (p.map insD), .v (.int (k : Int))] S) (fun x => ∃ i, x = insD i ∧ insV i ∧ ∀ s v t u, i = .less s v t u → (k : Int) < t ∧ t < many ∧ (k : Int) < u ∧ u < many) →
        GF Z (evB (cx wf (n + 5)) [.app (.b 3) e] [.v (.loc 0), .v (.int 10), .v (.int (many : Int)), .own (p.map insD), .v (.int (k : Int))] S) (pgI many (k + 1)) fun x => ∃ p, x = .tup (p.map insD) ∧ Prog p := by
      intro e S h ⟨x, S', e1, h1, i, e2, hv, ht⟩
      subst e2
      have ev : evB (cx wf (n + 5)) [.app (.b 3) e] [.v (.loc 0), .v (.int 10), .v (.int (many : Int)), .own (p.map insD), .v (.int (k : Int))] S = .nx [.v (.loc 0), .v (.int 10), .v (.int (many : Int)), .own (p.map insD ++ [insD i]), .v (.int (k : Int))] S' := by
        rw [evB_cons, evS_app]
        simp only [lstAt, List.getElem?_cons_succ, List.getElem?_cons_zero, if_true, e1, fl_ok, pur_ins]
        simp [chg, hlim]
      rw [ev]
      exact gf_nx h1 (pgI_add p1 p2 p3 hv ht)
    rw [evB_cons, evS_ife]
    by_cases hb : k < 2 ∧ 3 < many
    · have ec : evT (cx wf (n + 5)) (.and [(.tr (.cmp .lt (.v 4) (.k (.int 2)))), (.tr (.cmp .gt (.v 2) (.k (.int 3))))]) [.v (.loc 0), .v (.int 10), .v (.int (many : Int)), .own (p.map insD), .v (.int (k : Int))] S = .ok true S := by
        have b1 : (k : Int) < 2 := by omega
        have b2 : (3 : Int) < many := by omega
        simp [b1, b2]
      rw [ec, fl_ok, if_pos rfl]
      refine gf_nxt (app _ S h ?_) fun sl S h hI => gf_nx h hI
      simp
      refine gd_bind (d_draw h (by decide) (by decide)) fun x S h ⟨q, e, q0, q1⟩ => ?_
      subst e
      simp
      refine gd_at h q0 (by simpa using q1) ?_
      intro x hm
      have so : sOk (k : Int) := ⟨by omega, by omega⟩
      simp only [List.mem_cons, List.not_mem_nil, or_false] at hm
      rcases hm with rfl | rfl | rfl | rfl
      · exact ⟨.spec k .talk, rfl, so, fun _ _ _ _ z => nomatch z⟩
      · exact ⟨.load false k false 1, rfl, ⟨so, by decide, by decide⟩, fun _ _ _ _ z => nomatch z⟩
      · exact ⟨.load true k false 8, rfl, ⟨so, by decide, by decide⟩, fun _ _ _ _ z => nomatch z⟩
      · exact ⟨.spec k .itf, rfl, so, fun _ _ _ _ z => nomatch z⟩
    · have ec : evT (cx wf (n + 5)) (.and [(.tr (.cmp .lt (.v 4) (.k (.int 2)))), (.tr (.cmp .gt (.v 2) (.k (.int 3))))]) [.v (.loc 0), .v (.int 10), .v (.int (many : Int)), .own (p.map insD), .v (.int (k : Int))] S = .ok false S := by
        by_cases b1 : (k : Int) < 2
        · have b2 : ¬ (3 : Int) < many := by omega
          simp [b1, b2]
        · simp [b1]
      rw [ec, fl_ok, if_neg (by decide)]
      refine gf_nxt (app _ S h ?_) fun sl S h hI => gf_nx h hI
      simp
      exact d_ins (n := n + 1) h (by omega) (by omega) (by omega)
  · rintro sl S h ⟨p, x4, rfl, p1, p2, p3⟩
    have hl : p.length = many := by
      rw [p1, upto_eq]
      simp
    have P : Prog p := ⟨p2, by omega, by omega, fun i s v t u e => by rw [hl]; exact p3 i s v t u e⟩
    have fin : ∀ (q : List Ins) (S : List Cell), PoolOk Z S → Prog q → GF Z (evB (cx wf (n + 5)) [.ret (.blt .tuple [.b 3])] [.v (.loc 0), .v (.int 10), .v (.int (many : Int)), .own (q.map insD), x4] S) (fun _ => ∃ p, D.non = .tup (p.map insD) ∧ Prog p) fun x => ∃ p, x = .tup (p.map insD) ∧ Prog p := by
      intro q S h Q
      refine gf_rets ?_
      simp
      exact gd_ok h ⟨q, rfl, Q⟩
    rw [evB_cons, evS_ife]
    have cond : (∃ S', evT (cx wf (n + 5)) (.and [(.tr (.cmp .gt (.v 2) (.k (.int 1)))), (.tr (.cmp .eq (.cal 31 [(.v 0), (.k (.int 6))]) (.k (.int 0)))), (.tr (.cal 257 [(.blt .tuple [(.sl (.b 3) none (some (.neg (.k (.int 1)))))])]))]) [.v (.loc 0), .v (.int 10), .v (.int (many : Int)), .own (p.map insD), x4] S = .ok false S' ∧ PoolOk Z S') ∨
        (∃ S', evT (cx wf (n + 5)) (.and [(.tr (.cmp .gt (.v 2) (.k (.int 1)))), (.tr (.cmp .eq (.cal 31 [(.v 0), (.k (.int 6))]) (.k (.int 0)))), (.tr (.cal 257 [(.blt .tuple [(.sl (.b 3) none (some (.neg (.k (.int 1)))))])]))]) [.v (.loc 0), .v (.int 10), .v (.int (many : Int)), .own (p.map insD), x4] S = .ok true S' ∧ PoolOk Z S' ∧ 1 < many ∧ progB p.dropLast = true) := by
      by_cases b1 : 1 < many
      · have b1' : (1 : Int) < many := by omega
        obtain ⟨x, S', e1, hS, r, e2, r0, r1⟩ := d_draw (wf := wf) (n := n + 3) (m := 6) h (by decide) (by decide)
        subst e2
        by_cases hr : r = 0
        · have np := n_lprog (wf := wf) (n := n) (S := S') (p := p.dropLast) (fun i hi => p2 i ((List.dropLast_sublist p).subset hi)) (by rw [List.length_dropLast]; omega)
          have ps : pSl (.lst (p.map insD)) none (some (-1)) = some (.lst (p.dropLast.map insD)) := by
            show some (D.lst (cut _ _ _)) = _
            rw [cut_m1, List.map_dropLast]
          cases hq : progB p.dropLast with
          | true =>
            rw [hq, List.map_dropLast] at np
            refine .inr ⟨S', ?_, hS, b1, rfl⟩
            simp [b1', e1, hr, ps, np]
          | false =>
            rw [hq, List.map_dropLast] at np
            refine .inl ⟨S', ?_, hS⟩
            simp [b1', e1, hr, ps, np]
        · refine .inl ⟨S', ?_, hS⟩
          simp [b1', e1, hr]
      · have b1' : ¬ (1 : Int) < many := by omega
        exact .inl ⟨S, by simp [b1'], h⟩
    rcases cond with ⟨S', e, hS⟩ | ⟨S', e, hS, c1, c2⟩
    · rw [e, fl_ok, if_neg (by decide), evB_nil, nxt_nx]
      exact fin p S' hS P
    · rw [e, fl_ok, if_pos rfl]
      have ps : pSl (.lst (p.map insD)) none (some (-1)) = some (.lst (p.dropLast.map insD)) := by
        show some (D.lst (cut _ _ _)) = _
        rw [cut_m1, List.map_dropLast]
      have e2 : evB (cx wf (n + 5)) [.setO 3 (.sl (.b 3) none (some (.neg (.k (.int 1)))))] [.v (.loc 0), .v (.int 10), .v (.int (many : Int)), .own (p.map insD), x4] S' = .nx [.v (.loc 0), .v (.int 10), .v (.int (many : Int)), .own (p.dropLast.map insD), x4] S' := by
        simp [ps]
      rw [e2, nxt_nx]
      refine fin _ S' hS ⟨fun i hi => p2 i ((List.dropLast_sublist p).subset hi), by rw [List.length_dropLast]; omega, by rw [List.length_dropLast]; omega, fun i s v t u e => ?_⟩
      have hi := (List.getElem?_eq_some_iff.mp e).1
      unfold progB at c2
      rw [Bool.and_eq_true, List.all_eq_true] at c2
      have z := c2.2 i (List.mem_range.mpr hi)
      have := insAt_eq hi
      rw [e] at this
      have this := Option.some.inj this
      rw [← this] at z
      simp [tgB, wB] at z
      have hd : p.dropLast.length = p.length - 1 := List.length_dropLast
      omega
end
end K
end S_N94r
section S_N94t
set_option linter.all false
set_option maxRecDepth 100000
/-! N94t: drawn worlds, sights, packets seen. -/
namespace K
open G T
section
variable {α β : Type} {wf n : Nat} {S Z : List Cell} {sl : List Sl} {top : Int} {v a b c : D} {X : Ctx}
theorem d_number {top : Int} (h : PoolOk Z S) (h0 : 0 ≤ top) (h1 : top ≤ 65535) : Gd Z (ev wf (n + 3) 223 [.loc 0, .int top] S) (iB 0 65535) := by
  rw [show ev wf (n + 3) 223 [.loc 0, .int top] S = (evB (cx wf (n + 2)) f_l_number.body [.v (.loc 0), .v (.int top), .nil] S).out from rfl]
  apply gf_out
  simp only [f_l_number]
  refine gf_sets (Q := iB 0 3) ?_ fun x S h ⟨t, e, t0, t1⟩ => ?_
  · simp
    exact gd_mono (d_draw h (by decide) (by decide)) fun x ⟨r, e, r0, r1⟩ => ⟨r, e, r0, by omega⟩
  subst e
  dsimp only [List.set]
  by_cases e0 : t = 0
  · refine gf_ife_t (by simp [e0]) (gf_rets ?_)
    simp
    exact gd_mono (d_draw h (by omega) (by omega)) fun x ⟨r, e, r0, r1⟩ => ⟨r, e, r0, by omega⟩
  refine gf_ife_f (by simp [e0]) ?_
  by_cases e1 : t = 1
  · refine gf_ife_t (by simp [e1]) (gf_rets ?_)
    simp
    refine gd_bind (d_draw h (by decide) (by decide)) fun x S h ⟨r, e, r0, r1⟩ => ?_
    subst e
    simp
    refine gd_ok h ⟨_, rfl, ?_, ?_⟩ <;> split <;> omega
  refine gf_ife_f (by simp [e1]) ?_
  by_cases e2 : t = 2
  · refine gf_ife_t (by simp [e2]) (gf_rets ?_)
    simp
    refine gd_bind (d_draw h (by decide) (by decide)) fun x S h ⟨r, e, r0, r1⟩ => ?_
    subst e
    simp
    refine gd_ok h ⟨_, rfl, ?_, ?_⟩ <;> split <;> omega
  refine gf_ife_f (by simp [e2]) (gf_rets ?_)
  simp
  refine gd_bind (d_draw h (by decide) (by decide)) fun x S h ⟨r, e, r0, r1⟩ => ?_
  subst e
  simp [mul_small (i := 256) (Or.inl (by decide))]
  refine gd_ok h ⟨_, rfl, ?_, ?_⟩ <;> split <;> omega
/-- a world: three addresses, two ports -/
def wrld (x : D) : Prop := ∃ a b c p q : Int, x = .tup [tI [a, b, c], tI [p, q]] ∧ Nb 65535 [a, b, c] ∧ Nb 65535 [p, q]
def wI (f : Int) (m : Nat) (sl : List Sl) : Prop := ∃ (ns : List Int) (x3 : Sl), sl = [.v (.loc 0), .v (.int f), .own (ns.map .int), x3] ∧ Nb 65535 ns ∧ 1 ≤ ns.length ∧ ns.length + m = 3
/-- the address next free -/
theorem free_loop {f : Int} {ns : List Int} (hn : Nb 65535 ns) (hl : ns.length ≤ 2) (hw : 50 ≤ wf) (x : Int) (hx : 0 ≤ x ∧ x ≤ 65535) :
    ∃ y, whlL (fun sl S => evT (cx wf (n + 4)) (.tr (.cmp .isin (.v 3) (.b 2))) sl S) (fun sl S => evB (cx wf (n + 4)) [.set 3 (.bin .mod (.blt .int [(.bin .add (.v 3) (.k (.int 1)))]) (.k (.int 65536)))] sl S) wf [.v (.loc 0), .v (.int f), .own (ns.map .int), .v (.int x)] S = .nx [.v (.loc 0), .v (.int f), .own (ns.map .int), .v (.int y)] S ∧ 0 ≤ y ∧ y ≤ 65535 := by
  have inn : ∀ y : Int, evT (cx wf (n + 4)) (.tr (.cmp .isin (.v 3) (.b 2))) [.v (.loc 0), .v (.int f), .own (ns.map .int), .v (.int y)] S = .ok (ns.contains y) S := by
    intro y
    have e : pCmp .isin (.int y) (.lst (ns.map .int)) = some (ns.contains y) := by
      rw [cmp_in_lst rfl (by simp)]
      congr 1
      induction ns with
      | nil => rfl
      | cons z zs ih =>
        have e : (z == y) = decide (y = z) := by
          by_cases hz : y = z
          · subst hz; simp
          · simp [hz, Ne.symm hz]
        have ih := ih (fun a ha => hn a (List.mem_cons_of_mem _ ha)) (by simp at hl; omega)
        simp [e]
        simp at ih
        simp [ih]
    simp [-List.contains_eq_mem, e]
  have body : ∀ y : Int, evB (cx wf (n + 4)) [.set 3 (.bin .mod (.blt .int [(.bin .add (.v 3) (.k (.int 1)))]) (.k (.int 65536)))] [.v (.loc 0), .v (.int f), .own (ns.map .int), .v (.int y)] S = .nx [.v (.loc 0), .v (.int f), .own (ns.map .int), .v (.int ((y + 1) % 65536))] S := by
    intro y
    simp [mod_pos (j := 65536) (by decide)]
  -- two others at most
  have stop : ∃ k : Nat, k ≤ 2 ∧ ns.contains ((x + k) % 65536) = false ∧ ∀ j : Nat, j < k → ns.contains ((x + j) % 65536) = true := by
    cases h0 : ns.contains ((x + (0 : Nat)) % 65536) with
    | false => exact ⟨0, by omega, h0, fun j hj => by omega⟩
    | true =>
      cases h1 : ns.contains ((x + (1 : Nat)) % 65536) with
      | false =>
        refine ⟨1, by omega, h1, fun j hj => ?_⟩
        have : j = 0 := by omega
        subst this
        exact h0
      | true =>
        refine ⟨2, by omega, ?_, fun j hj => ?_⟩
        · cases h2 : ns.contains ((x + (2 : Nat)) % 65536) with
          | false => rfl
          | true =>
            exfalso
            simp only [List.contains_iff_mem] at h0 h1 h2
            have := nd_len 3 [((0 : Nat) : Int)] (by simp) (by simp)
            match ns, hl with
            | [], _ => simp at h0
            | [a], _ =>
              simp at h0 h1
              omega
            | [a, b], _ =>
              simp at h0 h1 h2
              omega
        · have : j = 0 ∨ j = 1 := by omega
          rcases this with rfl | rfl
          · exact h0
          · exact h1
  obtain ⟨k, k2, kf, kt⟩ := stop
  obtain ⟨sl', e, y, rfl, y0, y1⟩ := ex_whl (S := S) (c := fun sl S => evT (cx wf (n + 4)) (.tr (.cmp .isin (.v 3) (.b 2))) sl S) (f := fun sl S => evB (cx wf (n + 4)) [.set 3 (.bin .mod (.blt .int [(.bin .add (.v 3) (.k (.int 1)))]) (.k (.int 65536)))] sl S)
    (J := fun sl => ∃ y : Int, sl = [.v (.loc 0), .v (.int f), .own (ns.map .int), .v (.int y)] ∧ 0 ≤ y ∧ y ≤ 65535) (fun m sl => m ≤ k ∧ sl = [.v (.loc 0), .v (.int f), .own (ns.map .int), .v (.int ((x + ((k - m : Nat) : Int)) % 65536))]) (fun m sl ⟨hm, e⟩ => by
      subst e
      by_cases h0 : m = 0
      · subst h0
        left
        refine ⟨?_, _, rfl, by omega, by omega⟩
        rw [inn, Nat.sub_zero, kf]
      · right
        refine ⟨by rw [inn, kt _ (by omega)], _, m - 1, by rw [body], by omega, by omega, ?_⟩
        have : ((x + ((k - m : Nat) : Int)) % 65536 + 1) % 65536 = (x + ((k - (m - 1) : Nat) : Int)) % 65536 := by omega
        rw [this]) wf k [.v (.loc 0), .v (.int f), .own (ns.map .int), .v (.int x)] (by omega) ⟨Nat.le_refl _, by
        have : (x + ((k - k : Nat) : Int)) % 65536 = x := by omega
        rw [this]⟩
  exact ⟨y, e, y0, y1⟩
end
end K
end S_N94t
section S_N94u
set_option linter.all false
set_option maxRecDepth 100000
/-! N94u: drawn worlds; what is seen. -/
namespace K
open G T
section
variable {α β : Type} {wf n : Nat} {S Z : List Cell} {sl : List Sl} {top : Int} {v a b c : D} {X : Ctx}
theorem d_world (h : PoolOk Z S) (hw : 50 ≤ wf) : Gd Z (ev wf (n + 5) 226 [.loc 0] S) wrld := by
  rw [show ev wf (n + 5) 226 [.loc 0] S = (evB (cx wf (n + 4)) f_l_world.body [.v (.loc 0), .nil, .nil, .nil] S).out from rfl]
  apply gf_out
  simp only [f_l_world]
  refine gf_sets (Q := iB 0 65535) ?_ fun x S h ⟨f, e, f0, f1⟩ => ?_
  · simp
    exact d_number (n := n + 1) h (by decide) (by decide)
  subst e
  dsimp only [List.set]
  rw [evB_cons, evS_setO]
  simp only [evE_lst, evL_cons, evL_nil, evE_v, List.getElem?_cons_succ, List.getElem?_cons_zero, slV_v, bind_ok, List.all_cons, List.all_nil, pur_int, Bool.and_true, if_true, fl_ok, flO_lst, nxt_nx, List.set]
  rw [evB_cons, evS_whl]
  refine gf_nxt (gf_whl (J := fun sl => ∃ (ns : List Int) (x3 : Sl), sl = [.v (.loc 0), .v (.int f), .own (ns.map .int), x3] ∧ Nb 65535 ns ∧ ns.length = 3) (wI f) ?_ wf 2 _ S (by omega) h ⟨[f], .nil, rfl, nb_cons ⟨f0, f1⟩ nb_nil, by simp, rfl⟩) ?_
  · rintro m sl S h ⟨ns, x3, rfl, n1, n2, n3⟩
    cases m with
    | zero =>
      left
      refine ⟨?_, ns, x3, rfl, n1, by omega⟩
      have : ¬ (ns.length : Int) < 3 := by omega
      simp [this]
    | succ m =>
      right
      have hl : (ns.length : Int) < 3 := by omega
      refine ⟨by simp [hl], ?_⟩
      refine gf_sets (Q := iB (-10) 70000) ?_ fun x S h ⟨y, e, y0, y1⟩ => ?_
      · simp
        refine gd_bind (d_number (n := n + 1) h (by decide) (by decide)) fun x S h ⟨r, e, r0, r1⟩ => ?_
        subst e
        simp
        refine gd_bind (d_draw h (by decide) (by decide)) fun x S h ⟨q, e, q0, q1⟩ => ?_
        subst e
        simp
        refine gd_at h q0 (by simpa using q1) ?_
        intro x hm
        simp only [List.mem_cons, List.not_mem_nil, or_false] at hm
        rcases hm with rfl | rfl <;> exact ⟨_, rfl, by omega, by omega⟩
      subst e
      refine gf_sets (Q := iB 0 65535) ?_ fun x S h ⟨y, e, y0, y1⟩ => ?_
      · simp [mod_pos (j := 65536) (by decide)]
        exact gd_ok h ⟨_, rfl, by omega, by omega⟩
      subst e
      dsimp only [List.set]
      obtain ⟨z, e, z0, z1⟩ := free_loop (wf := wf) (n := n) (S := S) (f := f) n1 (by omega) hw y ⟨y0, y1⟩
      rw [evB_cons, evS_whl]
      rw [show (cx wf (n + 4)).wf = wf from rfl, e, nxt_nx]
      have hlim : ns.length < lim := by unfold lim; omega
      have e2 : evB (cx wf (n + 4)) [.app (.b 2) (.v 3)] [.v (.loc 0), .v (.int f), .own (ns.map .int), .v (.int z)] S = .nx [.v (.loc 0), .v (.int f), .own ((ns ++ [z]).map .int), .v (.int z)] S := by
        simp [lstAt, chg, hlim]
      rw [e2]
      exact gf_nx h ⟨m, Nat.lt_succ_self _, ns ++ [z], _, rfl, nb_app n1 (nb_cons ⟨z0, z1⟩ nb_nil), by simp, by simp; omega⟩
  · rintro sl S h ⟨ns, x3, rfl, n1, n2⟩
    obtain ⟨x, y, z, rfl⟩ := three n2
    refine gf_rets ?_
    simp
    refine gd_bind (d_number (n := n + 1) h (by decide) (by decide)) fun p S h ⟨p, e, p0, p1⟩ => ?_
    subst e
    simp
    refine gd_bind (d_number (n := n + 1) h (by decide) (by decide)) fun p S h ⟨q, e, q0, q1⟩ => ?_
    subst e
    simp
    exact gd_ok h ⟨x, y, z, p, q, rfl, n1, nb_cons ⟨p0, p1⟩ (nb_cons ⟨q0, q1⟩ nb_nil)⟩
theorem d_rowI {m : Int} (h : PoolOk Z S) (h0 : 0 ≤ m) (h1 : m ≤ 400) : Gd Z (ev wf (n + 3) 44 [.loc 0, .int m] S) fun x => ∃ ns, x = tI ns ∧ Nb 255 ns ∧ (ns.length : Int) = m := by
  rw [show ev wf (n + 3) 44 [.loc 0, .int m] S = (evB (cx wf (n + 2)) f_l_row.body [.v (.loc 0), .v (.int m), .nil] S).out from rfl]
  apply gf_out
  have hr : rngOk m = true := by
    unfold rngOk
    simp
    omega
  simp [f_l_row, pRng, hr]
  have hl : (upto 0 m.toNat).length = m.toNat := by simp [upto_eq]
  refine gf_fl (gd_compE (P := iB 0 255) h ?_ (by simp) (by rw [hl]; simp [lim]; omega)) fun ys S h ⟨q1, q2⟩ => ?_
  · intro d hd S h
    simp [turn]
    refine gd_bind (d_draw h (by decide) (by decide)) fun x S h ⟨r, e, r0, r1⟩ => ?_
    subst e
    simp
    refine gd_bind (d_draw h (by decide) (by decide)) fun x S h ⟨q, e, q0, q1⟩ => ?_
    subst e
    simp
    refine gd_bind (gd_at (P := iB 0 255) h q0 (by simpa using q1) ?_) fun x S h ⟨y, e, y0, y1⟩ => ?_
    · intro x hm
      simp only [List.mem_cons, List.not_mem_nil, or_false] at hm
      rcases hm with rfl | rfl | rfl | rfl <;> exact ⟨_, rfl, by omega, by omega⟩
    subst e
    simp
    exact gd_ok h ⟨_, rfl, y, rfl, y0, y1⟩
  · obtain ⟨ns, rfl, hn⟩ := ints_of (B := 255) q1
    refine gf_ret h ⟨ns, rfl, hn, ?_⟩
    rw [hl, List.length_map] at q2
    simp at q2
    omega
/-! what is seen -/
theorem l_sender {xs : List Int} (h : xs.length = 9) : ∃ r, ev wf (n + 1) 96 [tI xs] S = .ok (.int r) S := by
  rw [show ev wf (n + 1) 96 [tI xs] S = (evB (cx wf n) f_l_sender.body [.v (tI xs)] S).out from rfl]
  match xs, h with
  | [x0, x1, x2, x3, x4, x5, x6, x7, x8], _ =>
    by_cases h6 : 6 = x1
    · by_cases hs : x4 < x2 <;> simp [f_l_sender, ix_tI, h6, hs]
    · by_cases h17 : 17 = x1
      · by_cases hs : x4 < x2 <;> simp [f_l_sender, ix_tI, h6, h17, hs]
      · simp [f_l_sender, ix_tI, h6, h17]
theorem l_side {x y : Int} : ∃ r, ev wf (n + 1) 97 [.int x, .int y] S = .ok (.int r) S := by
  rw [show ev wf (n + 1) 97 [.int x, .int y] S = (evB (cx wf n) f_l_side.body [.v (.int x), .v (.int y)] S).out from rfl]
  by_cases h1 : x = 0
  · simp [f_l_side, h1]
  · by_cases h2 : 0 < x <;> simp [f_l_side, h1, h2]
def nonI (x : D) : Prop := x = .non ∨ ∃ r, x = .int r
theorem l_step {k s i f : Int} : ∃ r, ev wf (n + 1) 98 [.int k, .int s, .int i, .int f] S = .ok r S ∧ nonI r := by
  rw [show ev wf (n + 1) 98 [.int k, .int s, .int i, .int f] S = (evB (cx wf n) f_l_step.body [.v (.int k), .v (.int s), .v (.int i), .v (.int f)] S).out from rfl]
  by_cases h1 : k = 17
  · by_cases h2 : s = 0
    · exact ⟨.int 1, by simp [f_l_step, h1, h2], .inr ⟨_, rfl⟩⟩
    · exact ⟨_, by simp [f_l_step, h1, h2]; rfl, .inr ⟨_, rfl⟩⟩
  by_cases h2 : s = 0
  · by_cases h3 : f = 1
    · exact ⟨.int 1, by simp [f_l_step, h1, h2, h3], .inr ⟨_, rfl⟩⟩
    · exact ⟨.non, by simp [f_l_step, h1, h2, h3], .inl rfl⟩
  by_cases h4 : s = 1
  · by_cases h3 : f = 4
    · exact ⟨.int 0, by simp [f_l_step, h1, h2, h3, h4], .inr ⟨_, rfl⟩⟩
    · by_cases h5 : f = 1
      · exact ⟨.int (1 + i), by simp [f_l_step, h1, h2, h3, h4, h5], .inr ⟨_, rfl⟩⟩
      · exact ⟨.non, by simp [f_l_step, h1, h2, h3, h4, h5], .inl rfl⟩
  by_cases h5 : 4 = f ∨ 6 = f
  · exact ⟨.int 0, by simp [f_l_step, h1, h2, h4, h5], .inr ⟨_, rfl⟩⟩
  by_cases h6 : 0 = f ∨ 2 = f
  · by_cases h7 : f = 0
    · exact ⟨.int s, by subst h7; simp [f_l_step, h1, h2, h4, h5], .inr ⟨_, rfl⟩⟩
    · have h8 : f = 2 := by omega
      subst h8
      by_cases h9 : s = 2
      · exact ⟨.int (3 + i), by simp [f_l_step, h1, h2, h4, h9], .inr ⟨_, rfl⟩⟩
      · by_cases h10 : i = s - 3
        · exact ⟨.int s, by simp [f_l_step, h1, h2, h4, h9, h10], .inr ⟨_, rfl⟩⟩
        · exact ⟨.int 0, by simp [f_l_step, h1, h2, h4, h9, h10], .inr ⟨_, rfl⟩⟩
  · simp only [not_or] at h5 h6
    exact ⟨.non, by simp [f_l_step, h1, h2, h4, h5, h6], .inl rfl⟩
theorem l_moved {k s i f : Int} : ∃ r, ev wf (n + 2) 99 [.int k, .int s, .int i, .int f] S = .ok r S ∧ nonI r := by
  rw [show ev wf (n + 2) 99 [.int k, .int s, .int i, .int f] S = (evB (cx wf (n + 1)) f_l_moved.body [.v (.int k), .v (.int s), .v (.int i), .v (.int f), .nil, .nil] S).out from rfl]
  have ab : ∃ y, pB .abs [.int s] = some (.int y) := ⟨_, rfl⟩
  obtain ⟨y, ab⟩ := ab
  obtain ⟨sd, e1⟩ := l_side (wf := wf) (n := n) (S := S) (x := s) (y := i)
  obtain ⟨r, e2, hr⟩ := l_step (wf := wf) (n := n) (S := S) (k := k) (s := y) (i := sd) (f := f)
  rcases hr with rfl | ⟨r, rfl⟩
  · exact ⟨.non, by simp [f_l_moved, ab, e1, e2], .inl rfl⟩
  · by_cases h1 : s = 0
    · subst h1
      by_cases h2 : i = 0
      · subst h2
        exact ⟨.int r, by simp [f_l_moved, ab, e1, e2], .inr ⟨_, rfl⟩⟩
      · exact ⟨.int (0 - r), by simp [f_l_moved, ab, e1, e2, h2], .inr ⟨_, rfl⟩⟩
    · by_cases h2 : 0 < s
      · exact ⟨.int r, by simp [f_l_moved, ab, e1, e2, h1, h2], .inr ⟨_, rfl⟩⟩
      · exact ⟨.int (0 - r), by simp [f_l_moved, ab, e1, e2, h1, h2], .inr ⟨_, rfl⟩⟩
theorem l_talk {k s i f : Int} : ∃ r, ev wf (n + 3) 100 [.int k, .int s, .int i, .int f] S = .ok (.int r) S := by
  rw [show ev wf (n + 3) 100 [.int k, .int s, .int i, .int f] S = (evB (cx wf (n + 2)) f_l_talk.body [.v (.int k), .v (.int s), .v (.int i), .v (.int f)] S).out from rfl]
  have ab : ∃ y, pB .abs [.int s] = some (.int y) := ⟨_, rfl⟩
  obtain ⟨y, ab⟩ := ab
  by_cases h1 : 6 = k ∨ 17 = k
  · obtain ⟨r, e, hr⟩ := l_moved (wf := wf) (n := n) (S := S) (k := k) (s := s) (i := i) (f := f)
    rcases hr with rfl | ⟨r, rfl⟩
    · exact ⟨6, by simp [f_l_talk, h1, e]; omega⟩
    · exact ⟨y + 1, by simp [f_l_talk, h1, e, ab]; omega⟩
  · simp only [not_or] at h1
    exact ⟨0, by simp [f_l_talk, h1]⟩
theorem l_view {xs : List Int} {st : Int} (h : xs.length = 9) : ∃ ys : List Int, ev wf (n + 4) 101 [tI xs, .int st] S = .ok (tI ys) S ∧ ys.length = 11 := by
  rw [show ev wf (n + 4) 101 [tI xs, .int st] S = (evB (cx wf (n + 3)) f_l_view.body [.v (tI xs), .v (.int st), .nil] S).out from rfl]
  obtain ⟨se, e1⟩ := l_sender (wf := wf) (n := n + 2) (S := S) h
  have hx := h
  match xs, h with
  | [x0, x1, x2, x3, x4, x5, x6, x7, x8], _ =>
    by_cases h1 : 6 = x1 ∨ 17 = x1
    · obtain ⟨t, e2⟩ := l_talk (wf := wf) (n := n) (S := S) (k := x1) (s := st) (i := se) (f := x6)
      obtain ⟨sd, e3⟩ := l_side (wf := wf) (n := n + 2) (S := S) (x := st) (y := se)
      refine ⟨[x0, x1, x2, x3, x4, x5, x6, x7, x8] ++ [t, sd], ?_, rfl⟩
      have a1 := add_tI (xs := [x0, x1, x2, x3, x4, x5, x6, x7, x8]) (ys := [t, sd]) (by simp)
      simp only [List.cons_append, List.nil_append] at a1
      have nt : pCmp .notin (.int x1) (.tup [.int 6, .int 17]) = some false := by
        rw [cmp_notin_i2]
        rcases h1 with rfl | rfl <;> rfl
      simp [-cmp_notin_i2, f_l_view, e1, ix_tI, nt, e2, e3, tI2 (a := t) (b := sd), a1]
    · simp only [not_or] at h1
      refine ⟨[x0, x1, x2, x3, x4, x5, x6, x7, x8] ++ [0, 0], ?_, rfl⟩
      have a1 := add_tI (xs := [x0, x1, x2, x3, x4, x5, x6, x7, x8]) (ys := [0, 0]) (by simp)
      simp only [List.cons_append, List.nil_append] at a1
      have nt : pCmp .notin (.int x1) (.tup [.int 6, .int 17]) = some true := by
        rw [cmp_notin_i2]
        simp [h1]
      simp [-cmp_notin_i2, f_l_view, e1, ix_tI, nt, tI2 (a := 0) (b := 0), a1]
theorem l_states {k : Int} : ∃ xs : List Int, ev wf (n + 1) 124 [.int k] S = .ok (lI xs) S ∧ xs ≠ [] ∧ xs.length ≤ 9 := by
  rw [show ev wf (n + 1) 124 [.int k] S = (evB (cx wf n) f_l_states.body [.v (.int k)] S).out from rfl]
  have r1 : rgx false [.int (-4), .int 5] = some (lI [-4, -3, -2, -1, 0, 1, 2, 3, 4]) := rfl
  have r2 : rgx false [.int (-2), .int 3] = some (lI [-2, -1, 0, 1, 2]) := rfl
  by_cases h1 : k = 6
  · exact ⟨[-4, -3, -2, -1, 0, 1, 2, 3, 4], by simp [f_l_states, h1, r1], by simp, by simp⟩
  · by_cases h2 : k = 17
    · exact ⟨[-2, -1, 0, 1, 2], by simp [f_l_states, h2, r2], by simp, by simp⟩
    · exact ⟨[0], by simp [f_l_states, h1, h2]; rfl, by simp, by simp⟩
/-- what a packet shows -/
theorem l_seen {t s d k r : Int} {mo inn pay : List Int} (h : PkB s d k r mo inn pay) : ∃ xs : List Int, ev wf (n + 3) 254 [.int t, pkD s d k r mo inn pay] S = .ok (tI xs) S ∧ xs.length = 9 := by
  rw [show ev wf (n + 3) 254 [.int t, pkD s d k r mo inn pay] S = (evB (cx wf (n + 2)) f_l_seen.body [.v (.int t), .v (pkD s d k r mo inn pay), .nil, .nil, .nil, .nil] S).out from rfl]
  have lp := l_length (wf := wf) (n := n) (S := S) (s := s) (d := d) (k := k) (r := r) (mo := mo) (inn := inn) (pay := pay)
  simp only [pkD] at lp ⊢
  by_cases h6 : k = 6
  · obtain ⟨x, y, z, rfl⟩ := three (h.i6 h6)
    have ps : pSl (tI [x, y, z]) none (some 2) = some (tI [x, y]) := rfl
    refine ⟨[t, k, s, x, d, y, z, 0, lenF k mo pay], ?_, rfl⟩
    subst h6
    simp [f_l_seen, ix_tI, lp, ps]
    rfl
  · by_cases h17 : k = 17
    · obtain ⟨x, y, rfl⟩ := two' (h.i17 h17)
      have ps : pSl (tI [x, y]) none (some 2) = some (tI [x, y]) := rfl
      refine ⟨[t, k, s, x, d, y, 0, 0, lenF k mo pay], ?_, rfl⟩
      subst h17
      simp [f_l_seen, ix_tI, lp, ps]
      rfl
    · have g : ¬ (6 = k ∨ 17 = k) := by omega
      by_cases h1 : k = 1
      · obtain ⟨x, y, rfl⟩ := two' (h.i1 h1)
        refine ⟨[t, k, s, 0, d, 0, 0, 256 * x + y, lenF k mo pay], ?_, rfl⟩
        subst h1
        simp [f_l_seen, ix_tI, lp, mul_small (i := 256) (Or.inl (by decide))]
        rfl
      · refine ⟨[t, k, s, 0, d, 0, 0, 0, lenF k mo pay], ?_, rfl⟩
        simp only [not_or] at g
        simp [f_l_seen, lp, g, h6, h1]
        rfl
/-- a sight -/
structure SgB (xs : List Int) (most : Int) : Prop where
  e : ∃ i k s p d q f c ln, xs = [i, k, s, p, d, q, f, c, ln] ∧ (0 ≤ k ∧ k ≤ 255) ∧ (0 ≤ s ∧ s ≤ 65535) ∧ (0 ≤ d ∧ d ≤ 65535) ∧ (0 ≤ p ∧ p ≤ 65535) ∧ (0 ≤ q ∧ q ≤ 65535) ∧ (0 ≤ f ∧ f ≤ 255) ∧ (0 ≤ c ∧ c ≤ 65535) ∧ 12 + innerF k ≤ ln ∧ ln ≤ 12 + innerF k + most
theorem l_plain {xs : List Int} {most : Int} (h : SgB xs most) (hm : most ≤ 400) : ∃ s d k inn pay, ev wf (n + 3) 255 [tI xs] S = .ok (pkD s d k 64 [] inn pay) S ∧ PkB s d k 64 [] inn pay := by
  rw [show ev wf (n + 3) 255 [tI xs] S = (evB (cx wf (n + 2)) f_l_plain_packet.body [.v (tI xs), .nil, .nil] S).out from rfl]
  obtain ⟨i, k, s, p, d, q, f, c, ln, rfl, hk, hs, hd, hp, hq, hf, hc, l0, l1⟩ := h.e
  have zz : ∃ pay : List Int, pBin .mul (.tup [.int 0]) (.int (ln - (12 + innerF k))) = some (tI pay) ∧ Nb 255 pay ∧ pay.length ≤ 400 := by
    refine ⟨List.replicate (ln - (12 + innerF k)).toNat 0, ?_, fun x hx => by have := List.eq_of_mem_replicate hx; omega, by simp; omega⟩
    show (if _ then _ else _) = _
    rw [if_pos (by simp; omega)]
    unfold tI
    congr 2
    generalize (ln - (12 + innerF k)).toNat = m
    induction m with
    | zero => rfl
    | succ m ih => rw [List.replicate_succ, List.flatten_cons, ih, List.replicate_succ]; rfl
  obtain ⟨pay, ez, pn, pl⟩ := zz
  have nn : Nb 255 ([] : List Int) := nb_nil
  by_cases h6 : k = 6
  · refine ⟨s, d, k, [p, q, f], pay, ?_, ⟨hs, hd, hk, by decide, nn, by simp, nb_cons hp (nb_cons hq (nb_cons (by omega) nb_nil)), fun _ => rfl, by omega, by omega, by simp, pn, pl, by omega⟩⟩
    subst h6
    simp [f_l_plain_packet, ix_tI, l_least, ez, tI3, pkD, tI0]
  · by_cases h17 : k = 17
    · refine ⟨s, d, k, [p, q], pay, ?_, ⟨hs, hd, hk, by decide, nn, by simp, nb_cons hp (nb_cons hq nb_nil), by omega, fun _ => rfl, by omega, by simp, pn, pl, by omega⟩⟩
      subst h17
      simp [f_l_plain_packet, ix_tI, l_least, ez, tI2, pkD, tI0]
    · by_cases h1 : k = 1
      · refine ⟨s, d, k, [c / 256, c % 256], pay, ?_, ⟨hs, hd, hk, by decide, nn, by simp, nb_two (by omega) (by omega) (by omega), by omega, by omega, fun _ => rfl, by simp, pn, pl, fun _ => nb_cons (by omega) (nb_cons (by omega) nb_nil)⟩⟩
        subst h1
        simp [f_l_plain_packet, ix_tI, l_least, l_two, ez, pkD, tI0]
      · refine ⟨s, d, k, [], pay, ?_, ⟨hs, hd, hk, by decide, nn, by simp, nb_nil, by omega, by omega, by omega, by simp, pn, pl, by omega⟩⟩
        simp [f_l_plain_packet, ix_tI, l_least, ez, pkD, tI0, h6, h17, h1]
end
end K
end S_N94u
section S_N94v
set_option linter.all false
set_option maxRecDepth 100000
/-! N94v: drawn sights, packets. -/
namespace K
open G T
section
variable {α β : Type} {wf n : Nat} {S Z : List Cell} {sl : List Sl} {top : Int} {v a b c : D} {X : Ctx}
/-- a draw out of a written tuple -/
theorem gd_pickI {C : Cx} {xs : List D} {m : Int} {P : D → Prop} {k : Nat} (h : PoolOk Z S) (h0 : 0 < m) (h1 : m ≤ xs.length) (h2 : m < 1000) (p : ∀ x ∈ xs, P x) : Gd Z ((ev wf (k + 2) 31 [.loc 0, .int m] S).bind fun y S => .of S (pIx (.tup xs) y)) P := by
  refine gd_bind (d_draw h h0 (by omega)) fun x S h ⟨r, e, r0, r1⟩ => ?_
  subst e
  rw [ix_tup]
  exact gd_at h r0 (by omega) p
theorem d_sight {w : D} {most : Int} (h : PoolOk Z S) (hw : wrld w) (h0 : 0 ≤ most) (h1 : most ≤ 90) : Gd Z (ev wf (n + 4) 162 [.loc 0, w, .int most] S) fun x => ∃ xs, x = tI xs ∧ SgB xs 90 := by
  obtain ⟨A, B, C, p, q, rfl, nA, nP⟩ := hw
  rw [show ev wf (n + 4) 162 [.loc 0, .tup [tI [A, B, C], tI [p, q]], .int most] S = (evB (cx wf (n + 3)) f_l_sight.body [.v (.loc 0), .v (.tup [tI [A, B, C], tI [p, q]]), .v (.int most), .nil, .nil, .nil, .nil, .nil, .nil, .nil, .nil] S).out from rfl]
  apply gf_out
  simp only [f_l_sight]
  have adr : ∀ {r : Int} {S : List Cell}, PoolOk Z S → 0 ≤ r → r < 3 → Gd Z (.of S (atI [D.int A, .int B, .int C] r)) (iB 0 65535) := fun h r0 r1 => gd_at h r0 (by simpa using r1) (fun x hm => by
    simp only [List.mem_cons, List.not_mem_nil, or_false] at hm
    rcases hm with rfl | rfl | rfl
    · exact ⟨_, rfl, nA _ (by simp)⟩
    · exact ⟨_, rfl, nA _ (by simp)⟩
    · exact ⟨_, rfl, nA _ (by simp)⟩)
  have prt : ∀ {r : Int} {S : List Cell}, PoolOk Z S → 0 ≤ r → r < 2 → Gd Z (.of S (atI [D.int p, .int q] r)) (iB 0 65535) := fun h r0 r1 => gd_at h r0 (by simpa using r1) (fun x hm => by
    simp only [List.mem_cons, List.not_mem_nil, or_false] at hm
    rcases hm with rfl | rfl
    · exact ⟨_, rfl, nP _ (by simp)⟩
    · exact ⟨_, rfl, nP _ (by simp)⟩)
  refine gf_sets (Q := iB 0 255) ?_ fun x S h ⟨k, e, k0, k1⟩ => ?_
  · simp
    refine gd_bind (d_draw h (by decide) (by decide)) fun x S h ⟨r, e, r0, r1⟩ => ?_
    subst e
    simp
    refine gd_bind (d_draw h (by decide) (by decide)) fun x S h ⟨t, e, t0, t1⟩ => ?_
    subst e
    simp
    refine gd_at h t0 (by simpa using t1) ?_
    intro x hm
    simp only [List.mem_cons, List.not_mem_nil, or_false] at hm
    rcases hm with rfl | rfl | rfl | rfl | rfl | rfl | rfl <;> exact ⟨_, rfl, by omega, by omega⟩
  subst e
  refine gf_sets (Q := iB 0 2) ?_ fun x S h ⟨at_, e, at0, at1⟩ => ?_
  · simp
    exact gd_mono (d_draw h (by decide) (by decide)) fun x ⟨r, e, r0, r1⟩ => ⟨r, e, r0, by omega⟩
  subst e
  dsimp only [List.set]
  refine gf_sets (Q := iB 0 65535) ?_ fun x S h ⟨so, e, so0, so1⟩ => ?_
  · simp [ix_tI]
    exact adr h at0 (by omega)
  subst e
  dsimp only [List.set]
  refine gf_sets (Q := iB 0 65535) ?_ fun x S h ⟨de, e, de0, de1⟩ => ?_
  · simp [ix_tI]
    refine gd_bind (d_draw h (by decide) (by decide)) fun x S h ⟨r, e, r0, r1⟩ => ?_
    subst e
    simp [mod_pos (j := 3) (by decide), ix_tI]
    exact adr h (by omega) (by omega)
  subst e
  dsimp only [List.set]
  refine gf_sets (Q := fun x => ∃ p q : Int, x = tI [p, q] ∧ (0 ≤ p ∧ p ≤ 65535) ∧ (0 ≤ q ∧ q ≤ 65535)) ?_ fun x S h ⟨p1, q1, e, b1, b2⟩ => ?_
  · by_cases hk : 6 = k ∨ 17 = k
    · have nt : pCmp .isin (.int k) (.tup [.int 6, .int 17]) = some true := by
        rw [cmp_in_i2]
        rcases hk with rfl | rfl <;> rfl
      simp [-cmp_in_i2, nt]
      refine gd_bind (d_draw h (by decide) (by decide)) fun x S h ⟨r, e, r0, r1⟩ => ?_
      subst e
      simp [ix_tI]
      refine gd_bind (prt h r0 (by omega)) fun x S h ⟨u, e, u0, u1⟩ => ?_
      subst e
      simp
      refine gd_bind (d_draw h (by decide) (by decide)) fun x S h ⟨r, e, r0, r1⟩ => ?_
      subst e
      simp [ix_tI]
      refine gd_bind (prt h r0 (by omega)) fun x S h ⟨v, e, v0, v1⟩ => ?_
      subst e
      simp
      exact gd_ok h ⟨u, v, rfl, ⟨u0, u1⟩, v0, v1⟩
    · have nt : pCmp .isin (.int k) (.tup [.int 6, .int 17]) = some false := by
        rw [cmp_in_i2]
        simp only [not_or] at hk
        simp [hk]
      simp [-cmp_in_i2, nt]
      exact gd_ok h ⟨0, 0, rfl, by omega, by omega⟩
  subst e
  dsimp only [List.set]
  refine gf_sets (Q := iB 0 7) ?_ fun x S h ⟨fl, e, fl0, fl1⟩ => ?_
  · by_cases hk : k = 6
    · simp [hk]
      refine gd_bind (d_draw h (by decide) (by decide)) fun x S h ⟨r, e, r0, r1⟩ => ?_
      subst e
      simp
      refine gd_bind (d_draw h (by decide) (by decide)) fun x S h ⟨t, e, t0, t1⟩ => ?_
      subst e
      simp
      refine gd_at h t0 (by simpa using t1) ?_
      intro x hm
      simp only [List.mem_cons, List.not_mem_nil, or_false] at hm
      rcases hm with rfl | rfl | rfl | rfl | rfl | rfl <;> exact ⟨_, rfl, by omega, by omega⟩
    · simp [hk]
      exact gd_ok h ⟨0, rfl, by decide, by decide⟩
  subst e
  dsimp only [List.set]
  refine gf_sets (Q := iB 0 65535) ?_ fun x S h ⟨co, e, co0, co1⟩ => ?_
  · by_cases hk : k = 1
    · simp [hk]
      exact gd_mono (d_draw h (by decide) (by decide)) fun x ⟨r, e, r0, r1⟩ => ⟨r, e, r0, by omega⟩
    · simp [hk]
      exact gd_ok h ⟨0, rfl, by decide, by decide⟩
  subst e
  dsimp only [List.set]
  refine gf_sets (Q := iB (12 + innerF k) (12 + innerF k + 90)) ?_ fun x S h ⟨ln, e, ln0, ln1⟩ => ?_
  · simp [l_least]
    refine gd_bind (d_draw h (by omega) (by omega)) fun x S h ⟨r, e, r0, r1⟩ => ?_
    subst e
    simp
    refine gd_bind (d_draw h (by decide) (by decide)) fun x S h ⟨t, e, t0, t1⟩ => ?_
    subst e
    simp
    refine gd_bind (gd_at (P := iB 0 90) h t0 (by simpa using t1) ?_) fun x S h ⟨y, e, y0, y1⟩ => ?_
    · intro x hm
      simp only [List.mem_cons, List.not_mem_nil, or_false] at hm
      rcases hm with rfl | rfl | rfl | rfl <;> exact ⟨_, rfl, by omega, by omega⟩
    subst e
    simp
    exact gd_ok h ⟨_, rfl, by omega, by omega⟩
  subst e
  dsimp only [List.set]
  refine gf_rets ?_
  simp [ix_tI]
  refine gd_bind (d_draw h (by decide) (by decide)) fun x S h ⟨i, e, i0, i1⟩ => ?_
  subst e
  simp
  exact gd_ok h ⟨[i, k, so, p1, de, q1, fl, co, ln], rfl, i, k, so, p1, de, q1, fl, co, ln, rfl, ⟨k0, k1⟩, ⟨so0, so1⟩, ⟨de0, de1⟩, b1, b2, ⟨fl0, by omega⟩, ⟨co0, co1⟩, ln0, ln1⟩
/-- a packet and a view -/
def pkvw (x : D) : Prop := ∃ s d k r mo inn pay vw, x = .tup [pkD s d k r mo inn pay, tI vw] ∧ PkB s d k r mo inn pay ∧ vw.length = 11
theorem d_ps {w : D} (h : PoolOk Z S) (hw : wrld w) : Gd Z (ev wf (n + 6) 263 [.loc 0, w] S) pkvw := by
  rw [show ev wf (n + 6) 263 [.loc 0, w] S = (evB (cx wf (n + 5)) f_l_seen_packet.body [.v (.loc 0), .v w, .nil, .nil, .nil, .nil] S).out from rfl]
  apply gf_out
  simp only [f_l_seen_packet]
  refine gf_sets (Q := fun x => ∃ xs, x = tI xs ∧ SgB xs 90) ?_ fun x S h ⟨xs, e, hx⟩ => ?_
  · simp
    refine gd_bind (d_draw h (by decide) (by decide)) fun x S h ⟨r, e, r0, r1⟩ => ?_
    subst e
    simp
    refine gd_bind (gd_at (P := iB 0 90) h r0 (by simpa using r1) ?_) fun x S h ⟨y, e, y0, y1⟩ => ?_
    · intro x hm
      simp only [List.mem_cons, List.not_mem_nil, or_false] at hm
      rcases hm with rfl | rfl | rfl <;> exact ⟨_, rfl, by decide, by decide⟩
    subst e
    exact d_sight (n := n + 1) h hw y0 y1
  subst e
  dsimp only [List.set]
  obtain ⟨s, d, k, inn, pay, ep, B⟩ := l_plain (wf := wf) (n := n + 2) (S := S) hx (by decide)
  refine gf_sets (Q := (· = pkD s d k 64 [] inn pay)) ?_ fun x S h e => ?_
  · simp [ep]
    exact gd_ok h rfl
  subst e
  dsimp only [List.set]
  refine gf_sets (Q := iB 0 8) ?_ fun x S h ⟨mr, e, m0, m1⟩ => ?_
  · simp
    refine gd_bind (d_draw h (by decide) (by decide)) fun x S h ⟨r, e, r0, r1⟩ => ?_
    subst e
    simp [mul_small (i := 2) (Or.inl (by decide))]
    exact gd_ok h ⟨_, rfl, by omega, by omega⟩
  subst e
  dsimp only [List.set]
  refine gf_sets (Q := fun x => ∃ ns, x = tI ns ∧ Nb 255 ns ∧ (ns.length : Int) = pay.length) ?_ fun x S h ⟨py, e, p1, p2⟩ => ?_
  · simp [pkD, len_tI]
    exact d_rowI (n := n + 2) h (by omega) (by have := B.pl; omega)
  subst e
  dsimp only [List.set]
  refine gf_sets (Q := fun x => ∃ r mo, x = pkD s d k r mo inn py ∧ PkB s d k r mo inn py) ?_ fun x S h ⟨r, mo, e, B2⟩ => ?_
  · have ps : pSl (.tup [.int s, .int d, .int k, .int 64, tI [], tI inn, tI pay]) none (some 3) = some (.tup [.int s, .int d, .int k]) := slTo3
    simp [pkD, ps]
    refine gd_bind (d_draw h (by decide) (by decide)) fun x S h ⟨r, e, r0, r1⟩ => ?_
    subst e
    simp
    refine gd_bind (d_rowI (n := n + 2) h m0 (by omega)) fun x S h ⟨mo, e, o1, o2⟩ => ?_
    subst e
    have ad : pBin .add (.tup [.int s, .int d, .int k]) (.tup [.int (2 + r), tI mo, tI inn, tI py]) = some (.tup [.int s, .int d, .int k, .int (2 + r), tI mo, tI inn, tI py]) := add_tup (by simp [lim])
    simp [ad]
    refine gd_ok h ⟨2 + r, mo, rfl, ⟨B.hs, B.hd, B.hk, by omega, o1, by omega, B.hi, B.i6, B.i17, B.i1, B.il, p1, by have := B.pl; omega, B.j1⟩⟩
  subst e
  dsimp only [List.set]
  refine gf_rets ?_
  obtain ⟨i, k', s', p', d', q', f', c', ln, rfl, hk', _⟩ := hx.e
  obtain ⟨ys, es, ey⟩ := l_seen (wf := wf) (n := n + 2) (S := S) (t := i) B2
  obtain ⟨st, est, s1, s2⟩ := l_states (wf := wf) (n := n + 4) (S := S) (k := k')
  simp [ix_tI, es, est]
  refine gd_bind (d_pickL (xs := st.map .int) (n := n + 2) h (by simpa using s1) (by simp [lim]; omega)) fun x S h hx => ?_
  obtain ⟨z, _, rfl⟩ := List.mem_map.mp hx
  obtain ⟨vw, ev', lv⟩ := l_view (wf := wf) (n := n + 1) (S := S) (st := z) ey
  simp [ev']
  exact gd_ok h ⟨s, d, k, r, mo, inn, py, vw, rfl, B2, lv⟩
end
end K
end S_N94v
section S_N94w
set_option linter.all false
set_option maxRecDepth 100000
/-! N94w: orders; programs alike. -/
namespace K
open G T
section
variable {α β : Type} {wf n : Nat} {S Z : List Cell} {sl : List Sl} {top : Int} {v a b c : D} {X : Ctx}
def rangeI (m : Nat) : List Int := (List.range m).map fun (k : Nat) => (k : Int)
theorem rangeI_mem {m : Nat} {x : Int} : x ∈ rangeI m ↔ 0 ≤ x ∧ x < m := by
  unfold rangeI
  rw [List.mem_map]
  constructor
  · rintro ⟨k, hk, rfl⟩
    have := List.mem_range.mp hk
    omega
  · intro h
    exact ⟨x.toNat, List.mem_range.mpr (by omega), by omega⟩
theorem rangeI_lt {m : Nat} : (rangeI m).Pairwise (· < ·) := by
  unfold rangeI
  rw [List.pairwise_map]
  exact List.pairwise_lt_range.imp fun h => by omega
theorem rangeI_nd {m : Nat} : (rangeI m).Nodup := rangeI_lt.imp fun h => by omega
theorem rangeI_len {m : Nat} : (rangeI m).length = m := by
  unfold rangeI
  rw [List.length_map, List.length_range]
theorem sorted_perm {many : Nat} {row : List Int} : srtI row = rangeI many ↔ permB many row = true := by
  constructor
  · intro h
    have hm : ∀ x, x ∈ row ↔ x ∈ rangeI many := fun x => by
      rw [← h]
      exact srtB_mem.symm
    have hl : row.length = many := by
      have := congrArg List.length h
      unfold srtI at this
      rw [srtB_len, rangeI_len] at this
      exact this
    have hd : (ddup row).length = many := by
      have := (nodup_perm (l := ddup row) (m := rangeI many) ddup_nodup rangeI_nd (fun x => by rw [ddup_mem]; exact hm x)).length_eq
      rw [rangeI_len] at this
      exact this
    unfold permB
    simp only [hl, hd, decide_true, Bool.true_and, Bool.and_true, List.all_eq_true]
    intro x hx
    have := rangeI_mem.mp ((hm x).mp hx)
    exact wB_of ⟨this.1, by omega⟩
  · intro h
    obtain ⟨h1, h2, h3⟩ := perm_nd h
    refine (srtB_uniq ordI (nodup_perm rangeI_nd h3 fun x => ⟨fun hx => ?_, fun hx => ?_⟩) (rangeI_lt.imp fun hab => decide_eq_true (Int.le_of_lt hab))).symm
    · have := rangeI_mem.mp hx
      exact perm_all h x this.1 this.2
    · have := h2 x hx
      exact rangeI_mem.mpr ⟨this.1, by omega⟩
theorem alike {p : List Ins} {row : List Int} (P : Prog p) (hp : permB p.length row = true) (hg : goodP p row = true) : Alike p (made p row) fun i => row.idxOf (i : Int) := by
  obtain ⟨h1, h2, h3⟩ := perm_nd hp
  have pos : ∀ i : Nat, i < p.length → row.idxOf (i : Int) < row.length ∧ row.getD (row.idxOf (i : Int)) 0 = i := by
    intro i hi
    have hm := perm_all hp (i : Int) (by omega) (by omega)
    have hlt := List.idxOf_lt_length_of_mem hm
    refine ⟨hlt, ?_⟩
    rw [List.getD_eq_getElem?_getD, List.getElem?_eq_getElem hlt, List.getElem_idxOf hlt]
    rfl
  refine ⟨by rw [made_len, h1], P.val, P.tgt, fun i ins hi => ?_, fun i ins hi hgo => ?_⟩
  · have hlt := (List.getElem?_eq_some_iff.mp hi).1
    obtain ⟨p1, p2⟩ := pos i hlt
    show (made p row)[row.idxOf (i : Int)]? = _
    rw [relI_pos p1, p2, Int.toNat_natCast]
    have e := insAt_eq hlt
    rw [hi] at e
    rw [← Option.some.inj e]
    cases ins with
    | less s v t u =>
      have tg := P.tgt i s v t u hi
      simp only [relI, posI]
      rw [show ((t.toNat : Nat) : Int) = t from by omega, show ((u.toNat : Nat) : Int) = u from by omega]
    | _ => rfl
  · have hlt := (List.getElem?_eq_some_iff.mp hi).1
    obtain ⟨p1, p2⟩ := pos i hlt
    unfold goodP at hg
    have z := List.all_eq_true.mp hg (row.idxOf (i : Int)) (List.mem_range'_1.mpr ⟨by omega, by omega⟩)
    unfold goodK at z
    rw [p2, Int.toNat_natCast] at z
    have e := insAt_eq hlt
    rw [hi] at e
    rw [← Option.some.inj e, hgo] at z
    simp only [Bool.true_and, Bool.not_not, beq_iff_eq] at z
    unfold aft at z
    show (i + 1 < p.length ∧ row.idxOf ((i + 1 : Nat) : Int) = row.idxOf (i : Int) + 1 ∧ row.idxOf (i : Int) + 1 < p.length) ∨ (i + 1 = p.length ∧ row.idxOf (i : Int) + 1 = p.length)
    by_cases hk : row.idxOf (i : Int) + 1 < p.length
    · rw [if_pos hk] at z
      have hm := h2 _ (getD_mem (row := row) (k := row.idxOf (i : Int) + 1) (by omega))
      rw [z] at hm
      obtain ⟨q1, q2⟩ := pos (i + 1) (by omega)
      refine .inl ⟨by omega, ?_, hk⟩
      have hk2 : row.idxOf (i : Int) + 1 < row.length := by omega
      rw [List.getD_eq_getElem?_getD, List.getElem?_eq_getElem hk2] at z
      rw [List.getD_eq_getElem?_getD, List.getElem?_eq_getElem q1] at q2
      have z : row[row.idxOf (i : Int) + 1] = (i : Int) + 1 := z
      have q2 : row[row.idxOf ((i + 1 : Nat) : Int)] = ((i + 1 : Nat) : Int) := q2
      exact (List.getElem_inj h3).mp (by rw [q2, z]; omega)
    · rw [if_neg hk] at z
      exact .inr ⟨by omega, by omega⟩
end
end K
end S_N94w
section S_N94x
set_option linter.all false
set_option maxRecDepth 100000
/-! N94x: one row of the law. -/
namespace K
open G T
section
variable {α β : Type} {wf n : Nat} {S Z : List Cell} {sl : List Sl} {top : Int} {v a b c : D} {X : Ctx}
/-- what stands in the law's slots while the rows are tried -/
structure RS (p : List Ins) (w : D) (sl : List Sl) : Prop where
  len : sl.length = 26
  s1 : sl[1]? = some (.v (.loc 0))
  s2 : sl[2]? = some (.v w)
  s4 : sl[4]? = some (.v (.tup (p.map insD)))
  s5 : sl[5]? = some (.v (.int p.length))
theorem RS.set {p : List Ins} {w : D} (R : RS p w sl) {i : Nat} {x : Sl} (hi : 5 < i) : RS p w (sl.set i x) := by
  have h1 := R.len
  refine ⟨by simp [h1], ?_, ?_, ?_, ?_⟩ <;> rw [List.getElem?_set_ne (by omega)]
  · exact R.s1
  · exact R.s2
  · exact R.s4
  · exact R.s5
theorem getset {i j : Nat} {x : Sl} (h : sl.length = 26) (hi : i < 26) : (sl.set i x)[j]? = if i = j then some x else sl[j]? := by
  rw [List.getElem?_set]
  split
  · rename_i e
    subst e
    rw [if_pos (by omega)]
  · rfl
theorem pB_srtT {xs : List D} : pB .sorted [.tup xs] = if xs.length ≤ lim then (asInts xs).map (fun ns => D.lst ((srtI ns).map .int)) else none := rfl
theorem srt_tI {row : List Int} (h : row.length ≤ 1000) : pB .sorted [tI row] = some (lI (srtI row)) := by
  have := asInts_map (fun x : Int => x) row
  simp only [List.map_id'] at this
  have hl : (row.map D.int).length ≤ lim := by
    rw [List.length_map]
    have : lim = 16777216 := rfl
    omega
  exact pB_srtT.trans ((if_pos hl).trans (congrArg (Option.map fun ns => D.lst ((srtI ns).map .int)) this))
theorem rgx1 {t : Bool} {i : Int} : rgx t [.int i] = if (rngOk i && decide (i.toNat ≤ lim)) = true then some (if t then .tup (upto 0 i.toNat) else .lst (upto 0 i.toNat)) else none := rfl
theorem rgxI {m : Nat} {t : Bool} (h : m ≤ 1000) : rgx t [.int m] = some (if t then tI (rangeI m) else lI (rangeI m)) := by
  have hr : rngOk (m : Int) = true := by unfold rngOk; simp; omega
  have hl : (m : Int).toNat ≤ lim := by
    have : lim = 16777216 := rfl
    omega
  have e : upto 0 (m : Int).toNat = (rangeI m).map .int := by
    rw [upto_eq, Int.toNat_natCast]
    unfold rangeI
    rw [List.map_map]
    simp [Function.comp_def]
  rw [rgx1, hr, decide_eq_true hl, e]
  cases t <;> rfl
theorem eqvL_int : ∀ {xs ys : List Int}, D.eqvL (xs.map .int) (ys.map .int) = decide (xs = ys)
  | [], [] => rfl
  | [], _ :: _ => by simp
  | _ :: _, [] => by simp
  | x :: xs, y :: ys => by
    rw [List.map_cons, List.map_cons, eqvL_cc, eqvL_int, eqv_int]
    by_cases h : x = y <;> by_cases h2 : xs = ys <;> simp [h, h2]
theorem eq_lI {xs ys : List Int} : pCmp .eq (lI xs) (lI ys) = some (decide (xs = ys)) := by
  unfold lI
  have : D.depL (ys.map .int) ≤ 0 := depL_all fun d hd => by
    obtain ⟨i, _, rfl⟩ := List.mem_map.mp hd
    simp
  rw [cmp_eq_d rfl rfl (by rw [dep_lst]; omega), eqv_lst, eqvL_int]
def mkRow : List G.T := [.set 22 (.ix (.v 4) (.ix (.v 12) (.v 8))), .ife (.tr (.cmp .eq (.ix (.v 22) (.k (.int 0))) (.k (.str s_less)))) [.set 22 (.bin .add (.sl (.v 22) none (some (.k (.int 3)))) (.tup [(.dgx (.v 17) (.ix (.v 22) (.k (.int 3)))), (.dgx (.v 17) (.ix (.v 22) (.k (.int 4))))]))] [.ife (.tr (.cmp .ne (.ix (.v 22) (.k (.int 0))) (.k (.str s_answer)))) [.set 19 (.and [(.v 19), (.cmp .eq (.ite (.tr (.cmp .lt (.bin .add (.v 8) (.k (.int 1))) (.v 5))) (.ix (.v 12) (.bin .add (.v 8) (.k (.int 1)))) (.v 5)) (.bin .add (.ix (.v 12) (.v 8)) (.k (.int 1))))])] []], .app (.b 18) (.v 22)]
def goodTo (p : List Ins) (row : List Int) (k : Nat) : Bool := (List.range' 0 k).all (goodK p row)
/-- the slots in the law's own loop -/
structure MS (p : List Ins) (w : D) (row : List Int) (S : List Cell) (k : Nat) (sl : List Sl) : Prop where
  r : RS p w sl
  s12 : sl[12]? = some (.v (tI row))
  s17 : sl[17]? = some (.v (.loc S.length))
  s18 : sl[18]? = some (.own (((made p row).take k).map insD))
  s19 : sl[19]? = some (.v (.bl (goodTo p row k)))
theorem goodTo_add {p : List Ins} {row : List Int} {k : Nat} : goodTo p row (k + 1) = (goodTo p row k && goodK p row k) := by
  unfold goodTo
  rw [List.range'_concat, List.all_append]
  simp
theorem mk_turn {p : List Ins} {w : D} {row : List Int} {k : Nat} {T : List Cell} (P : Prog p) (h : permB p.length row = true) (hk : k < p.length) (M : MS p w row S k sl) :
    ∃ sl', turnS (cx wf (n + 1)) (.s 8) mkRow (.int k) sl (S ++ .dki (prs 0 row) :: T) = .nx sl' (S ++ .dki (prs 0 row) :: T) ∧ MS p w row S (k + 1) sl' := by
  obtain ⟨⟨hl, s1, s2, s4, s5⟩, s12, s17, s18, s19⟩ := M
  obtain ⟨r1, r2, r3⟩ := perm_nd h
  have hkr : k < row.length := by omega
  have m1 := r2 _ (getD_mem hkr)
  have ra := row_at hkr
  have tm := take_made (p := p) hkr
  have gk : goodK p row k = !(goes (insAt p (row.getD k 0).toNat) && !(aft p.length row k == row.getD k 0 + 1)) := rfl
  generalize hy : row.getD k 0 = y at m1 ra tm gk
  obtain ⟨j, rfl⟩ := Int.eq_ofNat_of_zero_le m1.1
  have hj : j < p.length := by omega
  rw [Int.toNat_natCast] at tm gk
  have ai := at_ins hj
  have ll2 : min k (made p row).length < lim := by
    have := Nat.min_le_left k (made p row).length
    have := P.len
    have : lim = 16777216 := rfl
    omega
  unfold turnS
  rw [tgSet_s]
  dsimp only
  -- the place and the instruction
  have e1 : evS (cx wf (n + 1)) (.set 22 (.ix (.v 4) (.ix (.v 12) (.v 8)))) (sl.set 8 (.v (.int k))) (S ++ .dki (prs 0 row) :: T) = .nx ((sl.set 8 (.v (.int k))).set 22 (.v (insD (insAt p j)))) (S ++ .dki (prs 0 row) :: T) := by
    simp [getset hl, s4, s12, ix_tI, ra, ai]
  rw [show mkRow = .set 22 (.ix (.v 4) (.ix (.v 12) (.v 8))) :: mkRow.drop 1 from rfl, evB_cons, e1, nxt_nx]
  have hl2 : ((sl.set 8 (.v (.int k))).set 22 (.v (insD (insAt p j)))).length = 26 := by simp [hl]
  -- the end of a turn
  have fin : ∀ (sl' : List Sl), sl'.length = 26 → sl'[1]? = some (.v (.loc 0)) → sl'[2]? = some (.v w) → sl'[4]? = some (.v (.tup (p.map insD))) → sl'[5]? = some (.v (.int p.length)) → sl'[12]? = some (.v (tI row)) → sl'[17]? = some (.v (.loc S.length)) → sl'[18]? = some (.own (((made p row).take k).map insD)) →
      sl'[22]? = some (.v (insD (relI (posI row) (insAt p j)))) → sl'[19]? = some (.v (.bl (goodTo p row (k + 1)))) → ∃ sl2, evB (cx wf (n + 1)) [.app (.b 18) (.v 22)] sl' (S ++ .dki (prs 0 row) :: T) = .nx sl2 (S ++ .dki (prs 0 row) :: T) ∧ MS p w row S (k + 1) sl2 := by
    intro sl' l t1 t2 t4 t5 t12 t17 t18 t22 t19
    refine ⟨sl'.set 18 (.own (((made p row).take (k + 1)).map insD)), ?_, RS.set ⟨l, t1, t2, t4, t5⟩ (by decide), ?_, ?_, ?_, ?_⟩
    · rw [tm]
      simp [lstAt, chg, t18, t22, ll2]
    · simp [getset l, t12]
    · simp [getset l, t17]
    · simp [getset l]
    · simp [getset l, t19]
  have split : evB (cx wf (n + 1)) (mkRow.drop 1) ((sl.set 8 (.v (.int k))).set 22 (.v (insD (insAt p j)))) (S ++ .dki (prs 0 row) :: T) = (evS (cx wf (n + 1)) (mkRow.getD 1 .pas) ((sl.set 8 (.v (.int k))).set 22 (.v (insD (insAt p j)))) (S ++ .dki (prs 0 row) :: T)).nxt fun sl S => evB (cx wf (n + 1)) [.app (.b 18) (.v 22)] sl S := by
    rw [show mkRow.drop 1 = [mkRow.getD 1 .pas, .app (.b 18) (.v 22)] from rfl, evB_cons]
  rw [split]
  have hg := goodTo_add (p := p) (row := row) (k := k)
  rw [gk] at hg
  have hl8 : (sl.set 8 (.v (.int k))).length = 26 := by simp [hl]
  have e2 : ∃ sl', evS (cx wf (n + 1)) (mkRow.getD 1 .pas) ((sl.set 8 (.v (.int k))).set 22 (.v (insD (insAt p j)))) (S ++ .dki (prs 0 row) :: T) = .nx sl' (S ++ .dki (prs 0 row) :: T) ∧ sl'.length = 26 ∧ (∀ i, i ≠ 22 → i ≠ 19 → i ≠ 8 → sl'[i]? = sl[i]?) ∧ sl'[22]? = some (.v (insD (relI (posI row) (insAt p j)))) ∧ sl'[19]? = some (.v (.bl (goodTo p row (k + 1)))) := by
    have frame : ∀ (x y : Sl) (i : Nat), i ≠ 22 → i ≠ 19 → i ≠ 8 → (((sl.set 8 x).set 22 y))[i]? = sl[i]? := fun x y i h1 h2 h3 => by
      rw [List.getElem?_set_ne (by omega), List.getElem?_set_ne (by omega)]
    have go : goes (insAt p j) = true → relI (posI row) (insAt p j) = insAt p j → evT (cx wf (n + 1)) (.tr (.cmp .eq (.ix (.v 22) (.k (.int 0))) (.k (.str s_less)))) ((sl.set 8 (.v (.int k))).set 22 (.v (insD (insAt p j)))) (S ++ .dki (prs 0 row) :: T) = .ok false (S ++ .dki (prs 0 row) :: T) → evT (cx wf (n + 1)) (.tr (.cmp .ne (.ix (.v 22) (.k (.int 0))) (.k (.str s_answer)))) ((sl.set 8 (.v (.int k))).set 22 (.v (insD (insAt p j)))) (S ++ .dki (prs 0 row) :: T) = .ok true (S ++ .dki (prs 0 row) :: T) →
        ∃ sl', evS (cx wf (n + 1)) (mkRow.getD 1 .pas) ((sl.set 8 (.v (.int k))).set 22 (.v (insD (insAt p j)))) (S ++ .dki (prs 0 row) :: T) = .nx sl' (S ++ .dki (prs 0 row) :: T) ∧ sl'.length = 26 ∧ (∀ i, i ≠ 22 → i ≠ 19 → i ≠ 8 → sl'[i]? = sl[i]?) ∧ sl'[22]? = some (.v (insD (relI (posI row) (insAt p j)))) ∧ sl'[19]? = some (.v (.bl (goodTo p row (k + 1)))) := by
      intro hgo hrel c1 c2
      rw [hgo] at hg
      refine ⟨((sl.set 8 (.v (.int k))).set 22 (.v (insD (insAt p j)))).set 19 (.v (.bl (goodTo p row (k + 1)))), ?_, by simp [hl], fun i h1 h2 h3 => by rw [List.getElem?_set_ne (by omega)]; exact frame _ _ i h1 h2 h3, ?_, ?_⟩
      · rw [show mkRow.getD 1 .pas = (.ife (.tr (.cmp .eq (.ix (.v 22) (.k (.int 0))) (.k (.str s_less)))) [.set 22 (.bin .add (.sl (.v 22) none (some (.k (.int 3)))) (.tup [(.dgx (.v 17) (.ix (.v 22) (.k (.int 3)))), (.dgx (.v 17) (.ix (.v 22) (.k (.int 4))))]))] [.ife (.tr (.cmp .ne (.ix (.v 22) (.k (.int 0))) (.k (.str s_answer)))) [.set 19 (.and [(.v 19), (.cmp .eq (.ite (.tr (.cmp .lt (.bin .add (.v 8) (.k (.int 1))) (.v 5))) (.ix (.v 12) (.bin .add (.v 8) (.k (.int 1)))) (.v 5)) (.bin .add (.ix (.v 12) (.v 8)) (.k (.int 1))))])] []] : G.T) from rfl, evS_ife, c1, fl_ok, if_neg (by decide), evB_cons, evS_ife, c2, fl_ok, if_pos rfl]
        have val : evE (cx wf (n + 1)) (.and [(.v 19), (.cmp .eq (.ite (.tr (.cmp .lt (.bin .add (.v 8) (.k (.int 1))) (.v 5))) (.ix (.v 12) (.bin .add (.v 8) (.k (.int 1)))) (.v 5)) (.bin .add (.ix (.v 12) (.v 8)) (.k (.int 1))))]) ((sl.set 8 (.v (.int k))).set 22 (.v (insD (insAt p j)))) (S ++ .dki (prs 0 row) :: T) = .ok (.bl (goodTo p row (k + 1))) (S ++ .dki (prs 0 row) :: T) := by
          rw [hg]
          unfold aft
          have g8 : ((sl.set 8 (.v (.int k))).set 22 (.v (insD (insAt p j))))[8]? = some (.v (.int k)) := by
            rw [List.getElem?_set_ne (by decide), List.getElem?_set_self (by omega)]
          have g5 := (frame (.v (.int k)) (.v (insD (insAt p j))) 5 (by decide) (by decide) (by decide)).trans s5
          have g12 := (frame (.v (.int k)) (.v (insD (insAt p j))) 12 (by decide) (by decide) (by decide)).trans s12
          have g19 : ((sl.set 8 (.v (.int k))).set 22 (.v (insD (insAt p j))))[19]? = some (.v (.bl (goodTo p row k))) := by
            rw [List.getElem?_set_ne (by decide), List.getElem?_set_ne (by decide)]
            exact s19
          generalize ((sl.set 8 (.v (.int k))).set 22 (.v (insD (insAt p j)))) = sx at g8 g5 g12 g19
          cases hgt : goodTo p row k with
          | false => simp [g19, hgt]
          | true =>
            rw [hgt] at g19
            by_cases hn : k + 1 < p.length
            · have hn' : (k : Int) + 1 < p.length := by omega
              have rb := row_at (row := row) (k := k + 1) (by omega)
              simp only [Int.natCast_add, Int.cast_ofNat_Int] at rb
              rw [if_pos hn]
              simp [g8, g5, g12, g19, hn', ix_tI, rb, ra]
            · have hn' : ¬ (k : Int) + 1 < p.length := by omega
              rw [if_neg hn]
              simp [g8, g5, g12, g19, hn', ix_tI, ra]
        rw [evB_cons, evS_set, val]
        rfl
      · rw [List.getElem?_set_ne (by decide), List.getElem?_set_self (by omega), hrel]
      · rw [List.getElem?_set_self (by omega)]
    have g22 : ((sl.set 8 (.v (.int k))).set 22 (.v (insD (insAt p j))))[22]? = some (.v (insD (insAt p j))) := List.getElem?_set_self (by omega)
    have g17 := (frame (.v (.int k)) (.v (insD (insAt p j))) 17 (by decide) (by decide) (by decide)).trans s17
    have g19 : ((sl.set 8 (.v (.int k))).set 22 (.v (insD (insAt p j))))[19]? = some (.v (.bl (goodTo p row k))) := by
      rw [List.getElem?_set_ne (by decide), List.getElem?_set_ne (by decide)]
      exact s19
    cases hi : insAt p j with
    | less s v t u =>
      have tg := P.tgt j s v t u (by rw [insAt_eq hj, hi])
      have q1 := prs_get (k := 0) (perm_all h t (by omega) (by omega))
      have q2 := prs_get (k := 0) (perm_all h u (by omega) (by omega))
      rw [hi] at g22 g17 g19 hg
      simp only [goes, Bool.false_and, Bool.not_false, Bool.and_true] at hg
      refine ⟨((sl.set 8 (.v (.int k))).set 22 (.v (insD (.less s v t u)))).set 22 (.v (insD (relI (posI row) (.less s v t u)))), ?_, by simp [hl], fun i h1 h2 h3 => by rw [List.getElem?_set_ne (by omega)]; exact frame _ _ i h1 h2 h3, ?_, ?_⟩
      · generalize ((sl.set 8 (.v (.int k))).set 22 (.v (insD (.less s v t u)))) = sx at g22 g17
        simp [mkRow, g22, g17, insD, slTo3, cell_last, q1, q2, add5, relI, posI]
      · rw [List.getElem?_set_self (by simp [hl])]
      · rw [List.getElem?_set_ne (by decide), g19, hg]
    | ans d =>
      rw [hi] at g22 g19 hg
      simp only [goes, Bool.false_and, Bool.not_false, Bool.and_true] at hg
      refine ⟨(sl.set 8 (.v (.int k))).set 22 (.v (insD (.ans d))), ?_, by simp [hl], fun i h1 h2 h3 => frame _ _ i h1 h2 h3, ?_, ?_⟩
      · generalize ((sl.set 8 (.v (.int k))).set 22 (.v (insD (.ans d)))) = sx at g22
        simp [mkRow, g22, insD]
      · rw [g22]; rfl
      · rw [g19, hg]
    | load w' s j' o =>
      rw [hi] at go g22
      refine go rfl rfl ?_ ?_ <;> generalize ((sl.set 8 (.v (.int k))).set 22 (.v (insD (.load w' s j' o)))) = sx at g22 <;> cases w' <;> simp [g22, insD]
    | spec s j' =>
      rw [hi] at go g22
      refine go rfl rfl ?_ ?_ <;> generalize ((sl.set 8 (.v (.int k))).set 22 (.v (insD (.spec s j')))) = sx at g22 <;> simp [g22, insD]
    | put s v =>
      rw [hi] at go g22
      refine go rfl rfl ?_ ?_ <;> generalize ((sl.set 8 (.v (.int k))).set 22 (.v (insD (.put s v)))) = sx at g22 <;> simp [g22, insD]
    | mask s v =>
      rw [hi] at go g22
      refine go rfl rfl ?_ ?_ <;> generalize ((sl.set 8 (.v (.int k))).set 22 (.v (insD (.mask s v)))) = sx at g22 <;> simp [g22, insD]
  obtain ⟨sl', e, l', fr, t22, t19⟩ := e2
  rw [e, nxt_nx]
  have f := fun i h1 h2 h3 => fr i h1 h2 h3
  exact fin sl' l' ((f 1 (by decide) (by decide) (by decide)).trans s1) ((f 2 (by decide) (by decide) (by decide)).trans s2) ((f 4 (by decide) (by decide) (by decide)).trans s4) ((f 5 (by decide) (by decide) (by decide)).trans s5) ((f 12 (by decide) (by decide) (by decide)).trans s12) ((f 17 (by decide) (by decide) (by decide)).trans s17) ((f 18 (by decide) (by decide) (by decide)).trans s18) t22 t19
end
end K
end S_N94x
section S_N94y
set_option linter.all false
set_option maxRecDepth 100000
/-! N94y: one row of the law, whole. -/
namespace K
open G T
section
variable {α β : Type} {wf n : Nat} {S Z : List Cell} {sl : List Sl} {top : Int} {v a b c : D} {X : Ctx}
theorem pool_app {T : List Cell} (h : PoolOk Z S) : PoolOk (Z ++ T) (S ++ T) := by
  obtain ⟨s, p, t, q, z, rfl, h1, h2⟩ := h
  exact ⟨s, p, t, q, z, rfl, h1, h2⟩
def dueD (p : List Ins) (row : List Int) : D := match relP p row with
  | some q => .tup (q.map insD)
  | none => .str s_order
def toldD (p : List Ins) (row : List Int) : D := match relP p row with
  | some q => .tup [.str s_told, .tup (q.map insD)]
  | none => .str s_order
def prmBody : List G.T := [.set 17 (.dps (.comp (.s 8) (.rng [(.v 5)]) (.tup [(.ix (.v 12) (.v 8)), (.v 8)]) [])), .setO 18 (.lst []), .set 19 (.k (.bl true)), .for_ (.s 8) (.rng [(.v 5)]) mkRow, .set 15 (.ite (.and [(.tr (.v 19)), (.tr (.cal 257 [(.blt .tuple [(.b 18)])]))]) (.blt .tuple [(.b 18)]) (.k (.str s_order)))]
theorem prs_pairs : ∀ {r : List Int} {k : Nat}, pairsK ((prs k r).map fun q => .tup [.int q.1, q.2]) = some (prs k r)
  | [], _ => rfl
  | x :: r, k => by
    rw [prs, List.map_cons]
    show (pairK _).bind _ = _
    rw [show pairK (.tup [.int x, .int k]) = some (x, .int k) from rfl]
    show (pairsK ((prs (k + 1) r).map fun q => .tup [.int q.1, q.2])).map _ = _
    rw [prs_pairs]
    rfl
theorem prs_map {r : List Int} : (prs 0 r).map (fun q => D.tup [.int q.1, q.2]) = (List.range r.length).map fun (k : Nat) => D.tup [.int (r.getD k 0), .int (k : Int)] := by
  have core : ∀ (r : List Int) (k : Nat), (prs k r).map (fun q => D.tup [.int q.1, q.2]) = (List.range r.length).map fun (i : Nat) => D.tup [.int (r.getD i 0), .int ((k + i : Nat) : Int)] := by
    intro r
    induction r with
    | nil => intro k; rfl
    | cons x r ih =>
      intro k
      rw [prs, List.map_cons, ih, List.length_cons, List.range_succ_eq_map, List.map_cons, List.map_map]
      simp [Function.comp_def]
      intro a _
      omega
  rw [core]
  simp
theorem fin_ins {i : Ins} : (insD i).fin = true ∧ (insD i).dep ≤ 2 := by
  cases i with
  | ans d => cases d <;> exact ⟨rfl, by simp [insD, decD]⟩
  | load w s j o => cases w <;> cases j <;> exact ⟨rfl, by simp [insD]⟩
  | spec s j => cases j <;> exact ⟨rfl, by simp [insD]⟩
  | _ => exact ⟨rfl, by simp [insD]⟩
theorem fin_insL : ∀ {q : List Ins}, D.finL (q.map insD) = true ∧ D.depL (q.map insD) ≤ 2
  | [] => ⟨rfl, by simp⟩
  | i :: q => by
    obtain ⟨h1, h2⟩ := fin_insL (q := q)
    obtain ⟨h3, h4⟩ := fin_ins (i := i)
    rw [List.map_cons, finL_cons, depL_cons, h1, h3]
    exact ⟨rfl, by omega⟩
theorem relP_some {p q : List Ins} {row : List Int} (h : relP p row = some q) : permB p.length row = true ∧ goodP p row = true ∧ progB (made p row) = true ∧ q = made p row := by
  unfold relP at h
  split at h
  · rename_i hh
    simp only [Bool.and_eq_true] at hh
    exact ⟨hh.1.1, hh.1.2, hh.2, (Option.some.inj h).symm⟩
  · cases h
theorem told_fin {p : List Ins} {row : List Int} (P : Prog p) : (toldD p row).fin = true ∧ (toldD p row).dep ≤ 4 := by
  unfold toldD
  cases h : relP p row with
  | none => exact ⟨rfl, by simp⟩
  | some q =>
    obtain ⟨h1, _, _, rfl⟩ := relP_some h
    obtain ⟨f1, f2⟩ := fin_insL (q := made p row)
    have := P.len
    have e := (perm_nd h1).1
    have := made_len (p := p) (row := row)
    refine ⟨?_, by simp; omega⟩
    have hf : (made p row).length ≤ flim := by
      have : flim = 1000000 := rfl
      omega
    simp [f1, hf, show (2 : Nat) ≤ flim by decide, show s_told.length ≤ flim by decide]
theorem wrapped {p : List Ins} {row : List Int} : ev wf (n + 1) 247 [dueD p row] S = .ok (toldD p row) S := by
  rw [show ev wf (n + 1) 247 [dueD p row] S = (evB (cx wf n) f_l_wrapped.body [.v (dueD p row)] S).out from rfl]
  unfold dueD toldD
  cases h : relP p row <;> simp [f_l_wrapped]
theorem prm_run {p : List Ins} {w : D} {row : List Int} (P : Prog p) (h : permB p.length row = true) (R : RS p w sl) (s12 : sl[12]? = some (.v (tI row))) :
    ∃ sl', evB (cx wf (n + 5)) prmBody sl S = .nx sl' (S ++ [.dki (prs 0 row)]) ∧ RS p w sl' ∧ sl'[12]? = some (.v (tI row)) ∧ sl'[15]? = some (.v (dueD p row)) := by
  obtain ⟨r1, r2, r3⟩ := perm_nd h
  have pl := P.len
  have hl := R.len
  have hc : compL (turn (cx wf (n + 5)) (.s 8) (.tup [(.ix (.v 12) (.v 8)), (.v 8)]) [] sl) (upto 0 p.length) S [] = .ok ((prs 0 row).map fun q => .tup [.int q.1, q.2]) S := by
    rw [upto_eq, compL_map (g := fun d => match d with | .int k => .tup [.int (row.getD k.toNat 0), .int k] | d => d) (fun d hd => ?_) (by simp [lim]; omega), prs_map, r1]
    · simp [Function.comp_def]
    · obtain ⟨k, hk, rfl⟩ := List.mem_map.mp hd
      have hk := List.mem_range.mp hk
      have ra := row_at (row := row) (k := k) (by omega)
      simp [turn, getset hl, s12, ix_tI, ra]
  have e1 : evS (cx wf (n + 5)) (.set 17 (.dps (.comp (.s 8) (.rng [(.v 5)]) (.tup [(.ix (.v 12) (.v 8)), (.v 8)]) []))) sl S = .nx (sl.set 17 (.v (.loc S.length))) (S ++ [.dki (prs 0 row)]) := by
    have dp := dpsR_lst (S := S) (prs_pairs (r := row) (k := 0))
    rw [merge_prs r3] at dp
    simp [R.s5, rngU (show p.length ≤ 1000 by omega), hc, dp]
  unfold prmBody
  rw [evB_cons, e1, nxt_nx, evB_cons, evS_setO]
  simp only [evE_lst, evL_nil, bind_ok, List.all_nil, if_true, fl_ok, flO_lst, nxt_nx]
  rw [evB_cons, evS_set, evE_k, fl_ok, nxt_nx, evB_cons, evS_for]
  have R1 : RS p w (((sl.set 17 (.v (.loc S.length))).set 18 (.own [])).set 19 (.v (.bl true))) := ((R.set (by decide)).set (by decide)).set (by decide)
  have M0 : MS p w row S 0 (((sl.set 17 (.v (.loc S.length))).set 18 (.own [])).set 19 (.v (.bl true))) := by
    refine ⟨R1, ?_, ?_, ?_, ?_⟩
    · rw [List.getElem?_set_ne (by decide), List.getElem?_set_ne (by decide), List.getElem?_set_ne (by decide)]; exact s12
    · rw [List.getElem?_set_ne (by decide), List.getElem?_set_ne (by decide), List.getElem?_set_self (by omega)]
    · rw [List.getElem?_set_ne (by decide), List.getElem?_set_self (by simp [hl])]; rfl
    · rw [List.getElem?_set_self (by simp [hl])]; rfl
  generalize (((sl.set 17 (.v (.loc S.length))).set 18 (.own [])).set 19 (.v (.bl true))) = sx at R1 M0
  have er : evI (cx wf (n + 5)) (.rng [.v 5]) sx (S ++ [.dki (prs 0 row)]) = .ok (upto ((0 : Nat) : Int) p.length) (S ++ [.dki (prs 0 row)]) := by
    simp [R1.s5, rngU (show p.length ≤ 1000 by omega)]
  rw [er, fl_ok]
  have lp := for_rng (S := S ++ [.dki (prs 0 row)]) (f := turnS (cx wf (n + 5)) (.s 8) mkRow) (c := 0) (x := .non) (MS p w row S) (fun _ => true) p.length 0 sx M0 (fun j sl z1 z2 z3 => by
    rw [if_pos rfl]
    exact mk_turn (n := n + 4) P h (by omega) z3)
  have al : (List.range' 0 p.length).all (fun _ => true) = true := List.all_eq_true.mpr fun _ _ => rfl
  rw [al, if_pos rfl] at lp
  obtain ⟨sl', e, M⟩ := lp
  rw [e, nxt_nx]
  rw [Nat.zero_add] at M
  have tk : (made p row).take p.length = made p row := List.take_of_length_le (by rw [made_len]; omega)
  have s18 := M.s18
  rw [tk] at s18
  have s19 := M.s19
  have np := n_lprog (wf := wf) (n := n) (S := S ++ [.dki (prs 0 row)]) (made_val P h) (by rw [made_len]; omega)
  refine ⟨sl'.set 15 (.v (dueD p row)), ?_, M.r.set (by decide), ?_, ?_⟩
  · have ev : evE (cx wf (n + 5)) (.ite (.and [(.tr (.v 19)), (.tr (.cal 257 [(.blt .tuple [(.b 18)])]))]) (.blt .tuple [(.b 18)]) (.k (.str s_order))) sl' (S ++ [.dki (prs 0 row)]) = .ok (dueD p row) (S ++ [.dki (prs 0 row)]) := by
      unfold dueD relP
      rw [h]
      have gg : goodTo p row p.length = goodP p row := rfl
      rw [gg] at s19
      cases hg : goodP p row with
      | false =>
        rw [hg] at s19
        simp [s19]
      | true =>
        rw [hg] at s19
        cases hq : progB (made p row) with
        | false =>
          rw [hq] at np
          simp [s19, s18, np]
        | true =>
          rw [hq] at np
          simp [s19, s18, np]
    rw [evB_cons, evS_set, ev, fl_ok, nxt_nx, evB_nil]
  · rw [List.getElem?_set_ne (by decide)]
    exact M.s12
  · rw [List.getElem?_set_self (by have := M.r.len; omega)]
def rowBody : List G.T := [.set 15 (.k (.str s_order)), .ife (.tr (.cmp .eq (.blt .sorted [(.v 12)]) (.rgx false [(.v 5)]))) prmBody [], .set 16 (.cal 264 [(.v 4), (.v 12)]), .ife (.not (.tr (.cal 27 [(.v 16), (.cal 247 [(.v 15)])]))) [.ret (.k (.bl false))] [], .set 16 (.ite (.tr (.blt (.isa .str) [(.v 16)])) (.v 16) (.ix (.v 16) (.k (.int 1)))), .ife (.and [(.not (.tr (.blt (.isa .str) [(.v 16)]))), (.tr (.cmp .eq (.ix (.v 12) (.k (.int 0))) (.k (.int 0))))]) [.unp (.t [(.s 23), (.s 24)]) (.cal 263 [(.v 1), (.v 2)]), .set 20 (.cal 262 [(.v 4), (.v 23), (.v 24)]), .set 21 (.cal 262 [(.v 16), (.v 23), (.v 24)]), .ife (.or [(.tr (.cmp .ne (.sl (.v 20) none (some (.k (.int 2)))) (.sl (.v 21) none (some (.k (.int 2)))))), (.and [(.tr (.cmp .eq (.ix (.v 20) (.k (.int 0))) (.k (.str s_answer)))), (.tr (.cmp .ne (.ix (.v 20) (.k (.int 2))) (.ix (.v 21) (.k (.int 2)))))])]) [.ret (.k (.bl false))] []] []]
theorem cutTo2 {x y z : D} : pSl (.tup [x, y, z]) none (some 2) = some (.tup [x, y]) := rfl
theorem row_turn {p : List Ins} {w : D} {row : List Int} (P : Prog p) (hw : wrld w) (R : RS p w sl) (hl : row.length ≤ 300) (h : PoolOk Z S) (h50 : 50 ≤ wf) :
    ∃ sl' S' Z', turnS (cx wf (n + 7)) (.s 12) rowBody (tI row) sl S = .nx sl' S' ∧ RS p w sl' ∧ PoolOk Z' S' := by
  unfold turnS
  rw [tgSet_s]
  dsimp only
  have pl := P.len
  -- the due
  have due : ∃ sl' T, evB (cx wf (n + 7)) (rowBody.take 2) (sl.set 12 (.v (tI row))) S = .nx sl' (S ++ T) ∧ RS p w sl' ∧ sl'[12]? = some (.v (tI row)) ∧ sl'[15]? = some (.v (dueD p row)) := by
    have R1 : RS p w ((sl.set 12 (.v (tI row))).set 15 (.v (.str s_order))) := (R.set (by decide)).set (by decide)
    have s12 : ((sl.set 12 (.v (tI row))).set 15 (.v (.str s_order)))[12]? = some (.v (tI row)) := by
      rw [List.getElem?_set_ne (by decide), List.getElem?_set_self (by have := R.len; omega)]
    have s15 : ((sl.set 12 (.v (tI row))).set 15 (.v (.str s_order)))[15]? = some (.v (.str s_order)) := List.getElem?_set_self (by have := R.len; simp; omega)
    rw [show rowBody.take 2 = [.set 15 (.k (.str s_order)), .ife (.tr (.cmp .eq (.blt .sorted [(.v 12)]) (.rgx false [(.v 5)]))) prmBody []] from rfl, evB_cons, evS_set, evE_k, fl_ok, nxt_nx, evB_cons, evS_ife]
    generalize ((sl.set 12 (.v (tI row))).set 15 (.v (.str s_order))) = sx at R1 s12 s15
    have ec : evT (cx wf (n + 7)) (.tr (.cmp .eq (.blt .sorted [(.v 12)]) (.rgx false [(.v 5)]))) sx S = .ok (permB p.length row) S := by
      have e1 : decide (srtI row = rangeI p.length) = permB p.length row := by
        rw [Bool.eq_iff_iff, decide_eq_true_eq]
        exact sorted_perm
      have e2 := eq_lI (xs := srtI row) (ys := rangeI p.length)
      have dr1 : ∀ xs : List Int, dr S (lI xs) = lI xs := fun _ => rfl
      have rx := rgxI (m := p.length) (t := false) (by omega)
      simp only [Bool.false_eq_true, if_false] at rx
      simp [s12, R1.s5, srt_tI (show row.length ≤ 1000 by omega), rx, dr1, e2, e1]
    rw [ec, fl_ok]
    cases hp : permB p.length row with
    | false =>
      refine ⟨sx, [], by simp, R1, s12, ?_⟩
      rw [s15]
      unfold dueD relP
      simp [hp]
    | true =>
      obtain ⟨sl', e, R2, t12, t15⟩ := prm_run (wf := wf) (n := n + 2) (S := S) P hp R1 s12
      exact ⟨sl', _, by rw [if_pos rfl, e, nxt_nx, evB_nil], R2, t12, t15⟩
  obtain ⟨sl1, T1, e1, R1, s12, s15⟩ := due
  rw [show rowBody = rowBody.take 2 ++ rowBody.drop 2 from rfl, cutB, e1, nxt_nx]
  have h1 : PoolOk (Z ++ T1) (S ++ T1) := pool_app h
  obtain ⟨T2, e2⟩ := l_told (wf := wf) (n := n) (S := S ++ T1) (row := row) P hl
  have e2 : ev wf (n + 7) 264 [.tup (p.map insD), tI row] (S ++ T1) = .ok (toldD p row) (S ++ T1 ++ T2) := e2
  have h2 : PoolOk (Z ++ T1 ++ T2) (S ++ T1 ++ T2) := pool_app h1
  rw [show rowBody.drop 2 = .set 16 (.cal 264 [(.v 4), (.v 12)]) :: rowBody.drop 3 from rfl, evB_cons]
  have e3 : evS (cx wf (n + 7)) (.set 16 (.cal 264 [(.v 4), (.v 12)])) sl1 (S ++ T1) = .nx (sl1.set 16 (.v (toldD p row))) (S ++ T1 ++ T2) := by
    simp only [evS_set, evE_cal, evL_cons, evL_nil, evE_v, R1.s4, s12, slV_v, bind_ok, call_cx, e2, fl_ok]
  rw [e3, nxt_nx]
  have R2 : RS p w (sl1.set 16 (.v (toldD p row))) := R1.set (by decide)
  have t12 : (sl1.set 16 (.v (toldD p row)))[12]? = some (.v (tI row)) := by
    rw [List.getElem?_set_ne (by decide)]
    exact s12
  have t15 : (sl1.set 16 (.v (toldD p row)))[15]? = some (.v (dueD p row)) := by
    rw [List.getElem?_set_ne (by decide)]
    exact s15
  have t16 : (sl1.set 16 (.v (toldD p row)))[16]? = some (.v (toldD p row)) := List.getElem?_set_self (by have := R1.len; omega)
  generalize sl1.set 16 (.v (toldD p row)) = sl2 at R2 t12 t15 t16
  generalize S ++ T1 ++ T2 = S2 at h2
  generalize Z ++ T1 ++ T2 = Z2 at h2
  obtain ⟨tf, td⟩ := told_fin (row := row) P
  have sm := same_refl (wf := wf) (n := n + 2) (S := S2) 4 (toldD p row) tf td
  have wr := wrapped (wf := wf) (n := n + 6) (S := S2) (p := p) (row := row)
  have e4 : evT (cx wf (n + 7)) (.not (.tr (.cal 27 [(.v 16), (.cal 247 [(.v 15)])]))) sl2 S2 = .ok false S2 := by
    simp only [evT_not, evT_tr, evE_cal, evL_cons, evL_nil, evE_v, t16, t15, slV_v, bind_ok, call_cx, wr, sm, dr_bl, tru_bl, of_some, Bool.not_true]
  rw [show rowBody.drop 3 = .ife (.not (.tr (.cal 27 [(.v 16), (.cal 247 [(.v 15)])]))) [.ret (.k (.bl false))] [] :: rowBody.drop 4 from rfl, evB_cons, evS_ife, e4, fl_ok, if_neg (by decide), evB_nil, nxt_nx]
  rw [show rowBody.drop 4 = .set 16 (.ite (.tr (.blt (.isa .str) [(.v 16)])) (.v 16) (.ix (.v 16) (.k (.int 1)))) :: rowBody.drop 5 from rfl, evB_cons]
  have e5 : evS (cx wf (n + 7)) (.set 16 (.ite (.tr (.blt (.isa .str) [(.v 16)])) (.v 16) (.ix (.v 16) (.k (.int 1))))) sl2 S2 = .nx (sl2.set 16 (.v (dueD p row))) S2 := by
    unfold toldD at t16
    unfold dueD
    cases hr : relP p row with
    | none =>
      rw [hr] at t16
      simp [t16]
    | some q =>
      rw [hr] at t16
      simp [t16]
  rw [e5, nxt_nx]
  have R3 : RS p w (sl2.set 16 (.v (dueD p row))) := R2.set (by decide)
  have u12 : (sl2.set 16 (.v (dueD p row)))[12]? = some (.v (tI row)) := by
    rw [List.getElem?_set_ne (by decide)]
    exact t12
  have u16 : (sl2.set 16 (.v (dueD p row)))[16]? = some (.v (dueD p row)) := List.getElem?_set_self (by have := R2.len; omega)
  generalize sl2.set 16 (.v (dueD p row)) = sl3 at R3 u12 u16
  unfold dueD at u16
  have tail : rowBody.drop 5 = [.ife (.and [(.not (.tr (.blt (.isa .str) [(.v 16)]))), (.tr (.cmp .eq (.ix (.v 12) (.k (.int 0))) (.k (.int 0))))]) [.unp (.t [(.s 23), (.s 24)]) (.cal 263 [(.v 1), (.v 2)]), .set 20 (.cal 262 [(.v 4), (.v 23), (.v 24)]), .set 21 (.cal 262 [(.v 16), (.v 23), (.v 24)]), .ife (.or [(.tr (.cmp .ne (.sl (.v 20) none (some (.k (.int 2)))) (.sl (.v 21) none (some (.k (.int 2)))))), (.and [(.tr (.cmp .eq (.ix (.v 20) (.k (.int 0))) (.k (.str s_answer)))), (.tr (.cmp .ne (.ix (.v 20) (.k (.int 2))) (.ix (.v 21) (.k (.int 2)))))])]) [.ret (.k (.bl false))] []] []] := rfl
  rw [tail, evB_cons, evS_ife]
  cases hr : relP p row with
  | none =>
    rw [hr] at u16
    have ec : evT (cx wf (n + 7)) (.and [(.not (.tr (.blt (.isa .str) [(.v 16)]))), (.tr (.cmp .eq (.ix (.v 12) (.k (.int 0))) (.k (.int 0))))]) sl3 S2 = .ok false S2 := by
      simp [u16]
    rw [ec, fl_ok, if_neg (by decide), evB_nil, nxt_nx, evB_nil]
    exact ⟨_, _, _, rfl, R3, h2⟩
  | some q =>
    rw [hr] at u16
    obtain ⟨hp, hg, hq, rfl⟩ := relP_some hr
    obtain ⟨r1, r2, r3⟩ := perm_nd hp
    have one := P.one
    have ra := row_at (row := row) (k := 0) (by omega)
    have ec : evT (cx wf (n + 7)) (.and [(.not (.tr (.blt (.isa .str) [(.v 16)]))), (.tr (.cmp .eq (.ix (.v 12) (.k (.int 0))) (.k (.int 0))))]) sl3 S2 = .ok (decide (row.getD 0 0 = 0)) S2 := by
      simp only [Int.cast_ofNat_Int] at ra
      have ra : atI (row.map D.int) 0 = some (.int (row.getD 0 0)) := ra
      by_cases hz : row.getD 0 0 = 0
      · rw [hz] at ra
        simp only [hz, decide_true]
        simp [-atI_0, u16, u12, ix_tI, ra]
      · simp only [hz, decide_false]
        generalize row.getD 0 0 = y at ra hz
        simp [-atI_0, u16, u12, ix_tI, ra, hz]
    rw [ec, fl_ok]
    by_cases hz : row.getD 0 0 = 0
    · rw [if_pos (decide_eq_true hz)]
      obtain ⟨x, S3, e6, h3, s, d, k, r, mo, inn, pay, vw, rfl, B, lv⟩ := d_ps (wf := wf) (n := n + 1) h2 hw
      rw [evB_cons, evS_unp]
      have e7 : evE (cx wf (n + 7)) (.cal 263 [.v 1, .v 2]) sl3 S2 = .ok (.tup [pkD s d k r mo inn pay, tI vw]) S3 := by
        simp only [evE_cal, evL_cons, evL_nil, evE_v, R3.s1, R3.s2, slV_v, bind_ok, call_cx, e6]
      rw [e7, fl_ok, tgSet_t, tgSetL_cons, tgSet_s, Option.bind_some, tgSetL_cons, tgSet_s, Option.bind_some, tgSetL_nil, flOf_some, nxt_nx]
      have A := alike P hp hg
      have z0 : row.idxOf ((0 : Nat) : Int) = 0 := by
        have hm := perm_all hp 0 (by omega) (by omega)
        have h0 : 0 < row.length := by omega
        rw [List.getD_eq_getElem?_getD, List.getElem?_eq_getElem h0] at hz
        have hz : row[0] = 0 := hz
        have hlt := List.idxOf_lt_length_of_mem hm
        have := List.getElem_idxOf hlt
        exact (List.getElem_inj r3).mp (show row[row.idxOf ((0 : Nat) : Int)] = row[0] from by rw [hz]; exact this)
      obtain ⟨dP, dQ, m1, m2, m3⟩ := l_run2 (wf := wf) (n := n + 2) (S := S3) A z0 (by omega) (by omega) (vw := vw) B lv h50
      have R4 : RS p w ((sl3.set 23 (.v (pkD s d k r mo inn pay))).set 24 (.v (tI vw))) := (R3.set (by decide)).set (by decide)
      have v23 : ((sl3.set 23 (.v (pkD s d k r mo inn pay))).set 24 (.v (tI vw)))[23]? = some (.v (pkD s d k r mo inn pay)) := by
        rw [List.getElem?_set_ne (by decide), List.getElem?_set_self (by have := R3.len; omega)]
      have v24 : ((sl3.set 23 (.v (pkD s d k r mo inn pay))).set 24 (.v (tI vw)))[24]? = some (.v (tI vw)) := List.getElem?_set_self (by have := R3.len; simp; omega)
      have v16 : ((sl3.set 23 (.v (pkD s d k r mo inn pay))).set 24 (.v (tI vw)))[16]? = some (.v (.tup ((made p row).map insD))) := by
        rw [List.getElem?_set_ne (by decide), List.getElem?_set_ne (by decide)]
        exact u16
      generalize ((sl3.set 23 (.v (pkD s d k r mo inn pay))).set 24 (.v (tI vw))) = sl4 at R4 v23 v24 v16
      have e8 : evS (cx wf (n + 7)) (.set 20 (.cal 262 [(.v 4), (.v 23), (.v 24)])) sl4 S3 = .nx (sl4.set 20 (.v dP)) S3 := by
        simp only [evS_set, evE_cal, evL_cons, evL_nil, evE_v, R4.s4, v23, v24, slV_v, bind_ok, call_cx, m1, fl_ok]
      have e9 : evS (cx wf (n + 7)) (.set 21 (.cal 262 [(.v 16), (.v 23), (.v 24)])) (sl4.set 20 (.v dP)) S3 = .nx ((sl4.set 20 (.v dP)).set 21 (.v dQ)) S3 := by
        simp only [evS_set, evE_cal, evL_cons, evL_nil, evE_v, List.getElem?_set_ne (show (20 : Nat) ≠ 16 by decide), List.getElem?_set_ne (show (20 : Nat) ≠ 23 by decide), List.getElem?_set_ne (show (20 : Nat) ≠ 24 by decide), v16, v23, v24, slV_v, bind_ok, call_cx, m2, fl_ok]
      rw [evB_cons, e8, nxt_nx, evB_cons, e9, nxt_nx, evB_cons, evS_ife]
      have R5 : RS p w ((sl4.set 20 (.v dP)).set 21 (.v dQ)) := (R4.set (by decide)).set (by decide)
      have w20 : ((sl4.set 20 (.v dP)).set 21 (.v dQ))[20]? = some (.v dP) := by
        rw [List.getElem?_set_ne (by decide), List.getElem?_set_self (by have := R4.len; omega)]
      have w21 : ((sl4.set 20 (.v dP)).set 21 (.v dQ))[21]? = some (.v dQ) := List.getElem?_set_self (by have := R4.len; simp; omega)
      generalize ((sl4.set 20 (.v dP)).set 21 (.v dQ)) = sl5 at R5 w20 w21
      have ef : evT (cx wf (n + 7)) (.or [(.tr (.cmp .ne (.sl (.v 20) none (some (.k (.int 2)))) (.sl (.v 21) none (some (.k (.int 2)))))), (.and [(.tr (.cmp .eq (.ix (.v 20) (.k (.int 0))) (.k (.str s_answer)))), (.tr (.cmp .ne (.ix (.v 20) (.k (.int 2))) (.ix (.v 21) (.k (.int 2)))))])]) sl5 S3 = .ok false S3 := by
        rcases m3 with ⟨dd, t, rfl, rfl, x1, x2, x3⟩ | ⟨kk, x, y, rfl, rfl⟩
        · have q : pCmp .ne (.tup [.str s_answer, dd]) (.tup [.str s_answer, dd]) = some false := by
            rw [cmp_ne_d rfl rfl (by simp; omega)]
            simp [x3]
          simp [w20, w21, cutTo2, q]
        · have q : pCmp .ne (.tup [.str s_harm, .str kk]) (.tup [.str s_harm, .str kk]) = some false := by
            rw [cmp_ne_d rfl rfl (by simp)]
            simp
          simp [w20, w21, harmD, cutTo2, q]
      rw [ef, fl_ok, if_neg (by decide), evB_nil, nxt_nx, evB_nil, nxt_nx, evB_nil]
      exact ⟨_, _, _, rfl, R5, h3⟩
    · rw [if_neg (by simpa using hz), evB_nil, nxt_nx, evB_nil]
      exact ⟨_, _, _, rfl, R3, h2⟩
end
end K
end S_N94y
section S_N94z
set_option linter.all false
set_option maxRecDepth 100000
/-! N94z: groups, orders, the law. -/
namespace K
open G T
section
variable {α β : Type} {wf n : Nat} {S Z : List Cell} {sl : List Sl} {top : Int} {v a b c : D} {X : Ctx}
theorem lp_for {f : D → List Sl → List Cell → Fl} (I : Nat → List Sl → List Cell → Prop) : ∀ (ds : List D) (k : Nat) (sl : List Sl) (S : List Cell), I k sl S → (∀ (j : Nat) d sl S, ds[j]? = some d → I (k + j) sl S → ∃ sl' S', f d sl S = .nx sl' S' ∧ I (k + j + 1) sl' S') → ∃ sl' S', forL f ds sl S = .nx sl' S' ∧ I (k + ds.length) sl' S'
  | [], k, sl, S, hI, _ => ⟨sl, S, rfl, hI⟩
  | d :: ds, k, sl, S, hI, h => by
    obtain ⟨sl', S', e, h1⟩ := h 0 d sl S rfl hI
    obtain ⟨sl2, S2, e2, h2⟩ := lp_for I ds (k + 1) sl' S' h1 fun j d' sl S z1 z2 => by
      rw [show k + 1 + j = k + (j + 1) from by omega] at z2 ⊢
      exact h (j + 1) d' sl S (by simpa using z1) z2
    refine ⟨sl2, S2, by rw [forL, e]; exact e2, ?_⟩
    rw [show k + (d :: ds).length = k + 1 + ds.length from by rw [List.length_cons]; omega]
    exact h2
/-! the groups -/
def gcell (ls : List (List Int)) : List Cell := ls.map fun l => .lst (l.map .int)
def gloc (g : Nat) (js : List Nat) : List D := js.map fun j => .loc (g + 1 + j)
def GS (S0 : List Cell) (js : List Nat) (ls : List (List Int)) : List Cell := S0 ++ .lsx (gloc S0.length js) :: gcell ls
theorem gs_at {S0 : List Cell} {js : List Nat} {ls : List (List Int)} : (GS S0 js ls)[S0.length]? = some (.lsx (gloc S0.length js)) := by
  unfold GS
  simp
theorem gs_cell {S0 : List Cell} {js : List Nat} {ls : List (List Int)} {j : Nat} (h : j < ls.length) : (GS S0 js ls)[S0.length + 1 + j]? = some (.lst (ls[j].map .int)) := by
  unfold GS gcell
  rw [List.getElem?_append_right (by omega), show S0.length + 1 + j - S0.length = j + 1 from by omega, List.getElem?_cons_succ, List.getElem?_map, List.getElem?_eq_getElem h]
  rfl
theorem gs_set0 {S0 T : List Cell} {js : List Nat} {ls : List (List Int)} {xs : List D} : (GS S0 js ls ++ T).set S0.length (.lsx xs) = S0 ++ .lsx xs :: (gcell ls ++ T) := by
  unfold GS
  rw [List.append_assoc, List.set_append, if_neg (by omega), Nat.sub_self]
  rfl
theorem gs_setc {S0 : List Cell} {js : List Nat} {ls : List (List Int)} {j : Nat} {l : List Int} : (GS S0 js ls).set (S0.length + 1 + j) (.lst (l.map .int)) = GS S0 js (ls.set j l) := by
  unfold GS gcell
  rw [List.set_append, if_neg (by omega), show S0.length + 1 + j - S0.length = j + 1 from by omega, List.set_cons_succ, List.map_set]
/-- the groups hold places -/
structure GB (p : List Ins) (w : D) (S0 : List Cell) (k : Nat) (js : List Nat) (ls : List (List Int)) (sl : List Sl) : Prop where
  r : RS p w sl
  s6 : sl[6]? = some (.v (.loc S0.length))
  j : ∀ j ∈ js, j < ls.length
  jl : js.length ≤ k
  ne : 0 < k → js ≠ []
  l : ∀ l ∈ ls, l.length ≤ k
def grBody : List G.T := [.ife (.and [(.tr (.cmp .gt (.v 7) (.k (.int 0)))), (.tr (.cmp .notin (.ix (.ix (.v 4) (.bin .sub (.v 7) (.k (.int 1)))) (.k (.int 0))) (.tup [(.k (.str s_less)), (.k (.str s_answer))])))]) [.appx (.ixx (.v 6) (.neg (.k (.int 1)))) (.v 7)] [.appx (.v 6) (.mk [(.v 7)])]]
theorem gr_turn {p : List Ins} {w : D} {S0 : List Cell} {k : Nat} {js : List Nat} {ls : List (List Int)} (hk : k < p.length) (hp : p.length ≤ 12) (B : GB p w S0 k js ls sl) :
    ∃ sl' js' ls', turnS (cx wf (n + 1)) (.s 7) grBody (.int k) sl (GS S0 js ls) = .nx sl' (GS S0 js' ls') ∧ GB p w S0 (k + 1) js' ls' sl' := by
  unfold turnS
  rw [tgSet_s]
  dsimp only
  have hl := B.r.len
  have R1 : RS p w (sl.set 7 (.v (.int k))) := B.r.set (by decide)
  have s6 : (sl.set 7 (.v (.int k)))[6]? = some (.v (.loc S0.length)) := by
    rw [List.getElem?_set_ne (by decide)]
    exact B.s6
  have s7 : (sl.set 7 (.v (.int k)))[7]? = some (.v (.int k)) := List.getElem?_set_self (by omega)
  generalize sl.set 7 (.v (.int k)) = sx at R1 s6 s7
  unfold grBody
  rw [evB_cons, evS_ife]
  have fresh : ∃ sl' js' ls', evB (cx wf (n + 1)) [.appx (.v 6) (.mk [(.v 7)])] sx (GS S0 js ls) = .nx sl' (GS S0 js' ls') ∧ GB p w S0 (k + 1) js' ls' sl' := by
    refine ⟨sx, js ++ [ls.length], ls ++ [[(k : Int)]], ?_, R1, s6, fun j hj => ?_, by rw [List.length_append, List.length_singleton]; have := B.jl; omega, fun _ => by simp, fun l hl => ?_⟩
    · have il : isLoc (GS S0 js ls) (.loc S0.length) = true := by
        simp [isLoc, gs_at]
      have gl : (GS S0 js ls).length = S0.length + 1 + ls.length := by
        unfold GS gcell
        simp
        omega
      have jl := B.jl
      have lm : (gloc S0.length js).length < lim := by
        unfold gloc
        rw [List.length_map]
        have : lim = 16777216 := rfl
        omega
      have at2 : (GS S0 js ls ++ [Cell.lst [D.int k]])[S0.length]? = some (.lsx (gloc S0.length js)) := by
        rw [List.getElem?_append_left (by rw [gl]; omega), gs_at]
      have st : (GS S0 js ls ++ [Cell.lst [D.int k]]).set S0.length (.lsx (gloc S0.length js ++ [D.loc (GS S0 js ls).length])) = GS S0 (js ++ [ls.length]) (ls ++ [[(k : Int)]]) := by
        rw [gs_set0, gl]
        unfold GS gloc gcell
        simp
      simp [s6, s7, il, chgx, at2, lm, st]
    · rcases List.mem_append.mp hj with hj | hj
      · have := B.j j hj
        rw [List.length_append]
        omega
      · rw [List.mem_singleton.mp hj]
        simp
    · rcases List.mem_append.mp hl with hl | hl
      · have := B.l l hl
        omega
      · rw [List.mem_singleton.mp hl]
        simp
  by_cases hk0 : 0 < k
  · have ai := at_ins (p := p) (k := k - 1) (by omega)
    rw [show ((k - 1 : Nat) : Int) = (k : Int) - 1 from by omega] at ai
    have ec : evT (cx wf (n + 1)) (.and [(.tr (.cmp .gt (.v 7) (.k (.int 0)))), (.tr (.cmp .notin (.ix (.ix (.v 4) (.bin .sub (.v 7) (.k (.int 1)))) (.k (.int 0))) (.tup [(.k (.str s_less)), (.k (.str s_answer))])))]) sx (GS S0 js ls) = .ok (goes (insAt p (k - 1))) (GS S0 js ls) := by
      have hk1 : (0 : Int) < k := by omega
      have hk2 : ¬ k = 0 := by omega
      generalize insAt p (k - 1) = i at ai
      cases i with
      | load w s j o => cases w <;> simp [s7, R1.s4, hk1, hk2, ai, insD, goes]
      | _ => simp [s7, R1.s4, hk1, hk2, ai, insD, goes]
    rw [ec, fl_ok]
    cases goes (insAt p (k - 1)) with
    | false =>
      rw [if_neg (by decide)]
      obtain ⟨sl', js', ls', e, h⟩ := fresh
      exact ⟨sl', js', ls', by rw [e, nxt_nx, evB_nil], h⟩
    | true =>
      rw [if_pos rfl]
      obtain ⟨jl, jx, ej⟩ : ∃ (a : List Nat) (b : Nat), js = a ++ [b] := by
        rcases List.eq_nil_or_concat js with e | ⟨a, b, e⟩
        · exact absurd e (B.ne hk0)
        · exact ⟨a, b, by rw [e, List.concat_eq_append]⟩
      have hj : jx < ls.length := B.j jx (by rw [ej]; simp)
      have al : atI (gloc S0.length js) (-1) = some (.loc (S0.length + 1 + jx)) := by
        rw [ej]
        unfold gloc
        rw [List.map_append]
        exact atI_m1
      have ci : cellIx (GS S0 js ls) (.loc S0.length) (.int (-1)) = some (.loc (S0.length + 1 + jx)) := by
        unfold cellIx
        dsimp only
        rw [gs_at]
        exact al
      have gc := gs_cell (S0 := S0) (js := js) hj
      have il : isLoc (GS S0 js ls) (.loc (S0.length + 1 + jx)) = true := by
        simp [isLoc, gc]
      have lb := B.l _ (List.getElem_mem hj)
      have lm : (ls[jx].map D.int).length < lim := by
        rw [List.length_map]
        have : lim = 16777216 := rfl
        omega
      have st := gs_setc (S0 := S0) (js := js) (ls := ls) (j := jx) (l := ls[jx] ++ [(k : Int)])
      refine ⟨sx, js, ls.set jx (ls[jx] ++ [(k : Int)]), ?_, R1, s6, fun j hj => by rw [List.length_set]; exact B.j j hj, by have := B.jl; omega, fun _ => B.ne hk0, fun l hl => ?_⟩
      · rw [← st]
        have ap : (ls[jx].map D.int ++ [D.int (k : Int)]).all D.pur = true := by
          simp
        have em : (ls[jx] ++ [(k : Int)]).map D.int = ls[jx].map D.int ++ [D.int (k : Int)] := by simp
        rw [em]
        have ch : chgx (fun xs => if xs.length < lim then some (xs ++ [D.int (k : Int)]) else none) sx (GS S0 js ls) (.loc (S0.length + 1 + jx)) = .nx sx ((GS S0 js ls).set (S0.length + 1 + jx) (.lst (ls[jx].map D.int ++ [D.int (k : Int)]))) := by
          unfold chgx
          simp only [gc, if_pos lm, if_pos ap]
        simp [s6, s7, ci, il, ch]
      · rcases List.mem_or_eq_of_mem_set hl with hl | rfl
        · have := B.l l hl
          omega
        · rw [List.length_append, List.length_singleton]
          omega
  · have k0 : k = 0 := by omega
    have ec : evT (cx wf (n + 1)) (.and [(.tr (.cmp .gt (.v 7) (.k (.int 0)))), (.tr (.cmp .notin (.ix (.ix (.v 4) (.bin .sub (.v 7) (.k (.int 1)))) (.k (.int 0))) (.tup [(.k (.str s_less)), (.k (.str s_answer))])))]) sx (GS S0 js ls) = .ok false (GS S0 js ls) := by
      rw [k0] at s7
      simp [s7]
    rw [ec, fl_ok, if_neg (by decide)]
    obtain ⟨sl', js', ls', e, h⟩ := fresh
    exact ⟨sl', js', ls', by rw [e, nxt_nx, evB_nil], h⟩
/-! the groups, in another order -/
def swBody : List G.T := [.set 13 (.ite (.tr (.cmp .gt (.v 8) (.k (.int 0)))) (.bin .add (.bin .add (.k (.int 1)) (.v 8)) (.cal 31 [(.v 1), (.bin .sub (.bin .sub (.lenx (.v 6)) (.k (.int 1))) (.v 8))])) (.k (.int 0))), .set 14 (.ixx (.v 6) (.v 8)), .subx (.v 6) (.v 8) (.ixx (.v 6) (.v 13)), .subx (.v 6) (.v 13) (.v 14)]
theorem gs_len {S0 : List Cell} {js : List Nat} {ls : List (List Int)} : cellLen (GS S0 js ls) (.loc S0.length) = some (.int js.length) := by
  simp [cellLen, gs_at, gloc]
theorem gs_ix {S0 : List Cell} {js : List Nat} {ls : List (List Int)} {i : Nat} (h : i < js.length) : cellIx (GS S0 js ls) (.loc S0.length) (.int i) = some (.loc (S0.length + 1 + js[i])) := by
  simp only [cellIx, gs_at]
  rw [atI_nat]
  unfold gloc
  rw [List.getElem?_map, List.getElem?_eq_getElem h]
  rfl
theorem gs_sub {S0 : List Cell} {js : List Nat} {ls : List (List Int)} {i j : Nat} (h : i < js.length) : chgx (fun xs => (ixN xs.length (i : Int)).map fun k => xs.set k (.loc (S0.length + 1 + j))) sl (GS S0 js ls) (.loc S0.length) = .nx sl (GS S0 (js.set i j) ls) := by
  have hi : ixN (gloc S0.length js).length (i : Int) = some i := ixN_nat (by unfold gloc; rw [List.length_map]; exact h)
  have st : (GS S0 js ls).set S0.length (.lsx ((gloc S0.length js).set i (.loc (S0.length + 1 + j)))) = GS S0 (js.set i j) ls := by
    have := gs_set0 (S0 := S0) (T := []) (js := js) (ls := ls) (xs := (gloc S0.length js).set i (.loc (S0.length + 1 + j)))
    rw [List.append_nil, List.append_nil] at this
    rw [this]
    unfold GS gloc
    rw [List.map_set]
  simp only [chgx, gs_at, hi, Option.map_some]
  rw [st]
theorem pool_len (h : PoolOk Z S) : S.length = Z.length + 1 := by
  obtain ⟨s, p, t, q, z, rfl, h1, h2⟩ := h
  rfl
theorem pool_cut {T : List Cell} (h : PoolOk (Z ++ T) S) : ∃ S0, S = S0 ++ T ∧ PoolOk Z S0 := by
  obtain ⟨s, p, t, q, z, rfl, h1, h2⟩ := h
  exact ⟨pool Z s p t q z, rfl, s, p, t, q, z, rfl, h1, h2⟩
theorem sw_turn {p : List Ins} {w : D} {S0 : List Cell} {k m : Nat} {js : List Nat} {ls : List (List Int)} (h : PoolOk Z S0) (hm : m + 1 < js.length) (hk : js.length ≤ 12) (B : GB p w S0 k js ls sl) :
    ∃ sl' S1 js', turnS (cx wf (n + 2)) (.s 8) swBody (.int m) sl (GS S0 js ls) = .nx sl' (GS S1 js' ls) ∧ PoolOk Z S1 ∧ js'.length = js.length ∧ GB p w S1 k js' ls sl' := by
  unfold turnS
  rw [tgSet_s]
  dsimp only
  have hl := B.r.len
  have R1 : RS p w (sl.set 8 (.v (.int m))) := B.r.set (by decide)
  have s6 : (sl.set 8 (.v (.int m)))[6]? = some (.v (.loc S0.length)) := by
    rw [List.getElem?_set_ne (by decide)]
    exact B.s6
  have s8 : (sl.set 8 (.v (.int m)))[8]? = some (.v (.int m)) := List.getElem?_set_self (by omega)
  generalize sl.set 8 (.v (.int m)) = sx at R1 s6 s8
  -- the other place
  have ej : ∃ (j : Nat) (S1 : List Cell), evE (cx wf (n + 2)) (.ite (.tr (.cmp .gt (.v 8) (.k (.int 0)))) (.bin .add (.bin .add (.k (.int 1)) (.v 8)) (.cal 31 [(.v 1), (.bin .sub (.bin .sub (.lenx (.v 6)) (.k (.int 1))) (.v 8))])) (.k (.int 0))) sx (GS S0 js ls) = .ok (.int (j : Int)) (GS S1 js ls) ∧ PoolOk Z S1 ∧ j < js.length := by
    by_cases h0 : 0 < m
    · have hp : PoolOk (Z ++ .lsx (gloc S0.length js) :: gcell ls) (GS S0 js ls) := pool_app h
      obtain ⟨x, S', e, hS, r, rfl, r0, r1⟩ := d_draw (wf := wf) (n := n) (m := (js.length : Int) - 1 - m) hp (by omega) (by omega)
      obtain ⟨S1, rfl, h1⟩ := pool_cut hS
      have e6 : S1.length = S0.length := by rw [pool_len h, pool_len h1]
      refine ⟨(1 + m + r).toNat, S1, ?_, h1, by omega⟩
      have c0 : (0 : Int) < m := by omega
      have c1 : ¬ m = 0 := by omega
      have ee : ((1 + (m : Int) + r).toNat : Int) = 1 + m + r := by omega
      rw [ee]
      have gg : S1 ++ Cell.lsx (gloc S0.length js) :: gcell ls = GS S1 js ls := by
        unfold GS
        rw [e6]
      rw [gg] at e
      simp [s8, c0, c1, R1.s1, s6, gs_len, e]
    · have c0 : m = 0 := by omega
      refine ⟨0, S0, ?_, h, by omega⟩
      rw [c0] at s8
      simp [s8]
  obtain ⟨j, S1, e1, h1, hj⟩ := ej
  have e6 : S1.length = S0.length := by rw [pool_len h, pool_len h1]
  unfold swBody
  rw [evB_cons, evS_set, e1, fl_ok, nxt_nx]
  have R2 : RS p w (sx.set 13 (.v (.int j))) := R1.set (by decide)
  have t6 : (sx.set 13 (.v (.int j)))[6]? = some (.v (.loc S1.length)) := by
    rw [List.getElem?_set_ne (by decide), e6]
    exact s6
  have t8 : (sx.set 13 (.v (.int j)))[8]? = some (.v (.int m)) := by
    rw [List.getElem?_set_ne (by decide)]
    exact s8
  have t13 : (sx.set 13 (.v (.int j)))[13]? = some (.v (.int j)) := List.getElem?_set_self (by have := R1.len; omega)
  generalize sx.set 13 (.v (.int j)) = sy at R2 t6 t8 t13
  have g1 := gs_ix (S0 := S1) (ls := ls) (js := js) (i := m) (by omega)
  have g2 := gs_ix (S0 := S1) (ls := ls) (js := js) (i := j) hj
  have e2 : evS (cx wf (n + 2)) (.set 14 (.ixx (.v 6) (.v 8))) sy (GS S1 js ls) = .nx (sy.set 14 (.v (.loc (S1.length + 1 + js[m])))) (GS S1 js ls) := by
    simp only [evS_set, evE_ixx, evE_v, t6, t8, slV_v, bind_ok, g1, of_some, fl_ok]
  rw [evB_cons, e2, nxt_nx]
  have R3 : RS p w (sy.set 14 (.v (.loc (S1.length + 1 + js[m])))) := R2.set (by decide)
  have u6 : (sy.set 14 (.v (.loc (S1.length + 1 + js[m]))))[6]? = some (.v (.loc S1.length)) := by
    rw [List.getElem?_set_ne (by decide)]
    exact t6
  have u8 : (sy.set 14 (.v (.loc (S1.length + 1 + js[m]))))[8]? = some (.v (.int m)) := by
    rw [List.getElem?_set_ne (by decide)]
    exact t8
  have u13 : (sy.set 14 (.v (.loc (S1.length + 1 + js[m]))))[13]? = some (.v (.int j)) := by
    rw [List.getElem?_set_ne (by decide)]
    exact t13
  have u14 : (sy.set 14 (.v (.loc (S1.length + 1 + js[m]))))[14]? = some (.v (.loc (S1.length + 1 + js[m]))) := List.getElem?_set_self (by have := R2.len; omega)
  generalize sy.set 14 (.v (.loc (S1.length + 1 + js[m]))) = sz at R3 u6 u8 u13 u14
  have e3 : evS (cx wf (n + 2)) (.subx (.v 6) (.v 8) (.ixx (.v 6) (.v 13))) sz (GS S1 js ls) = .nx sz (GS S1 (js.set m js[j]) ls) := by
    simp only [evS_subx, evE_ixx, evE_v, u6, u8, u13, slV_v, bind_ok, g2, of_some, fl_ok, subxF_int]
    exact gs_sub (by omega)
  have e4 : evS (cx wf (n + 2)) (.subx (.v 6) (.v 13) (.v 14)) sz (GS S1 (js.set m js[j]) ls) = .nx sz (GS S1 ((js.set m js[j]).set j js[m]) ls) := by
    simp only [evS_subx, evE_v, u6, u13, u14, slV_v, fl_ok, subxF_int]
    exact gs_sub (by rw [List.length_set]; exact hj)
  rw [evB_cons, e3, nxt_nx, evB_cons, e4, nxt_nx, evB_nil]
  refine ⟨sz, S1, _, rfl, h1, by simp, R3, u6, fun x hx => ?_, by simp; exact B.jl, fun hk => ?_, B.l⟩
  · rcases List.mem_or_eq_of_mem_set hx with hx | rfl
    · rcases List.mem_or_eq_of_mem_set hx with hx | rfl
      · exact B.j x hx
      · exact B.j _ (List.getElem_mem hj)
    · exact B.j _ (List.getElem_mem (by omega))
  · intro z
    have this : ((js.set m js[j]).set j js[m]).length = 0 := by rw [z]; rfl
    rw [List.length_set, List.length_set] at this
    omega
end
end K
end S_N94z
section S_N95a
set_option linter.all false
set_option maxRecDepth 100000
/-! N95a: the law. -/
namespace K
open G T
section
variable {α β : Type} {wf n : Nat} {S Z : List Cell} {sl : List Sl} {top : Int} {v a b c : D} {X : Ctx}
def lawBody : List G.T := [.set 4 (.cal 259 [(.v 1), (.k (.int 10))]), .set 5 (.blt .len [(.v 4)]), .set 6 (.mkx []), .for_ (.s 7) (.rng [(.v 5)]) [.ife (.and [(.tr (.cmp .gt (.v 7) (.k (.int 0)))), (.tr (.cmp .notin (.ix (.ix (.v 4) (.bin .sub (.v 7) (.k (.int 1)))) (.k (.int 0))) (.tup [(.k (.str s_less)), (.k (.str s_answer))])))]) [.appx (.ixx (.v 6) (.neg (.k (.int 1)))) (.v 7)] [.appx (.v 6) (.mk [(.v 7)])]], .for_ (.s 8) (.rng [(.bin .sub (.lenx (.v 6)) (.k (.int 1)))]) [.set 13 (.ite (.tr (.cmp .gt (.v 8) (.k (.int 0)))) (.bin .add (.bin .add (.k (.int 1)) (.v 8)) (.cal 31 [(.v 1), (.bin .sub (.bin .sub (.lenx (.v 6)) (.k (.int 1))) (.v 8))])) (.k (.int 0))), .set 14 (.ixx (.v 6) (.v 8)), .subx (.v 6) (.v 8) (.ixx (.v 6) (.v 13)), .subx (.v 6) (.v 13) (.v 14)], .set 9 (.tup []), .forc (.s 10) (.v 6) [.set 9 (.bin .add (.v 9) (.blt .tuple [(.v 10)]))], .set 11 (.lst [(.v 9), (.rgx true [(.v 5)]), (.bin .add (.sl (.v 9) (some (.k (.int 1))) none) (.sl (.v 9) none (some (.k (.int 1))))), (.sl (.v 9) none (some (.neg (.k (.int 1))))), (.bin .add (.v 9) (.tup [(.k (.int 0))])), (.bin .mul (.tup [(.k (.int 0))]) (.v 5)), (.blt .tuple [(.comp (.s 25) (.e (.v 9)) (.bin .add (.v 25) (.k (.int 1))) [])])]), .for_ (.s 12) (.e (.v 11)) [.set 15 (.k (.str s_order)), .ife (.tr (.cmp .eq (.blt .sorted [(.v 12)]) (.rgx false [(.v 5)]))) [.set 17 (.dps (.comp (.s 8) (.rng [(.v 5)]) (.tup [(.ix (.v 12) (.v 8)), (.v 8)]) [])), .setO 18 (.lst []), .set 19 (.k (.bl true)), .for_ (.s 8) (.rng [(.v 5)]) [.set 22 (.ix (.v 4) (.ix (.v 12) (.v 8))), .ife (.tr (.cmp .eq (.ix (.v 22) (.k (.int 0))) (.k (.str s_less)))) [.set 22 (.bin .add (.sl (.v 22) none (some (.k (.int 3)))) (.tup [(.dgx (.v 17) (.ix (.v 22) (.k (.int 3)))), (.dgx (.v 17) (.ix (.v 22) (.k (.int 4))))]))] [.ife (.tr (.cmp .ne (.ix (.v 22) (.k (.int 0))) (.k (.str s_answer)))) [.set 19 (.and [(.v 19), (.cmp .eq (.ite (.tr (.cmp .lt (.bin .add (.v 8) (.k (.int 1))) (.v 5))) (.ix (.v 12) (.bin .add (.v 8) (.k (.int 1)))) (.v 5)) (.bin .add (.ix (.v 12) (.v 8)) (.k (.int 1))))])] []], .app (.b 18) (.v 22)], .set 15 (.ite (.and [(.tr (.v 19)), (.tr (.cal 257 [(.blt .tuple [(.b 18)])]))]) (.blt .tuple [(.b 18)]) (.k (.str s_order)))] [], .set 16 (.cal 264 [(.v 4), (.v 12)]), .ife (.not (.tr (.cal 27 [(.v 16), (.cal 247 [(.v 15)])]))) [.ret (.k (.bl false))] [], .set 16 (.ite (.tr (.blt (.isa .str) [(.v 16)])) (.v 16) (.ix (.v 16) (.k (.int 1)))), .ife (.and [(.not (.tr (.blt (.isa .str) [(.v 16)]))), (.tr (.cmp .eq (.ix (.v 12) (.k (.int 0))) (.k (.int 0))))]) [.unp (.t [(.s 23), (.s 24)]) (.cal 263 [(.v 1), (.v 2)]), .set 20 (.cal 262 [(.v 4), (.v 23), (.v 24)]), .set 21 (.cal 262 [(.v 16), (.v 23), (.v 24)]), .ife (.or [(.tr (.cmp .ne (.sl (.v 20) none (some (.k (.int 2)))) (.sl (.v 21) none (some (.k (.int 2)))))), (.and [(.tr (.cmp .eq (.ix (.v 20) (.k (.int 0))) (.k (.str s_answer)))), (.tr (.cmp .ne (.ix (.v 20) (.k (.int 2))) (.ix (.v 21) (.k (.int 2)))))])]) [.ret (.k (.bl false))] []] []]]
theorem lawBody_eq : f_law.body = [.set 1 (.cal 29 [(.v 0)]), .set 2 (.cal 226 [(.v 1)]), .for_ (.s 3) (.rng [(.k (.int 4))]) lawBody, .ret (.k (.bl true))] := rfl
theorem lawBody_cut : lawBody = [.set 4 (.cal 259 [(.v 1), (.k (.int 10))]), .set 5 (.blt .len [(.v 4)]), .set 6 (.mkx []), .for_ (.s 7) (.rng [(.v 5)]) grBody, .for_ (.s 8) (.rng [(.bin .sub (.lenx (.v 6)) (.k (.int 1)))]) swBody, .set 9 (.tup []), .forc (.s 10) (.v 6) [.set 9 (.bin .add (.v 9) (.blt .tuple [(.v 10)]))], .set 11 (.lst [(.v 9), (.rgx true [(.v 5)]), (.bin .add (.sl (.v 9) (some (.k (.int 1))) none) (.sl (.v 9) none (some (.k (.int 1))))), (.sl (.v 9) none (some (.neg (.k (.int 1))))), (.bin .add (.v 9) (.tup [(.k (.int 0))])), (.bin .mul (.tup [(.k (.int 0))]) (.v 5)), (.blt .tuple [(.comp (.s 25) (.e (.v 9)) (.bin .add (.v 25) (.k (.int 1))) [])])]), .for_ (.s 12) (.e (.v 11)) rowBody] := rfl
/-- the order, out of the groups -/
theorem ord_loop {p : List Ins} {w : D} {S0 : List Cell} {k : Nat} {js : List Nat} {ls : List (List Int)} : ∀ (m i : Nat) (ns : List Int) (sl : List Sl) (wf' : Nat), i + m = js.length → m < wf' → GB p w S0 k js ls sl → sl[9]? = some (.v (tI ns)) → ns.length ≤ 12 * i → k ≤ 12 → i + m ≤ 12 →
    ∃ sl' ns', forCL (turnS (cx wf n) (.s 10) [.set 9 (.bin .add (.v 9) (.blt .tuple [(.v 10)]))]) S0.length wf' i sl (GS S0 js ls) = .nx sl' (GS S0 js ls) ∧ GB p w S0 k js ls sl' ∧ sl'[9]? = some (.v (tI ns')) ∧ ns'.length ≤ 144
  | m, i, ns, sl, 0, _, h, _, _, _, _, _ => by omega
  | 0, i, ns, sl, w' + 1, h1, h2, B, s9, hn, hk, hi => by
    have ca : cellAt (GS S0 js ls) i S0.length = some none := by
      simp only [cellAt, gs_at]
      rw [List.getElem?_eq_none (by unfold gloc; rw [List.length_map]; omega)]
    rw [forCL, ca]
    exact ⟨sl, ns, rfl, B, s9, by omega⟩
  | m + 1, i, ns, sl, w' + 1, h1, h2, B, s9, hn, hk, hi => by
    have hij : i < js.length := by omega
    have ca : cellAt (GS S0 js ls) i S0.length = some (some (.loc (S0.length + 1 + js[i]))) := by
      simp only [cellAt, gs_at]
      unfold gloc
      rw [List.getElem?_map, List.getElem?_eq_getElem hij]
      rfl
    have hj := B.j _ (List.getElem_mem hij)
    have gc := gs_cell (S0 := S0) (js := js) hj
    have lb := B.l _ (List.getElem_mem hj)
    have hl := B.r.len
    have step : turnS (cx wf n) (.s 10) [.set 9 (.bin .add (.v 9) (.blt .tuple [(.v 10)]))] (.loc (S0.length + 1 + js[i])) sl (GS S0 js ls) = .nx ((sl.set 10 (.v (.loc (S0.length + 1 + js[i])))).set 9 (.v (tI (ns ++ ls[js[i]])))) (GS S0 js ls) := by
      have dl : dr (GS S0 js ls) (.loc (S0.length + 1 + js[i])) = .lst (ls[js[i]].map .int) := by
        unfold dr
        simp only [gc]
      have ad : pBin .add (tI ns) (.tup (ls[js[i]].map .int)) = some (tI (ns ++ ls[js[i]])) := add_tI (ys := ls[js[i]]) (by omega)
      unfold turnS
      rw [tgSet_s]
      dsimp only
      have q9 : (sl.set 10 (.v (.loc (S0.length + 1 + js[i]))))[9]? = some (.v (tI ns)) := by
        rw [List.getElem?_set_ne (by decide)]
        exact s9
      have q10 : (sl.set 10 (.v (.loc (S0.length + 1 + js[i]))))[10]? = some (.v (.loc (S0.length + 1 + js[i]))) := List.getElem?_set_self (by omega)
      generalize sl.set 10 (.v (.loc (S0.length + 1 + js[i]))) = sx at q9 q10
      simp [q9, q10, dl, ad]
    rw [forCL, ca]
    simp only [step]
    have B2 : GB p w S0 k js ls ((sl.set 10 (.v (.loc (S0.length + 1 + js[i])))).set 9 (.v (tI (ns ++ ls[js[i]])))) := by
      refine ⟨(B.r.set (by decide)).set (by decide), ?_, B.j, B.jl, B.ne, B.l⟩
      rw [List.getElem?_set_ne (by decide), List.getElem?_set_ne (by decide)]
      exact B.s6
    exact ord_loop m (i + 1) (ns ++ ls[js[i]]) _ w' (by omega) (by omega) B2 (List.getElem?_set_self (by simp [hl])) (by rw [List.length_append]; omega) hk (by omega)
theorem cut_1 {α} {xs : List α} : cut xs (some 1) none = xs.drop 1 := cut_from (k := 1)
theorem cut_t1 {α} {xs : List α} : cut xs none (some 1) = xs.take 1 := cut_to (k := 1)
theorem mul_tupE {x : List D} {j : Int} : pBin .mul (.tup x) (.int j) = if (decide (-1000 ≤ j) && decide (j ≤ 1000) && decide (x.length ≤ 1000)) = true then some (.tup (List.replicate j.toNat x).flatten) else none := rfl
/-- the rows -/
theorem tried {many : Nat} {ns : List Int} (hn : ns.length ≤ 144) (hm : many ≤ 12) {sx : List Sl} (h9 : sx[9]? = some (.v (tI ns))) (h5 : sx[5]? = some (.v (.int many))) (hl : sx.length = 26) :
    ∃ rows : List (List Int), evE (cx wf n) (.lst [(.v 9), (.rgx true [(.v 5)]), (.bin .add (.sl (.v 9) (some (.k (.int 1))) none) (.sl (.v 9) none (some (.k (.int 1))))), (.sl (.v 9) none (some (.neg (.k (.int 1))))), (.bin .add (.v 9) (.tup [(.k (.int 0))])), (.bin .mul (.tup [(.k (.int 0))]) (.v 5)), (.blt .tuple [(.comp (.s 25) (.e (.v 9)) (.bin .add (.v 25) (.k (.int 1))) [])])]) sx S = .ok (.lst (rows.map tI)) S ∧ ∀ r ∈ rows, r.length ≤ 300 := by
  refine ⟨[ns, rangeI many, ns.drop 1 ++ ns.take 1, ns.dropLast, ns ++ [0], List.replicate many 0, ns.map (· + 1)], ?_, fun r hr => ?_⟩
  · have r1 := rgxI (m := many) (t := true) (by omega)
    simp only [if_true] at r1
    have p1 : pSl (tI ns) (some 1) none = some (tI (ns.drop 1)) := by
      show some (D.tup (cut _ _ _)) = _
      rw [cut_1, ← List.map_drop]
      rfl
    have p2 : pSl (tI ns) none (some 1) = some (tI (ns.take 1)) := by
      show some (D.tup (cut _ _ _)) = _
      rw [cut_t1, ← List.map_take]
      rfl
    have p3 : pSl (tI ns) none (some (-1)) = some (tI ns.dropLast) := by
      show some (D.tup (cut _ _ _)) = _
      rw [cut_m1, ← List.map_dropLast]
      rfl
    have a1 := add_tI (xs := ns.drop 1) (ys := ns.take 1) (by rw [List.length_drop, List.length_take]; omega)
    have a2 : pBin .add (tI ns) (.tup [.int 0]) = some (tI (ns ++ [0])) := add_tI (ys := [0]) (by simp; omega)
    have m1 : pBin .mul (.tup [.int 0]) (.int many) = some (tI (List.replicate many 0)) := by
      have e : (List.replicate many [D.int 0]).flatten = (List.replicate many (0 : Int)).map .int := by
        clear p1 p2 p3 a1 a2 r1 h5 hm
        induction many with
        | zero => rfl
        | succ m ih => rw [List.replicate_succ, List.flatten_cons, ih, List.replicate_succ]; rfl
      rw [mul_tupE, if_pos (by simp; omega), Int.toNat_natCast, e]
      rfl
    have c1 : compL (turn (cx wf n) (.s 25) (.bin .add (.v 25) (.k (.int 1))) [] sx) (ns.map .int) S [] = .ok ((ns.map (· + 1)).map .int) S := by
      rw [compL_map (g := fun d => match d with | .int x => .int (x + 1) | d => d) (fun d hd => ?_) (by simp [lim]; omega)]
      · simp [Function.comp_def]
      · obtain ⟨x, hx, rfl⟩ := List.mem_map.mp hd
        simp [turn, getset hl]
    have it : items (tI ns) = some (ns.map .int) := (rfl)
    simp only [evE_lst, evL_cons, evL_nil, evE_v, evE_rgx, evE_bin, evE_sl, evO_some, evO_none, evE_k, evE_neg, evE_tup, evE_blt, evE_comp, evI_e, h9, h5, slV_v, bind_ok, r1, of_some, toI_int, dr_tI, p1, p2, p3, a1, pNeg_int, pur_int, List.all_cons, List.all_nil, Bool.and_true, if_true, dr_tup, dr_int, a2, m1, it, c1, List.map_cons, List.map_nil, dr_lst, pB_tuple_lst, tI_def, pur_tI]
  · simp only [List.mem_cons, List.not_mem_nil, or_false] at hr
    rcases hr with rfl | rfl | rfl | rfl | rfl | rfl | rfl
    · omega
    · rw [rangeI_len]; omega
    · rw [List.length_append, List.length_drop, List.length_take]; omega
    · rw [List.length_dropLast]; omega
    · simp; omega
    · simp; omega
    · simp; omega
end
end K
end S_N95a
section S_N95b
set_option linter.all false
set_option maxRecDepth 100000
/-! N95b: the law, whole. -/
namespace K
open G T
section
variable {α β : Type} {wf n : Nat} {S Z : List Cell} {sl : List Sl} {top : Int} {v a b c : D} {X : Ctx}
theorem l_pool {s : List Int} (hs : s.length ≤ 63) : ∃ S', ev wf (n + 1) 29 [.lst (s.map .int)] [] = .ok (.loc 0) S' ∧ PoolOk [] S' := by
  rw [show ev wf (n + 1) 29 [.lst (s.map .int)] [] = (evB (cx wf n) f_l_pool.body [.v (.lst (s.map .int)), .nil, .nil] []).out from rfl]
  have c1 : cut (s.map D.int) none (some 63) = (s.map D.int).take 63 := cut_to (k := 63)
  have lp : ∀ (ds : List Int) (z : Int) (q : Sl), ∃ z' q', forL (turnS (cx wf n) (.s 2) [.set 1 (.bin .mod (.blt .int [(.bin .add (.bin .mul (.v 1) (.k (.int 31))) (.v 2))]) (.k (.int 1000003)))]) (ds.map .int) [.v (.lst (s.map .int)), .v (.int z), q] [] = .nx [.v (.lst (s.map .int)), .v (.int z'), q'] [] := by
    intro ds
    induction ds with
    | nil => exact fun z q => ⟨z, q, rfl⟩
    | cons d ds ih =>
      intro z q
      obtain ⟨z', q', e⟩ := ih ((z * 31 + d) % 1000003) (.v (.int d))
      refine ⟨z', q', ?_⟩
      rw [List.map_cons, forL]
      have : turnS (cx wf n) (.s 2) [.set 1 (.bin .mod (.blt .int [(.bin .add (.bin .mul (.v 1) (.k (.int 31))) (.v 2))]) (.k (.int 1000003)))] (.int d) [.v (.lst (s.map .int)), .v (.int z), q] [] = .nx [.v (.lst (s.map .int)), .v (.int ((z * 31 + d) % 1000003)), .v (.int d)] [] := by
        simp [turnS, mul_small (j := 31) (Or.inr (by decide)), mod_pos (j := 1000003) (by decide)]
      rw [this]
      exact e
  obtain ⟨z', q', e⟩ := lp (s.take 63) 7 .nil
  rw [← List.map_take] at c1
  simp only [List.map_take] at c1 e
  simp [f_l_pool, pSl, c1, e]
  exact ⟨s, 0, 0, 0, z', rfl, by decide, by omega⟩
/-- between the turns -/
structure LS (w : D) (sl : List Sl) : Prop where
  len : sl.length = 26
  s1 : sl[1]? = some (.v (.loc 0))
  s2 : sl[2]? = some (.v w)
theorem law_turn {w : D} {t : Int} (hw : wrld w) (L : LS w sl) (h : PoolOk Z S) (h50 : 50 ≤ wf) : ∃ sl' S' Z', turnS (cx wf (n + 7)) (.s 3) lawBody (.int t) sl S = .nx sl' S' ∧ LS w sl' ∧ PoolOk Z' S' := by
  unfold turnS
  rw [tgSet_s, lawBody_cut]
  dsimp only
  have hl : (sl.set 3 (.v (.int t))).length = 26 := by rw [List.length_set]; exact L.len
  have q1 : (sl.set 3 (.v (.int t)))[1]? = some (.v (.loc 0)) := by rw [List.getElem?_set_ne (by decide)]; exact L.s1
  have q2 : (sl.set 3 (.v (.int t)))[2]? = some (.v w) := by rw [List.getElem?_set_ne (by decide)]; exact L.s2
  generalize sl.set 3 (.v (.int t)) = s0 at hl q1 q2
  obtain ⟨x, S1, e1, h1, p, rfl, P⟩ := d_prog (wf := wf) (n := n + 1) h
  have pl := P.len
  have one := P.one
  have e2 : evS (cx wf (n + 7)) (.set 4 (.cal 259 [(.v 1), (.k (.int 10))])) s0 S = .nx (s0.set 4 (.v (.tup (p.map insD)))) S1 := by
    simp only [evS_set, evE_cal, evL_cons, evL_nil, evE_v, evE_k, q1, slV_v, bind_ok, call_cx, e1, fl_ok]
  rw [evB_cons, e2, nxt_nx]
  have e3 : evS (cx wf (n + 7)) (.set 5 (.blt .len [(.v 4)])) (s0.set 4 (.v (.tup (p.map insD)))) S1 = .nx ((s0.set 4 (.v (.tup (p.map insD)))).set 5 (.v (.int p.length))) S1 := by
    simp [getset hl]
  rw [evB_cons, e3, nxt_nx]
  have R1 : RS p w ((s0.set 4 (.v (.tup (p.map insD)))).set 5 (.v (.int p.length))) := by
    refine ⟨by simp [hl], ?_, ?_, ?_, ?_⟩
    · rw [List.getElem?_set_ne (by decide), List.getElem?_set_ne (by decide)]; exact q1
    · rw [List.getElem?_set_ne (by decide), List.getElem?_set_ne (by decide)]; exact q2
    · rw [List.getElem?_set_ne (by decide), List.getElem?_set_self (by omega)]
    · rw [List.getElem?_set_self (by simp [hl])]
  generalize ((s0.set 4 (.v (.tup (p.map insD)))).set 5 (.v (.int p.length))) = s1 at R1
  have e4 : evS (cx wf (n + 7)) (.set 6 (.mkx [])) s1 S1 = .nx (s1.set 6 (.v (.loc S1.length))) (GS S1 [] []) := by
    simp [GS, gloc, gcell]
  rw [evB_cons, e4, nxt_nx]
  have B0 : GB p w S1 0 [] [] (s1.set 6 (.v (.loc S1.length))) := ⟨R1.set (by decide), List.getElem?_set_self (by have := R1.len; omega), fun _ z => (nomatch z), Nat.le_refl _, fun z => by omega, fun _ z => (nomatch z)⟩
  generalize s1.set 6 (.v (.loc S1.length)) = s2 at B0
  rw [evB_cons, evS_for]
  have er : evI (cx wf (n + 7)) (.rng [.v 5]) s2 (GS S1 [] []) = .ok (upto 0 p.length) (GS S1 [] []) := by
    simp [B0.r.s5, rngU (show p.length ≤ 1000 by omega)]
  rw [er, fl_ok]
  obtain ⟨s3, S3, e5, js, ls, rfl, B1⟩ := lp_for (f := turnS (cx wf (n + 7)) (.s 7) grBody) (fun k sl S => ∃ js ls, S = GS S1 js ls ∧ GB p w S1 k js ls sl) (upto 0 p.length) 0 s2 (GS S1 [] []) ⟨[], [], rfl, B0⟩ (by
    rintro k d sl S hd ⟨js, ls, rfl, B⟩
    rw [Nat.zero_add] at B ⊢
    have hk : k < p.length ∧ d = .int k := by
      rw [upto_eq, List.getElem?_map] at hd
      obtain ⟨j, hj, rfl⟩ := Option.map_eq_some_iff.mp hd
      obtain ⟨j1, j2⟩ := List.getElem?_eq_some_iff.mp hj
      simp at j1 j2
      subst j2
      exact ⟨j1, by simp⟩
    obtain ⟨hk, rfl⟩ := hk
    obtain ⟨sl', js', ls', e, B'⟩ := gr_turn (wf := wf) (n := n + 6) hk pl B
    exact ⟨sl', _, e, js', ls', rfl, B'⟩)
  rw [e5, nxt_nx]
  have ul : (upto 0 p.length).length = p.length := by rw [upto_eq, List.length_map, List.length_range]
  rw [Nat.zero_add, ul] at B1
  -- in another order
  have jl := B1.jl
  have jne : 0 < js.length := List.length_pos_iff.mpr (B1.ne (by omega))
  rw [evB_cons, evS_for]
  have er : evI (cx wf (n + 7)) (.rng [(.bin .sub (.lenx (.v 6)) (.k (.int 1)))]) s3 (GS S1 js ls) = .ok (upto 0 (js.length - 1)) (GS S1 js ls) := by
    have := rngU (m := js.length - 1) (by omega)
    rw [show ((js.length - 1 : Nat) : Int) = (js.length : Int) - 1 from by omega] at this
    simp [B1.s6, gs_len, this]
  rw [er, fl_ok]
  obtain ⟨s4, S4, e6, S5, js2, rfl, h2, jl2, B2⟩ := lp_for (f := turnS (cx wf (n + 7)) (.s 8) swBody) (fun k sl S => ∃ S0 js', S = GS S0 js' ls ∧ PoolOk Z S0 ∧ js'.length = js.length ∧ GB p w S0 p.length js' ls sl) (upto 0 (js.length - 1)) 0 s3 (GS S1 js ls) ⟨S1, js, rfl, h1, rfl, B1⟩ (by
    rintro k d sl S hd ⟨S0, js', rfl, h0, hj, B⟩
    have hk : k < js.length - 1 ∧ d = .int k := by
      rw [upto_eq, List.getElem?_map] at hd
      obtain ⟨j, hj, rfl⟩ := Option.map_eq_some_iff.mp hd
      obtain ⟨j1, j2⟩ := List.getElem?_eq_some_iff.mp hj
      simp at j1 j2
      subst j2
      exact ⟨j1, by simp⟩
    obtain ⟨hk, rfl⟩ := hk
    obtain ⟨sl', S1', js2, e, h1', hj2, B'⟩ := sw_turn (wf := wf) (n := n + 5) (m := k) h0 (by omega) (by omega) B
    exact ⟨sl', _, e, S1', js2, rfl, h1', by omega, B'⟩)
  rw [e6, nxt_nx]
  -- the order
  have e7 : evS (cx wf (n + 7)) (.set 9 (.tup [])) s4 (GS S5 js2 ls) = .nx (s4.set 9 (.v (tI []))) (GS S5 js2 ls) := by
    simp [tI0]
  rw [evB_cons, e7, nxt_nx]
  have B3 : GB p w S5 p.length js2 ls (s4.set 9 (.v (tI []))) := ⟨B2.r.set (by decide), by rw [List.getElem?_set_ne (by decide)]; exact B2.s6, B2.j, B2.jl, B2.ne, B2.l⟩
  have q9 : (s4.set 9 (.v (tI [])))[9]? = some (.v (tI [])) := List.getElem?_set_self (by have := B2.r.len; omega)
  generalize s4.set 9 (.v (tI [])) = s5 at B3 q9
  have il : isLoc (GS S5 js2 ls) (.loc S5.length) = true := by simp [isLoc, gs_at]
  obtain ⟨s6, ns, e8, B4, t9, nl⟩ := ord_loop (wf := wf) (n := n + 7) js2.length 0 [] s5 wf (by omega) (by omega) B3 q9 (by simp) (by omega) (by omega)
  have e9 : evS (cx wf (n + 7)) (.forc (.s 10) (.v 6) [.set 9 (.bin .add (.v 9) (.blt .tuple [(.v 10)]))]) s5 (GS S5 js2 ls) = .nx s6 (GS S5 js2 ls) := by
    rw [evS_forc, evE_v, B3.s6, slV_v, fl_ok, forcF_loc, if_pos il]
    exact e8
  rw [evB_cons, e9, nxt_nx]
  -- the rows
  obtain ⟨rows, e10, hr⟩ := tried (wf := wf) (n := n + 7) (S := GS S5 js2 ls) nl pl t9 B4.r.s5 B4.r.len
  rw [evB_cons, evS_set, e10, fl_ok, nxt_nx, evB_cons, evS_for]
  have R2 : RS p w (s6.set 11 (.v (.lst (rows.map tI)))) := B4.r.set (by decide)
  have q11 : (s6.set 11 (.v (.lst (rows.map tI))))[11]? = some (.v (.lst (rows.map tI))) := List.getElem?_set_self (by have := B4.r.len; omega)
  generalize s6.set 11 (.v (.lst (rows.map tI))) = s7 at R2 q11
  have er : evI (cx wf (n + 7)) (.e (.v 11)) s7 (GS S5 js2 ls) = .ok (rows.map tI) (GS S5 js2 ls) := by
    rw [evI_e, evE_v, q11, slV_v, bind_ok, items_lst, of_some]
  rw [er, fl_ok]
  have h3 : PoolOk (Z ++ .lsx (gloc S5.length js2) :: gcell ls) (GS S5 js2 ls) := pool_app h2
  obtain ⟨s8, S8, e11, R3, Z8, h8⟩ := lp_for (f := turnS (cx wf (n + 7)) (.s 12) rowBody) (fun k sl S => RS p w sl ∧ ∃ Z', PoolOk Z' S) (rows.map tI) 0 s7 (GS S5 js2 ls) ⟨R2, _, h3⟩ (by
    rintro k d sl S hd ⟨R, Z', h'⟩
    rw [List.getElem?_map] at hd
    obtain ⟨row, hrow, rfl⟩ := Option.map_eq_some_iff.mp hd
    obtain ⟨sl', S', Z2, e, R', hz⟩ := row_turn (n := n) P hw R (hr _ (List.mem_of_getElem? hrow)) h' h50
    exact ⟨sl', S', e, R', Z2, hz⟩)
  rw [e11, nxt_nx, evB_nil]
  exact ⟨s8, S8, Z8, rfl, ⟨R3.len, R3.s1, R3.s2⟩, h8⟩
theorem law_ok {s : List Int} (hs : s.length ≤ 63) (h50 : 50 ≤ wf) : ∃ S', ev wf (n + 20) 265 [.lst (s.map .int)] [] = .ok (.bl true) S' := by
  rw [show ev wf (n + 20) 265 [.lst (s.map .int)] [] = (evB (cx wf (n + 12 + 7)) f_law.body (.v (.lst (s.map .int)) :: List.replicate 25 .nil) []).out from rfl, lawBody_eq]
  obtain ⟨S1, e1, h1⟩ := l_pool (wf := wf) (n := n + 18) hs
  obtain ⟨w, S2, e2, h2, hw⟩ := d_world (wf := wf) (n := n + 14) h1 h50
  have e3 : evS (cx wf (n + 12 + 7)) (.set 1 (.cal 29 [(.v 0)])) (.v (.lst (s.map .int)) :: List.replicate 25 .nil) [] = .nx ((.v (.lst (s.map .int)) :: List.replicate 25 .nil).set 1 (.v (.loc 0))) S1 := by
    simp only [evS_set, evE_cal, evL_cons, evL_nil, evE_v, List.getElem?_cons_zero, slV_v, bind_ok, call_cx, e1, fl_ok]
  rw [evB_cons, e3, nxt_nx]
  have e4 : evS (cx wf (n + 12 + 7)) (.set 2 (.cal 226 [(.v 1)])) ((.v (.lst (s.map .int)) :: List.replicate 25 .nil).set 1 (.v (.loc 0))) S1 = .nx (((.v (.lst (s.map .int)) :: List.replicate 25 .nil).set 1 (.v (.loc 0))).set 2 (.v w)) S2 := by
    have q : ((.v (.lst (s.map .int)) :: List.replicate 25 .nil).set 1 (.v (.loc 0)) : List Sl)[1]? = some (.v (.loc 0)) := rfl
    simp only [evS_set, evE_cal, evL_cons, evL_nil, evE_v, q, slV_v, bind_ok, call_cx, e2, fl_ok]
  rw [evB_cons, e4, nxt_nx, evB_cons, evS_for]
  have L0 : LS w (((.v (.lst (s.map .int)) :: List.replicate 25 .nil).set 1 (.v (.loc 0))).set 2 (.v w)) := ⟨rfl, rfl, rfl⟩
  generalize (((Sl.v (.lst (s.map .int)) :: List.replicate 25 Sl.nil).set 1 (Sl.v (.loc 0))).set 2 (Sl.v w)) = s1 at L0
  have er : evI (cx wf (n + 12 + 7)) (.rng [.k (.int 4)]) s1 S2 = .ok (upto 0 4) S2 := by
    have := rngU (m := 4) (by omega)
    simp at this
    simp [this]
  rw [er, fl_ok]
  obtain ⟨s2, S3, e5, L1, Z3, h3⟩ := lp_for (f := turnS (cx wf (n + 12 + 7)) (.s 3) lawBody) (fun k sl S => LS w sl ∧ ∃ Z', PoolOk Z' S) (upto 0 4) 0 s1 S2 ⟨L0, _, h2⟩ (by
    rintro k d sl S hd ⟨L, Z', h'⟩
    rw [upto_eq, List.getElem?_map] at hd
    obtain ⟨j, hj, rfl⟩ := Option.map_eq_some_iff.mp hd
    obtain ⟨sl', S', Z2, e, L', hz⟩ := law_turn (n := n + 12) (t := 0 + (j : Int)) hw L h' h50
    exact ⟨sl', S', e, L', Z2, hz⟩)
  rw [e5, nxt_nx]
  exact ⟨S3, by simp⟩
end
end K
end S_N95b
set_option linter.all false
set_option maxRecDepth 100000
set_option maxHeartbeats 0
namespace E
open PySem PySem.Spec PyProof.Rows L2 G T
def topS (i : Nat) : Stmt := PySem.Challenge.pw_gatewarden_k94_whole_programs_relinked.main.body.getD i (.Pass ⟨0, 0, 0, 0⟩)
def tab : List (PySem.Str × Gk) := [(("is_number" : PySem.Str), .fn 0), (("is_decision" : PySem.Str), .fn 12), (("is_load" : PySem.Str), .fn 242), (("is_instruction" : PySem.Str), .fn 243), (("is_program" : PySem.Str), .fn 244), (("goes_on" : PySem.Str), .fn 245), (("relinked" : PySem.Str), .fn 246), (("_law_same" : PySem.Str), .fn 27), (("_law_is_integer" : PySem.Str), .fn 28), (("_law_pool" : PySem.Str), .fn 29), (("_law_spread" : PySem.Str), .fn 30), (("_law_draw" : PySem.Str), .fn 31), (("_law_pick" : PySem.Str), .fn 32), (("_law_number" : PySem.Str), .fn 223), (("_law_wrapped" : PySem.Str), .fn 247), (("_law_fold" : PySem.Str), .fn 248), (("_law_words" : PySem.Str), .fn 249), (("_law_check" : PySem.Str), .fn 250), (("_law_two" : PySem.Str), .fn 251), (("_law_row" : PySem.Str), .fn 44), (("_law_inner_size" : PySem.Str), .fn 94), (("_law_length" : PySem.Str), .fn 252), (("_law_is_number" : PySem.Str), .fn 45), (("_law_bytes" : PySem.Str), .fn 253), (("_law_fields" : PySem.Str), .fn 48), (("_law_least" : PySem.Str), .fn 95), (("_law_world" : PySem.Str), .fn 226), (("_law_sight" : PySem.Str), .fn 162), (("_law_seen" : PySem.Str), .fn 254), (("_law_plain_packet" : PySem.Str), .fn 255), (("_law_sender" : PySem.Str), .fn 96), (("_law_side" : PySem.Str), .fn 97), (("_law_step" : PySem.Str), .fn 98), (("_law_moved" : PySem.Str), .fn 99), (("_law_talk" : PySem.Str), .fn 100), (("_law_view" : PySem.Str), .fn 101), (("_law_states" : PySem.Str), .fn 124), (("_law_decision" : PySem.Str), .fn 50), (("_law_is_decision" : PySem.Str), .fn 56), (("_law_is_instruction" : PySem.Str), .fn 256), (("_law_is_program" : PySem.Str), .fn 257), (("_law_instruction" : PySem.Str), .fn 258), (("_law_program" : PySem.Str), .fn 259), (("_law_and" : PySem.Str), .fn 260), (("_law_shut" : PySem.Str), .fn 261), (("_law_machine" : PySem.Str), .fn 262), (("_law_seen_packet" : PySem.Str), .fn 263), (("_law_relinked" : PySem.Str), .fn 264), (("law" : PySem.Str), .fn 265), (("SPECIALS" : PySem.Str), .con 13), (("REGISTERS" : PySem.Str), .con 14), (("isinstance" : PySem.Str), .blt), (("int" : PySem.Str), .blt), (("bool" : PySem.Str), .blt), (("tuple" : PySem.Str), .blt), (("len" : PySem.Str), .blt), (("str" : PySem.Str), .blt), (("all" : PySem.Str), .blt), (("range" : PySem.Str), .blt), (("set" : PySem.Str), .blt), (("list" : PySem.Str), .blt), (("min" : PySem.Str), .blt), (("max" : PySem.Str), .blt), (("sum" : PySem.Str), .blt), (("abs" : PySem.Str), .blt), (("sorted" : PySem.Str), .blt), (("dict" : PySem.Str), .blt), (("BadOrder" : PySem.Str), .exc 0), (("GateError" : PySem.Str), .bty 1), (("ValueError" : PySem.Str), .bty 2), (("BadLine" : PySem.Str), .bty 3)]
def sub : SubT := [((0, 0), true), ((0, 1), true), ((0, 2), true), ((0, 3), false)]
def ec : List (PySem.Str × Nat) := [(("BadOrder" : PySem.Str), 0)]
def cl : ClT := [(0, ("BadOrder" : PySem.Str), none), (1, ("GateError" : PySem.Str), none), (2, ("ValueError" : PySem.Str), some "ValueError"), (3, ("BadLine" : PySem.Str), none)]
theorem c_0 : chkD tab sub ["value", "top"] ["value", "top"] f_is_number (cst 0) (topS 5) = true := by decide +kernel
theorem c_12 : chkD tab sub ["value"] ["value"] f_is_decision (cst 12) (topS 7) = true := by decide +kernel
theorem c_242 : chkD tab sub ["value"] ["value"] f_is_load (cst 242) (topS 11) = true := by decide +kernel
theorem c_243 : chkD tab sub ["value", "at", "many", "target"] ["value", "at", "many"] f_is_instruction (cst 243) (topS 12) = true := by decide +kernel
theorem c_244 : chkD tab sub ["value", "at"] ["value"] f_is_program (cst 244) (topS 13) = true := by decide +kernel
theorem c_245 : chkD tab sub ["instruction"] ["instruction"] f_goes_on (cst 245) (topS 15) = true := by decide +kernel
theorem c_246 : chkD tab sub ["program", "order", "many", "places", "found", "k", "number", "instruction", "after"] ["program", "order"] f_relinked (cst 246) (topS 16) = true := by decide +kernel
theorem c_27 : chkD tab sub ["actual", "due", "k"] ["actual", "due"] f_l_same (cst 27) (topS 18) = true := by decide +kernel
theorem c_28 : chkD tab sub ["actual"] ["actual"] f_l_is_integer (cst 28) (topS 19) = true := by decide +kernel
theorem c_29 : chkD tab sub ["script", "salt", "cell"] ["script"] f_l_pool (cst 29) (topS 20) = true := by decide +kernel
theorem c_30 : chkD tab sub ["cell", "mixed", "total", "k"] ["cell"] f_l_spread (cst 30) (topS 21) = true := by decide +kernel
theorem c_31 : chkD tab sub ["pool", "many", "value", "cell", "mixed"] ["pool", "many"] f_l_draw (cst 31) (topS 22) = true := by decide +kernel
theorem c_32 : chkD tab sub ["pool", "items"] ["pool", "items"] f_l_pick (cst 32) (topS 23) = true := by decide +kernel
theorem c_223 : chkD tab sub ["pool", "top", "turn"] ["pool", "top"] f_l_number (cst 223) (topS 24) = true := by decide +kernel
theorem c_247 : chkD tab sub ["due"] ["due"] f_l_wrapped (cst 247) (topS 25) = true := by decide +kernel
theorem c_248 : chkD tab sub ["words", "total"] ["words"] f_l_fold (cst 248) (topS 26) = true := by decide +kernel
theorem c_249 : chkD tab sub ["row", "even", "k"] ["row"] f_l_words (cst 249) (topS 27) = true := by decide +kernel
theorem c_250 : chkD tab sub ["row"] ["row"] f_l_check (cst 250) (topS 28) = true := by decide +kernel
theorem c_251 : chkD tab sub ["number"] ["number"] f_l_two (cst 251) (topS 29) = true := by decide +kernel
theorem c_44 : chkD tab sub ["pool", "many", "k"] ["pool", "many"] f_l_row (cst 44) (topS 30) = true := by decide +kernel
theorem c_94 : chkD tab sub ["kind"] ["kind"] f_l_inner_size (cst 94) (topS 31) = true := by decide +kernel
theorem c_252 : chkD tab sub ["packet"] ["packet"] f_l_length (cst 252) (topS 32) = true := by decide +kernel
theorem c_45 : chkD tab sub ["value", "top"] ["value", "top"] f_l_is_number (cst 45) (topS 33) = true := by decide +kernel
theorem c_253 : chkD tab sub ["packet", "head", "ends", "outer", "inner", "rest", "check"] ["packet"] f_l_bytes (cst 253) (topS 34) = true := by decide +kernel
theorem c_48 : chkD tab sub [] [] f_l_fields (cst 48) (topS 35) = true := by decide +kernel
theorem c_95 : chkD tab sub ["kind"] ["kind"] f_l_least (cst 95) (topS 36) = true := by decide +kernel
theorem c_226 : chkD tab sub ["pool", "first", "found", "address"] ["pool"] f_l_world (cst 226) (topS 37) = true := by decide +kernel
theorem c_162 : chkD tab sub ["pool", "world", "most", "kind", "at", "source", "destination", "ports", "flags", "code", "length"] ["pool", "world", "most"] f_l_sight (cst 162) (topS 38) = true := by decide +kernel
theorem c_254 : chkD tab sub ["interface", "packet", "inner", "ports", "flags", "code"] ["interface", "packet"] f_l_seen (cst 254) (topS 39) = true := by decide +kernel
theorem c_255 : chkD tab sub ["sight", "kind", "inner"] ["sight"] f_l_plain_packet (cst 255) (topS 40) = true := by decide +kernel
theorem c_96 : chkD tab sub ["sight"] ["sight"] f_l_sender (cst 96) (topS 41) = true := by decide +kernel
theorem c_97 : chkD tab sub ["state", "sender"] ["state", "sender"] f_l_side (cst 97) (topS 42) = true := by decide +kernel
theorem c_98 : chkD tab sub ["kind", "state", "side", "flags"] ["kind", "state", "side", "flags"] f_l_step (cst 98) (topS 43) = true := by decide +kernel
theorem c_99 : chkD tab sub ["kind", "state", "sender", "flags", "found", "opener"] ["kind", "state", "sender", "flags"] f_l_moved (cst 99) (topS 44) = true := by decide +kernel
theorem c_100 : chkD tab sub ["kind", "state", "sender", "flags"] ["kind", "state", "sender", "flags"] f_l_talk (cst 100) (topS 45) = true := by decide +kernel
theorem c_101 : chkD tab sub ["sight", "state", "sender"] ["sight", "state"] f_l_view (cst 101) (topS 46) = true := by decide +kernel
theorem c_124 : chkD tab sub ["kind"] ["kind"] f_l_states (cst 124) (topS 47) = true := by decide +kernel
theorem c_50 : chkD tab sub ["pool"] ["pool"] f_l_decision (cst 50) (topS 48) = true := by decide +kernel
theorem c_56 : chkD tab sub ["value"] ["value"] f_l_is_decision (cst 56) (topS 49) = true := by decide +kernel
theorem c_256 : chkD tab sub ["value", "at", "many", "k"] ["value", "at", "many"] f_l_is_instruction (cst 256) (topS 50) = true := by decide +kernel
theorem c_257 : chkD tab sub ["value", "at"] ["value"] f_l_is_program (cst 257) (topS 51) = true := by decide +kernel
theorem c_258 : chkD tab sub ["pool", "at", "many", "slot", "turn", "number"] ["pool", "at", "many"] f_l_instruction (cst 258) (topS 52) = true := by decide +kernel
theorem c_259 : chkD tab sub ["pool", "most", "many", "found", "at"] ["pool", "most"] f_l_program (cst 259) (topS 53) = true := by decide +kernel
theorem c_260 : chkD tab sub ["one", "two", "total", "bit"] ["one", "two"] f_l_and (cst 260) (topS 54) = true := by decide +kernel
theorem c_261 : chkD tab sub ["kind", "head", "at", "inner"] ["kind", "head", "at"] f_l_shut (cst 261) (topS 55) = true := by decide +kernel
theorem c_262 : chkD tab sub ["program", "packet", "view", "row", "head", "slots", "at", "taken", "step", "start", "number", "k"] ["program", "packet", "view"] f_l_machine (cst 262) (topS 56) = true := by decide +kernel
theorem c_263 : chkD tab sub ["pool", "world", "sight", "packet", "more", "payload"] ["pool", "world"] f_l_seen_packet (cst 263) (topS 57) = true := by decide +kernel
theorem c_264 : chkD tab sub ["program", "order", "e"] ["program", "order"] f_l_relinked (cst 264) (topS 58) = true := by decide +kernel
theorem c_265 : chkD tab sub ["script", "pool", "world", "turn", "program", "many", "groups", "at", "k", "order", "group", "tried", "row", "j", "held", "due", "told", "places", "made", "good", "one", "two", "step", "packet", "view", "number"] ["script"] f_law (cst 265) (topS 59) = true := by decide +kernel
def d_0 : He.DefD := ⟨("is_number", none), "is_number", "is_number", defArgs (topS 5), defBody (topS 5), defScope (topS 5), [], []⟩
def d_12 : He.DefD := ⟨("is_decision", none), "is_decision", "is_decision", defArgs (topS 7), defBody (topS 7), defScope (topS 7), [], []⟩
def d_242 : He.DefD := ⟨("is_load", none), "is_load", "is_load", defArgs (topS 11), defBody (topS 11), defScope (topS 11), [], []⟩
def d_243 : He.DefD := ⟨("is_instruction", none), "is_instruction", "is_instruction", defArgs (topS 12), defBody (topS 12), defScope (topS 12), [], []⟩
def d_244 : He.DefD := ⟨("is_program", none), "is_program", "is_program", defArgs (topS 13), defBody (topS 13), defScope (topS 13), [], []⟩
def d_245 : He.DefD := ⟨("goes_on", none), "goes_on", "goes_on", defArgs (topS 15), defBody (topS 15), defScope (topS 15), [], []⟩
def d_246 : He.DefD := ⟨("relinked", none), "relinked", "relinked", defArgs (topS 16), defBody (topS 16), defScope (topS 16), [], []⟩
def d_27 : He.DefD := ⟨("_law_same", none), "_law_same", "_law_same", defArgs (topS 18), defBody (topS 18), defScope (topS 18), [], []⟩
def d_28 : He.DefD := ⟨("_law_is_integer", none), "_law_is_integer", "_law_is_integer", defArgs (topS 19), defBody (topS 19), defScope (topS 19), [], []⟩
def d_29 : He.DefD := ⟨("_law_pool", none), "_law_pool", "_law_pool", defArgs (topS 20), defBody (topS 20), defScope (topS 20), [], []⟩
def d_30 : He.DefD := ⟨("_law_spread", none), "_law_spread", "_law_spread", defArgs (topS 21), defBody (topS 21), defScope (topS 21), [], []⟩
def d_31 : He.DefD := ⟨("_law_draw", none), "_law_draw", "_law_draw", defArgs (topS 22), defBody (topS 22), defScope (topS 22), [], []⟩
def d_32 : He.DefD := ⟨("_law_pick", none), "_law_pick", "_law_pick", defArgs (topS 23), defBody (topS 23), defScope (topS 23), [], []⟩
def d_223 : He.DefD := ⟨("_law_number", none), "_law_number", "_law_number", defArgs (topS 24), defBody (topS 24), defScope (topS 24), [], []⟩
def d_247 : He.DefD := ⟨("_law_wrapped", none), "_law_wrapped", "_law_wrapped", defArgs (topS 25), defBody (topS 25), defScope (topS 25), [], []⟩
def d_248 : He.DefD := ⟨("_law_fold", none), "_law_fold", "_law_fold", defArgs (topS 26), defBody (topS 26), defScope (topS 26), [], []⟩
def d_249 : He.DefD := ⟨("_law_words", none), "_law_words", "_law_words", defArgs (topS 27), defBody (topS 27), defScope (topS 27), [], []⟩
def d_250 : He.DefD := ⟨("_law_check", none), "_law_check", "_law_check", defArgs (topS 28), defBody (topS 28), defScope (topS 28), [], []⟩
def d_251 : He.DefD := ⟨("_law_two", none), "_law_two", "_law_two", defArgs (topS 29), defBody (topS 29), defScope (topS 29), [], []⟩
def d_44 : He.DefD := ⟨("_law_row", none), "_law_row", "_law_row", defArgs (topS 30), defBody (topS 30), defScope (topS 30), [], []⟩
def d_94 : He.DefD := ⟨("_law_inner_size", none), "_law_inner_size", "_law_inner_size", defArgs (topS 31), defBody (topS 31), defScope (topS 31), [], []⟩
def d_252 : He.DefD := ⟨("_law_length", none), "_law_length", "_law_length", defArgs (topS 32), defBody (topS 32), defScope (topS 32), [], []⟩
def d_45 : He.DefD := ⟨("_law_is_number", none), "_law_is_number", "_law_is_number", defArgs (topS 33), defBody (topS 33), defScope (topS 33), [], []⟩
def d_253 : He.DefD := ⟨("_law_bytes", none), "_law_bytes", "_law_bytes", defArgs (topS 34), defBody (topS 34), defScope (topS 34), [], []⟩
def d_48 : He.DefD := ⟨("_law_fields", none), "_law_fields", "_law_fields", defArgs (topS 35), defBody (topS 35), defScope (topS 35), [], []⟩
def d_95 : He.DefD := ⟨("_law_least", none), "_law_least", "_law_least", defArgs (topS 36), defBody (topS 36), defScope (topS 36), [], []⟩
def d_226 : He.DefD := ⟨("_law_world", none), "_law_world", "_law_world", defArgs (topS 37), defBody (topS 37), defScope (topS 37), [], []⟩
def d_162 : He.DefD := ⟨("_law_sight", none), "_law_sight", "_law_sight", defArgs (topS 38), defBody (topS 38), defScope (topS 38), [], []⟩
def d_254 : He.DefD := ⟨("_law_seen", none), "_law_seen", "_law_seen", defArgs (topS 39), defBody (topS 39), defScope (topS 39), [], []⟩
def d_255 : He.DefD := ⟨("_law_plain_packet", none), "_law_plain_packet", "_law_plain_packet", defArgs (topS 40), defBody (topS 40), defScope (topS 40), [], []⟩
def d_96 : He.DefD := ⟨("_law_sender", none), "_law_sender", "_law_sender", defArgs (topS 41), defBody (topS 41), defScope (topS 41), [], []⟩
def d_97 : He.DefD := ⟨("_law_side", none), "_law_side", "_law_side", defArgs (topS 42), defBody (topS 42), defScope (topS 42), [], []⟩
def d_98 : He.DefD := ⟨("_law_step", none), "_law_step", "_law_step", defArgs (topS 43), defBody (topS 43), defScope (topS 43), [], []⟩
def d_99 : He.DefD := ⟨("_law_moved", none), "_law_moved", "_law_moved", defArgs (topS 44), defBody (topS 44), defScope (topS 44), [], []⟩
def d_100 : He.DefD := ⟨("_law_talk", none), "_law_talk", "_law_talk", defArgs (topS 45), defBody (topS 45), defScope (topS 45), [], []⟩
def d_101 : He.DefD := ⟨("_law_view", none), "_law_view", "_law_view", defArgs (topS 46), defBody (topS 46), defScope (topS 46), [], []⟩
def d_124 : He.DefD := ⟨("_law_states", none), "_law_states", "_law_states", defArgs (topS 47), defBody (topS 47), defScope (topS 47), [], []⟩
def d_50 : He.DefD := ⟨("_law_decision", none), "_law_decision", "_law_decision", defArgs (topS 48), defBody (topS 48), defScope (topS 48), [], []⟩
def d_56 : He.DefD := ⟨("_law_is_decision", none), "_law_is_decision", "_law_is_decision", defArgs (topS 49), defBody (topS 49), defScope (topS 49), [], []⟩
def d_256 : He.DefD := ⟨("_law_is_instruction", none), "_law_is_instruction", "_law_is_instruction", defArgs (topS 50), defBody (topS 50), defScope (topS 50), [], []⟩
def d_257 : He.DefD := ⟨("_law_is_program", none), "_law_is_program", "_law_is_program", defArgs (topS 51), defBody (topS 51), defScope (topS 51), [], []⟩
def d_258 : He.DefD := ⟨("_law_instruction", none), "_law_instruction", "_law_instruction", defArgs (topS 52), defBody (topS 52), defScope (topS 52), [], []⟩
def d_259 : He.DefD := ⟨("_law_program", none), "_law_program", "_law_program", defArgs (topS 53), defBody (topS 53), defScope (topS 53), [], []⟩
def d_260 : He.DefD := ⟨("_law_and", none), "_law_and", "_law_and", defArgs (topS 54), defBody (topS 54), defScope (topS 54), [], []⟩
def d_261 : He.DefD := ⟨("_law_shut", none), "_law_shut", "_law_shut", defArgs (topS 55), defBody (topS 55), defScope (topS 55), [], []⟩
def d_262 : He.DefD := ⟨("_law_machine", none), "_law_machine", "_law_machine", defArgs (topS 56), defBody (topS 56), defScope (topS 56), [], []⟩
def d_263 : He.DefD := ⟨("_law_seen_packet", none), "_law_seen_packet", "_law_seen_packet", defArgs (topS 57), defBody (topS 57), defScope (topS 57), [], []⟩
def d_264 : He.DefD := ⟨("_law_relinked", none), "_law_relinked", "_law_relinked", defArgs (topS 58), defBody (topS 58), defScope (topS 58), [], []⟩
def d_265 : He.DefD := ⟨("law", none), "law", "law", defArgs (topS 59), defBody (topS 59), defScope (topS 59), [], []⟩
def dd0 : List He.DefD := [d_0,
  d_12,
  d_242,
  d_243,
  d_244,
  d_245,
  d_246,
  d_27,
  d_28,
  d_29,
  d_30,
  d_31,
  d_32,
  d_223,
  d_247,
  d_248,
  d_249,
  d_250,
  d_251,
  d_44,
  d_94,
  d_252,
  d_45,
  d_253,
  d_48,
  d_95,
  d_226,
  d_162,
  d_254,
  d_255]
def dd1 : List He.DefD := [d_96,
  d_97,
  d_98,
  d_99,
  d_100,
  d_101,
  d_124,
  d_50,
  d_56,
  d_256,
  d_257,
  d_258,
  d_259,
  d_260,
  d_261,
  d_262,
  d_263,
  d_264,
  d_265]
def dd : List He.DefD := dd0 ++ dd1
def fa0 : List He.Fa := [.glo "is_number",
  .glo "is_decision",
  .glo "is_load",
  .glo "is_instruction",
  .glo "is_program",
  .glo "goes_on",
  .glo "relinked",
  .glo "_law_same",
  .glo "_law_is_integer",
  .glo "_law_pool",
  .glo "_law_spread",
  .glo "_law_draw",
  .glo "_law_pick",
  .glo "_law_number",
  .glo "_law_wrapped",
  .glo "_law_fold",
  .glo "_law_words",
  .glo "_law_check",
  .glo "_law_two",
  .glo "_law_row",
  .glo "_law_inner_size",
  .glo "_law_length",
  .glo "_law_is_number",
  .glo "_law_bytes",
  .glo "_law_fields",
  .glo "_law_least",
  .glo "_law_world",
  .glo "_law_sight",
  .glo "_law_seen",
  .glo "_law_plain_packet"]
def fa1 : List He.Fa := [.glo "_law_sender",
  .glo "_law_side",
  .glo "_law_step",
  .glo "_law_moved",
  .glo "_law_talk",
  .glo "_law_view",
  .glo "_law_states",
  .glo "_law_decision",
  .glo "_law_is_decision",
  .glo "_law_is_instruction",
  .glo "_law_is_program",
  .glo "_law_instruction",
  .glo "_law_program",
  .glo "_law_and",
  .glo "_law_shut",
  .glo "_law_machine",
  .glo "_law_seen_packet",
  .glo "_law_relinked",
  .glo "law",
  .free "isinstance",
  .free "int",
  .free "bool",
  .free "tuple",
  .free "len",
  .free "str",
  .free "all",
  .free "range",
  .free "set",
  .free "list",
  .free "min"]
def fa2 : List He.Fa := [.free "max",
  .free "sum",
  .free "abs",
  .free "sorted",
  .free "dict",
  .glo "BadOrder",
  .glo "GateError",
  .glo "BadLine",
  .free "ValueError"]
def fa : List He.Fa := fa0 ++ fa1 ++ fa2
def cs0 : List (Str × D) := [("SPECIALS", (.tup [(.str s_interface), (.str s_length), (.str s_talk), (.str s_side)])),
  ("REGISTERS", (.int 4))]
def cs : List (Str × D) := cs0
def loose0 : List Str := ["GateError",
  "BadOrder",
  "BadLine",
  "is_number",
  "is_decision",
  "SPECIALS",
  "REGISTERS",
  "is_load",
  "is_instruction",
  "is_program",
  "goes_on",
  "relinked",
  "_law_same",
  "_law_is_integer",
  "_law_pool",
  "_law_spread",
  "_law_draw",
  "_law_pick",
  "_law_number",
  "_law_wrapped",
  "_law_fold",
  "_law_words",
  "_law_check",
  "_law_two",
  "_law_row",
  "_law_inner_size",
  "_law_length",
  "_law_is_number",
  "_law_bytes",
  "_law_fields"]
def loose1 : List Str := ["_law_least",
  "_law_world",
  "_law_sight",
  "_law_seen",
  "_law_plain_packet",
  "_law_sender",
  "_law_side",
  "_law_step",
  "_law_moved",
  "_law_talk",
  "_law_view",
  "_law_states",
  "_law_decision",
  "_law_is_decision",
  "_law_is_instruction",
  "_law_is_program",
  "_law_instruction",
  "_law_program",
  "_law_and",
  "_law_shut",
  "_law_machine",
  "_law_seen_packet",
  "_law_relinked"]
def loose : List Str := loose0 ++ loose1
def xc : Fg → Bool := xcB ec cl sub
abbrev R : PySem.W.OpenRow := PySem.W.OpenLaw.row PySem.Challenge.rw_gatewarden_k94_whole_programs_relinked
abbrev hk : PySem.W.Hook := hookX 5 fa dd cs xc
def ob (s : PySem.W.SharedT) : AlX := obsXG 5 fa dd cs xc (HandSHeadRun.getT s)
theorem ob_eq (s : PySem.W.SharedT) : ob s = hk.obs s.abs := obsXG_eq (HandSHeadRun.getT_eq s)
theorem run (w : World) : HandSHeadRun.RunEq R (PySem.W.view R.prog [59]) hk ob 20000 loose w := by
  intro os
  kernel_rfl
section
variable {K : Fg} {h : Heap} {mg : Str → Option Value}
theorem n_0 (X : K.In h) (G : h.Ns mainGlobals mg) (c : SaysX fa dd cs xc K) : NameF K mg fns glob cst tab sub "is_number" (.fn 0) := by
  obtain ⟨fd, F⟩ := (SaysX.d c).def_ 0 (d := d_0) rfl
  exact fn_of' (st := topS 5) (a := 0) X G ((SaysX.d c).fact 0 (f := .glo "is_number") rfl) F rfl c_0 fun _ _ _ _ _ _ us hl => match us, hl with | [_, _], _ => rfl
theorem n_12 (X : K.In h) (G : h.Ns mainGlobals mg) (c : SaysX fa dd cs xc K) : NameF K mg fns glob cst tab sub "is_decision" (.fn 12) := by
  obtain ⟨fd, F⟩ := (SaysX.d c).def_ 1 (d := d_12) rfl
  exact fn_of' (st := topS 7) (a := 0) X G ((SaysX.d c).fact 1 (f := .glo "is_decision") rfl) F rfl c_12 fun _ _ _ _ _ _ us hl => match us, hl with | [_], _ => rfl
theorem n_242 (X : K.In h) (G : h.Ns mainGlobals mg) (c : SaysX fa dd cs xc K) : NameF K mg fns glob cst tab sub "is_load" (.fn 242) := by
  obtain ⟨fd, F⟩ := (SaysX.d c).def_ 2 (d := d_242) rfl
  exact fn_of' (st := topS 11) (a := 0) X G ((SaysX.d c).fact 2 (f := .glo "is_load") rfl) F rfl c_242 fun _ _ _ _ _ _ us hl => match us, hl with | [_], _ => rfl
theorem n_243 (X : K.In h) (G : h.Ns mainGlobals mg) (c : SaysX fa dd cs xc K) : NameF K mg fns glob cst tab sub "is_instruction" (.fn 243) := by
  obtain ⟨fd, F⟩ := (SaysX.d c).def_ 3 (d := d_243) rfl
  exact fn_of' (st := topS 12) (a := 0) X G ((SaysX.d c).fact 3 (f := .glo "is_instruction") rfl) F rfl c_243 fun _ _ _ _ _ _ us hl => match us, hl with | [_, _, _], _ => rfl
theorem n_244 (X : K.In h) (G : h.Ns mainGlobals mg) (c : SaysX fa dd cs xc K) : NameF K mg fns glob cst tab sub "is_program" (.fn 244) := by
  obtain ⟨fd, F⟩ := (SaysX.d c).def_ 4 (d := d_244) rfl
  exact fn_of' (st := topS 13) (a := 0) X G ((SaysX.d c).fact 4 (f := .glo "is_program") rfl) F rfl c_244 fun _ _ _ _ _ _ us hl => match us, hl with | [_], _ => rfl
theorem n_245 (X : K.In h) (G : h.Ns mainGlobals mg) (c : SaysX fa dd cs xc K) : NameF K mg fns glob cst tab sub "goes_on" (.fn 245) := by
  obtain ⟨fd, F⟩ := (SaysX.d c).def_ 5 (d := d_245) rfl
  exact fn_of' (st := topS 15) (a := 0) X G ((SaysX.d c).fact 5 (f := .glo "goes_on") rfl) F rfl c_245 fun _ _ _ _ _ _ us hl => match us, hl with | [_], _ => rfl
theorem n_246 (X : K.In h) (G : h.Ns mainGlobals mg) (c : SaysX fa dd cs xc K) : NameF K mg fns glob cst tab sub "relinked" (.fn 246) := by
  obtain ⟨fd, F⟩ := (SaysX.d c).def_ 6 (d := d_246) rfl
  exact fn_of' (st := topS 16) (a := 0) X G ((SaysX.d c).fact 6 (f := .glo "relinked") rfl) F rfl c_246 fun _ _ _ _ _ _ us hl => match us, hl with | [_, _], _ => rfl
theorem n_27 (X : K.In h) (G : h.Ns mainGlobals mg) (c : SaysX fa dd cs xc K) : NameF K mg fns glob cst tab sub "_law_same" (.fn 27) := by
  obtain ⟨fd, F⟩ := (SaysX.d c).def_ 7 (d := d_27) rfl
  exact fn_of' (st := topS 18) (a := 0) X G ((SaysX.d c).fact 7 (f := .glo "_law_same") rfl) F rfl c_27 fun _ _ _ _ _ _ us hl => match us, hl with | [_, _], _ => rfl
theorem n_28 (X : K.In h) (G : h.Ns mainGlobals mg) (c : SaysX fa dd cs xc K) : NameF K mg fns glob cst tab sub "_law_is_integer" (.fn 28) := by
  obtain ⟨fd, F⟩ := (SaysX.d c).def_ 8 (d := d_28) rfl
  exact fn_of' (st := topS 19) (a := 0) X G ((SaysX.d c).fact 8 (f := .glo "_law_is_integer") rfl) F rfl c_28 fun _ _ _ _ _ _ us hl => match us, hl with | [_], _ => rfl
theorem n_29 (X : K.In h) (G : h.Ns mainGlobals mg) (c : SaysX fa dd cs xc K) : NameF K mg fns glob cst tab sub "_law_pool" (.fn 29) := by
  obtain ⟨fd, F⟩ := (SaysX.d c).def_ 9 (d := d_29) rfl
  exact fn_of' (st := topS 20) (a := 0) X G ((SaysX.d c).fact 9 (f := .glo "_law_pool") rfl) F rfl c_29 fun _ _ _ _ _ _ us hl => match us, hl with | [_], _ => rfl
theorem n_30 (X : K.In h) (G : h.Ns mainGlobals mg) (c : SaysX fa dd cs xc K) : NameF K mg fns glob cst tab sub "_law_spread" (.fn 30) := by
  obtain ⟨fd, F⟩ := (SaysX.d c).def_ 10 (d := d_30) rfl
  exact fn_of' (st := topS 21) (a := 0) X G ((SaysX.d c).fact 10 (f := .glo "_law_spread") rfl) F rfl c_30 fun _ _ _ _ _ _ us hl => match us, hl with | [_], _ => rfl
theorem n_31 (X : K.In h) (G : h.Ns mainGlobals mg) (c : SaysX fa dd cs xc K) : NameF K mg fns glob cst tab sub "_law_draw" (.fn 31) := by
  obtain ⟨fd, F⟩ := (SaysX.d c).def_ 11 (d := d_31) rfl
  exact fn_of' (st := topS 22) (a := 0) X G ((SaysX.d c).fact 11 (f := .glo "_law_draw") rfl) F rfl c_31 fun _ _ _ _ _ _ us hl => match us, hl with | [_, _], _ => rfl
theorem n_32 (X : K.In h) (G : h.Ns mainGlobals mg) (c : SaysX fa dd cs xc K) : NameF K mg fns glob cst tab sub "_law_pick" (.fn 32) := by
  obtain ⟨fd, F⟩ := (SaysX.d c).def_ 12 (d := d_32) rfl
  exact fn_of' (st := topS 23) (a := 0) X G ((SaysX.d c).fact 12 (f := .glo "_law_pick") rfl) F rfl c_32 fun _ _ _ _ _ _ us hl => match us, hl with | [_, _], _ => rfl
theorem n_223 (X : K.In h) (G : h.Ns mainGlobals mg) (c : SaysX fa dd cs xc K) : NameF K mg fns glob cst tab sub "_law_number" (.fn 223) := by
  obtain ⟨fd, F⟩ := (SaysX.d c).def_ 13 (d := d_223) rfl
  exact fn_of' (st := topS 24) (a := 0) X G ((SaysX.d c).fact 13 (f := .glo "_law_number") rfl) F rfl c_223 fun _ _ _ _ _ _ us hl => match us, hl with | [_, _], _ => rfl
theorem n_247 (X : K.In h) (G : h.Ns mainGlobals mg) (c : SaysX fa dd cs xc K) : NameF K mg fns glob cst tab sub "_law_wrapped" (.fn 247) := by
  obtain ⟨fd, F⟩ := (SaysX.d c).def_ 14 (d := d_247) rfl
  exact fn_of' (st := topS 25) (a := 0) X G ((SaysX.d c).fact 14 (f := .glo "_law_wrapped") rfl) F rfl c_247 fun _ _ _ _ _ _ us hl => match us, hl with | [_], _ => rfl
theorem n_248 (X : K.In h) (G : h.Ns mainGlobals mg) (c : SaysX fa dd cs xc K) : NameF K mg fns glob cst tab sub "_law_fold" (.fn 248) := by
  obtain ⟨fd, F⟩ := (SaysX.d c).def_ 15 (d := d_248) rfl
  exact fn_of' (st := topS 26) (a := 0) X G ((SaysX.d c).fact 15 (f := .glo "_law_fold") rfl) F rfl c_248 fun _ _ _ _ _ _ us hl => match us, hl with | [_], _ => rfl
theorem n_249 (X : K.In h) (G : h.Ns mainGlobals mg) (c : SaysX fa dd cs xc K) : NameF K mg fns glob cst tab sub "_law_words" (.fn 249) := by
  obtain ⟨fd, F⟩ := (SaysX.d c).def_ 16 (d := d_249) rfl
  exact fn_of' (st := topS 27) (a := 0) X G ((SaysX.d c).fact 16 (f := .glo "_law_words") rfl) F rfl c_249 fun _ _ _ _ _ _ us hl => match us, hl with | [_], _ => rfl
theorem n_250 (X : K.In h) (G : h.Ns mainGlobals mg) (c : SaysX fa dd cs xc K) : NameF K mg fns glob cst tab sub "_law_check" (.fn 250) := by
  obtain ⟨fd, F⟩ := (SaysX.d c).def_ 17 (d := d_250) rfl
  exact fn_of' (st := topS 28) (a := 0) X G ((SaysX.d c).fact 17 (f := .glo "_law_check") rfl) F rfl c_250 fun _ _ _ _ _ _ us hl => match us, hl with | [_], _ => rfl
theorem n_251 (X : K.In h) (G : h.Ns mainGlobals mg) (c : SaysX fa dd cs xc K) : NameF K mg fns glob cst tab sub "_law_two" (.fn 251) := by
  obtain ⟨fd, F⟩ := (SaysX.d c).def_ 18 (d := d_251) rfl
  exact fn_of' (st := topS 29) (a := 0) X G ((SaysX.d c).fact 18 (f := .glo "_law_two") rfl) F rfl c_251 fun _ _ _ _ _ _ us hl => match us, hl with | [_], _ => rfl
theorem n_44 (X : K.In h) (G : h.Ns mainGlobals mg) (c : SaysX fa dd cs xc K) : NameF K mg fns glob cst tab sub "_law_row" (.fn 44) := by
  obtain ⟨fd, F⟩ := (SaysX.d c).def_ 19 (d := d_44) rfl
  exact fn_of' (st := topS 30) (a := 0) X G ((SaysX.d c).fact 19 (f := .glo "_law_row") rfl) F rfl c_44 fun _ _ _ _ _ _ us hl => match us, hl with | [_, _], _ => rfl
theorem n_94 (X : K.In h) (G : h.Ns mainGlobals mg) (c : SaysX fa dd cs xc K) : NameF K mg fns glob cst tab sub "_law_inner_size" (.fn 94) := by
  obtain ⟨fd, F⟩ := (SaysX.d c).def_ 20 (d := d_94) rfl
  exact fn_of' (st := topS 31) (a := 0) X G ((SaysX.d c).fact 20 (f := .glo "_law_inner_size") rfl) F rfl c_94 fun _ _ _ _ _ _ us hl => match us, hl with | [_], _ => rfl
theorem n_252 (X : K.In h) (G : h.Ns mainGlobals mg) (c : SaysX fa dd cs xc K) : NameF K mg fns glob cst tab sub "_law_length" (.fn 252) := by
  obtain ⟨fd, F⟩ := (SaysX.d c).def_ 21 (d := d_252) rfl
  exact fn_of' (st := topS 32) (a := 0) X G ((SaysX.d c).fact 21 (f := .glo "_law_length") rfl) F rfl c_252 fun _ _ _ _ _ _ us hl => match us, hl with | [_], _ => rfl
theorem n_45 (X : K.In h) (G : h.Ns mainGlobals mg) (c : SaysX fa dd cs xc K) : NameF K mg fns glob cst tab sub "_law_is_number" (.fn 45) := by
  obtain ⟨fd, F⟩ := (SaysX.d c).def_ 22 (d := d_45) rfl
  exact fn_of' (st := topS 33) (a := 0) X G ((SaysX.d c).fact 22 (f := .glo "_law_is_number") rfl) F rfl c_45 fun _ _ _ _ _ _ us hl => match us, hl with | [_, _], _ => rfl
theorem n_253 (X : K.In h) (G : h.Ns mainGlobals mg) (c : SaysX fa dd cs xc K) : NameF K mg fns glob cst tab sub "_law_bytes" (.fn 253) := by
  obtain ⟨fd, F⟩ := (SaysX.d c).def_ 23 (d := d_253) rfl
  exact fn_of' (st := topS 34) (a := 0) X G ((SaysX.d c).fact 23 (f := .glo "_law_bytes") rfl) F rfl c_253 fun _ _ _ _ _ _ us hl => match us, hl with | [_], _ => rfl
theorem n_48 (X : K.In h) (G : h.Ns mainGlobals mg) (c : SaysX fa dd cs xc K) : NameF K mg fns glob cst tab sub "_law_fields" (.fn 48) := by
  obtain ⟨fd, F⟩ := (SaysX.d c).def_ 24 (d := d_48) rfl
  exact fn_of' (st := topS 35) (a := 0) X G ((SaysX.d c).fact 24 (f := .glo "_law_fields") rfl) F rfl c_48 fun _ _ _ _ _ _ us hl => match us, hl with | [], _ => rfl
theorem n_95 (X : K.In h) (G : h.Ns mainGlobals mg) (c : SaysX fa dd cs xc K) : NameF K mg fns glob cst tab sub "_law_least" (.fn 95) := by
  obtain ⟨fd, F⟩ := (SaysX.d c).def_ 25 (d := d_95) rfl
  exact fn_of' (st := topS 36) (a := 0) X G ((SaysX.d c).fact 25 (f := .glo "_law_least") rfl) F rfl c_95 fun _ _ _ _ _ _ us hl => match us, hl with | [_], _ => rfl
theorem n_226 (X : K.In h) (G : h.Ns mainGlobals mg) (c : SaysX fa dd cs xc K) : NameF K mg fns glob cst tab sub "_law_world" (.fn 226) := by
  obtain ⟨fd, F⟩ := (SaysX.d c).def_ 26 (d := d_226) rfl
  exact fn_of' (st := topS 37) (a := 0) X G ((SaysX.d c).fact 26 (f := .glo "_law_world") rfl) F rfl c_226 fun _ _ _ _ _ _ us hl => match us, hl with | [_], _ => rfl
theorem n_162 (X : K.In h) (G : h.Ns mainGlobals mg) (c : SaysX fa dd cs xc K) : NameF K mg fns glob cst tab sub "_law_sight" (.fn 162) := by
  obtain ⟨fd, F⟩ := (SaysX.d c).def_ 27 (d := d_162) rfl
  exact fn_of' (st := topS 38) (a := 0) X G ((SaysX.d c).fact 27 (f := .glo "_law_sight") rfl) F rfl c_162 fun _ _ _ _ _ _ us hl => match us, hl with | [_, _, _], _ => rfl
theorem n_254 (X : K.In h) (G : h.Ns mainGlobals mg) (c : SaysX fa dd cs xc K) : NameF K mg fns glob cst tab sub "_law_seen" (.fn 254) := by
  obtain ⟨fd, F⟩ := (SaysX.d c).def_ 28 (d := d_254) rfl
  exact fn_of' (st := topS 39) (a := 0) X G ((SaysX.d c).fact 28 (f := .glo "_law_seen") rfl) F rfl c_254 fun _ _ _ _ _ _ us hl => match us, hl with | [_, _], _ => rfl
theorem n_255 (X : K.In h) (G : h.Ns mainGlobals mg) (c : SaysX fa dd cs xc K) : NameF K mg fns glob cst tab sub "_law_plain_packet" (.fn 255) := by
  obtain ⟨fd, F⟩ := (SaysX.d c).def_ 29 (d := d_255) rfl
  exact fn_of' (st := topS 40) (a := 0) X G ((SaysX.d c).fact 29 (f := .glo "_law_plain_packet") rfl) F rfl c_255 fun _ _ _ _ _ _ us hl => match us, hl with | [_], _ => rfl
theorem n_96 (X : K.In h) (G : h.Ns mainGlobals mg) (c : SaysX fa dd cs xc K) : NameF K mg fns glob cst tab sub "_law_sender" (.fn 96) := by
  obtain ⟨fd, F⟩ := (SaysX.d c).def_ 30 (d := d_96) rfl
  exact fn_of' (st := topS 41) (a := 0) X G ((SaysX.d c).fact 30 (f := .glo "_law_sender") rfl) F rfl c_96 fun _ _ _ _ _ _ us hl => match us, hl with | [_], _ => rfl
theorem n_97 (X : K.In h) (G : h.Ns mainGlobals mg) (c : SaysX fa dd cs xc K) : NameF K mg fns glob cst tab sub "_law_side" (.fn 97) := by
  obtain ⟨fd, F⟩ := (SaysX.d c).def_ 31 (d := d_97) rfl
  exact fn_of' (st := topS 42) (a := 0) X G ((SaysX.d c).fact 31 (f := .glo "_law_side") rfl) F rfl c_97 fun _ _ _ _ _ _ us hl => match us, hl with | [_, _], _ => rfl
theorem n_98 (X : K.In h) (G : h.Ns mainGlobals mg) (c : SaysX fa dd cs xc K) : NameF K mg fns glob cst tab sub "_law_step" (.fn 98) := by
  obtain ⟨fd, F⟩ := (SaysX.d c).def_ 32 (d := d_98) rfl
  exact fn_of' (st := topS 43) (a := 0) X G ((SaysX.d c).fact 32 (f := .glo "_law_step") rfl) F rfl c_98 fun _ _ _ _ _ _ us hl => match us, hl with | [_, _, _, _], _ => rfl
theorem n_99 (X : K.In h) (G : h.Ns mainGlobals mg) (c : SaysX fa dd cs xc K) : NameF K mg fns glob cst tab sub "_law_moved" (.fn 99) := by
  obtain ⟨fd, F⟩ := (SaysX.d c).def_ 33 (d := d_99) rfl
  exact fn_of' (st := topS 44) (a := 0) X G ((SaysX.d c).fact 33 (f := .glo "_law_moved") rfl) F rfl c_99 fun _ _ _ _ _ _ us hl => match us, hl with | [_, _, _, _], _ => rfl
theorem n_100 (X : K.In h) (G : h.Ns mainGlobals mg) (c : SaysX fa dd cs xc K) : NameF K mg fns glob cst tab sub "_law_talk" (.fn 100) := by
  obtain ⟨fd, F⟩ := (SaysX.d c).def_ 34 (d := d_100) rfl
  exact fn_of' (st := topS 45) (a := 0) X G ((SaysX.d c).fact 34 (f := .glo "_law_talk") rfl) F rfl c_100 fun _ _ _ _ _ _ us hl => match us, hl with | [_, _, _, _], _ => rfl
theorem n_101 (X : K.In h) (G : h.Ns mainGlobals mg) (c : SaysX fa dd cs xc K) : NameF K mg fns glob cst tab sub "_law_view" (.fn 101) := by
  obtain ⟨fd, F⟩ := (SaysX.d c).def_ 35 (d := d_101) rfl
  exact fn_of' (st := topS 46) (a := 0) X G ((SaysX.d c).fact 35 (f := .glo "_law_view") rfl) F rfl c_101 fun _ _ _ _ _ _ us hl => match us, hl with | [_, _], _ => rfl
theorem n_124 (X : K.In h) (G : h.Ns mainGlobals mg) (c : SaysX fa dd cs xc K) : NameF K mg fns glob cst tab sub "_law_states" (.fn 124) := by
  obtain ⟨fd, F⟩ := (SaysX.d c).def_ 36 (d := d_124) rfl
  exact fn_of' (st := topS 47) (a := 0) X G ((SaysX.d c).fact 36 (f := .glo "_law_states") rfl) F rfl c_124 fun _ _ _ _ _ _ us hl => match us, hl with | [_], _ => rfl
theorem n_50 (X : K.In h) (G : h.Ns mainGlobals mg) (c : SaysX fa dd cs xc K) : NameF K mg fns glob cst tab sub "_law_decision" (.fn 50) := by
  obtain ⟨fd, F⟩ := (SaysX.d c).def_ 37 (d := d_50) rfl
  exact fn_of' (st := topS 48) (a := 0) X G ((SaysX.d c).fact 37 (f := .glo "_law_decision") rfl) F rfl c_50 fun _ _ _ _ _ _ us hl => match us, hl with | [_], _ => rfl
theorem n_56 (X : K.In h) (G : h.Ns mainGlobals mg) (c : SaysX fa dd cs xc K) : NameF K mg fns glob cst tab sub "_law_is_decision" (.fn 56) := by
  obtain ⟨fd, F⟩ := (SaysX.d c).def_ 38 (d := d_56) rfl
  exact fn_of' (st := topS 49) (a := 0) X G ((SaysX.d c).fact 38 (f := .glo "_law_is_decision") rfl) F rfl c_56 fun _ _ _ _ _ _ us hl => match us, hl with | [_], _ => rfl
theorem n_256 (X : K.In h) (G : h.Ns mainGlobals mg) (c : SaysX fa dd cs xc K) : NameF K mg fns glob cst tab sub "_law_is_instruction" (.fn 256) := by
  obtain ⟨fd, F⟩ := (SaysX.d c).def_ 39 (d := d_256) rfl
  exact fn_of' (st := topS 50) (a := 0) X G ((SaysX.d c).fact 39 (f := .glo "_law_is_instruction") rfl) F rfl c_256 fun _ _ _ _ _ _ us hl => match us, hl with | [_, _, _], _ => rfl
theorem n_257 (X : K.In h) (G : h.Ns mainGlobals mg) (c : SaysX fa dd cs xc K) : NameF K mg fns glob cst tab sub "_law_is_program" (.fn 257) := by
  obtain ⟨fd, F⟩ := (SaysX.d c).def_ 40 (d := d_257) rfl
  exact fn_of' (st := topS 51) (a := 0) X G ((SaysX.d c).fact 40 (f := .glo "_law_is_program") rfl) F rfl c_257 fun _ _ _ _ _ _ us hl => match us, hl with | [_], _ => rfl
theorem n_258 (X : K.In h) (G : h.Ns mainGlobals mg) (c : SaysX fa dd cs xc K) : NameF K mg fns glob cst tab sub "_law_instruction" (.fn 258) := by
  obtain ⟨fd, F⟩ := (SaysX.d c).def_ 41 (d := d_258) rfl
  exact fn_of' (st := topS 52) (a := 0) X G ((SaysX.d c).fact 41 (f := .glo "_law_instruction") rfl) F rfl c_258 fun _ _ _ _ _ _ us hl => match us, hl with | [_, _, _], _ => rfl
theorem n_259 (X : K.In h) (G : h.Ns mainGlobals mg) (c : SaysX fa dd cs xc K) : NameF K mg fns glob cst tab sub "_law_program" (.fn 259) := by
  obtain ⟨fd, F⟩ := (SaysX.d c).def_ 42 (d := d_259) rfl
  exact fn_of' (st := topS 53) (a := 0) X G ((SaysX.d c).fact 42 (f := .glo "_law_program") rfl) F rfl c_259 fun _ _ _ _ _ _ us hl => match us, hl with | [_, _], _ => rfl
theorem n_260 (X : K.In h) (G : h.Ns mainGlobals mg) (c : SaysX fa dd cs xc K) : NameF K mg fns glob cst tab sub "_law_and" (.fn 260) := by
  obtain ⟨fd, F⟩ := (SaysX.d c).def_ 43 (d := d_260) rfl
  exact fn_of' (st := topS 54) (a := 0) X G ((SaysX.d c).fact 43 (f := .glo "_law_and") rfl) F rfl c_260 fun _ _ _ _ _ _ us hl => match us, hl with | [_, _], _ => rfl
theorem n_261 (X : K.In h) (G : h.Ns mainGlobals mg) (c : SaysX fa dd cs xc K) : NameF K mg fns glob cst tab sub "_law_shut" (.fn 261) := by
  obtain ⟨fd, F⟩ := (SaysX.d c).def_ 44 (d := d_261) rfl
  exact fn_of' (st := topS 55) (a := 0) X G ((SaysX.d c).fact 44 (f := .glo "_law_shut") rfl) F rfl c_261 fun _ _ _ _ _ _ us hl => match us, hl with | [_, _, _], _ => rfl
theorem n_262 (X : K.In h) (G : h.Ns mainGlobals mg) (c : SaysX fa dd cs xc K) : NameF K mg fns glob cst tab sub "_law_machine" (.fn 262) := by
  obtain ⟨fd, F⟩ := (SaysX.d c).def_ 45 (d := d_262) rfl
  exact fn_of' (st := topS 56) (a := 0) X G ((SaysX.d c).fact 45 (f := .glo "_law_machine") rfl) F rfl c_262 fun _ _ _ _ _ _ us hl => match us, hl with | [_, _, _], _ => rfl
theorem n_263 (X : K.In h) (G : h.Ns mainGlobals mg) (c : SaysX fa dd cs xc K) : NameF K mg fns glob cst tab sub "_law_seen_packet" (.fn 263) := by
  obtain ⟨fd, F⟩ := (SaysX.d c).def_ 46 (d := d_263) rfl
  exact fn_of' (st := topS 57) (a := 0) X G ((SaysX.d c).fact 46 (f := .glo "_law_seen_packet") rfl) F rfl c_263 fun _ _ _ _ _ _ us hl => match us, hl with | [_, _], _ => rfl
theorem n_264 (X : K.In h) (G : h.Ns mainGlobals mg) (c : SaysX fa dd cs xc K) : NameF K mg fns glob cst tab sub "_law_relinked" (.fn 264) := by
  obtain ⟨fd, F⟩ := (SaysX.d c).def_ 47 (d := d_264) rfl
  exact fn_of' (st := topS 58) (a := 0) X G ((SaysX.d c).fact 47 (f := .glo "_law_relinked") rfl) F rfl c_264 fun _ _ _ _ _ _ us hl => match us, hl with | [_, _], _ => rfl
theorem n_265 (X : K.In h) (G : h.Ns mainGlobals mg) (c : SaysX fa dd cs xc K) : NameF K mg fns glob cst tab sub "law" (.fn 265) := by
  obtain ⟨fd, F⟩ := (SaysX.d c).def_ 48 (d := d_265) rfl
  exact fn_of' (st := topS 59) (a := 0) X G ((SaysX.d c).fact 48 (f := .glo "law") rfl) F rfl c_265 fun _ _ _ _ _ _ us hl => match us, hl with | [_], _ => rfl
theorem v_13 (X : K.In h) (G : h.Ns mainGlobals mg) (c : SaysX fa dd cs xc K) : NameF K mg fns glob cst tab sub "SPECIALS" (.con 13) := con_of X G (SaysX.con c (x := "SPECIALS") (List.mem_of_getElem? (i := 0) rfl)) rfl
theorem v_14 (X : K.In h) (G : h.Ns mainGlobals mg) (c : SaysX fa dd cs xc K) : NameF K mg fns glob cst tab sub "REGISTERS" (.con 14) := con_of X G (SaysX.con c (x := "REGISTERS") (List.mem_of_getElem? (i := 1) rfl)) rfl
theorem b_isinstance (X : K.In h) (G : h.Ns mainGlobals mg) (c : SaysX fa dd cs xc K) : NameF K mg fns glob cst tab sub "isinstance" .blt := ⟨He.free_ok X G ((SaysX.d c).fact 49 (f := .free "isinstance") rfl), by decide +kernel⟩
theorem b_int (X : K.In h) (G : h.Ns mainGlobals mg) (c : SaysX fa dd cs xc K) : NameF K mg fns glob cst tab sub "int" .blt := ⟨He.free_ok X G ((SaysX.d c).fact 50 (f := .free "int") rfl), by decide +kernel⟩
theorem b_bool (X : K.In h) (G : h.Ns mainGlobals mg) (c : SaysX fa dd cs xc K) : NameF K mg fns glob cst tab sub "bool" .blt := ⟨He.free_ok X G ((SaysX.d c).fact 51 (f := .free "bool") rfl), by decide +kernel⟩
theorem b_tuple (X : K.In h) (G : h.Ns mainGlobals mg) (c : SaysX fa dd cs xc K) : NameF K mg fns glob cst tab sub "tuple" .blt := ⟨He.free_ok X G ((SaysX.d c).fact 52 (f := .free "tuple") rfl), by decide +kernel⟩
theorem b_len (X : K.In h) (G : h.Ns mainGlobals mg) (c : SaysX fa dd cs xc K) : NameF K mg fns glob cst tab sub "len" .blt := ⟨He.free_ok X G ((SaysX.d c).fact 53 (f := .free "len") rfl), by decide +kernel⟩
theorem b_str (X : K.In h) (G : h.Ns mainGlobals mg) (c : SaysX fa dd cs xc K) : NameF K mg fns glob cst tab sub "str" .blt := ⟨He.free_ok X G ((SaysX.d c).fact 54 (f := .free "str") rfl), by decide +kernel⟩
theorem b_all (X : K.In h) (G : h.Ns mainGlobals mg) (c : SaysX fa dd cs xc K) : NameF K mg fns glob cst tab sub "all" .blt := ⟨He.free_ok X G ((SaysX.d c).fact 55 (f := .free "all") rfl), by decide +kernel⟩
theorem b_range (X : K.In h) (G : h.Ns mainGlobals mg) (c : SaysX fa dd cs xc K) : NameF K mg fns glob cst tab sub "range" .blt := ⟨He.free_ok X G ((SaysX.d c).fact 56 (f := .free "range") rfl), by decide +kernel⟩
theorem b_set (X : K.In h) (G : h.Ns mainGlobals mg) (c : SaysX fa dd cs xc K) : NameF K mg fns glob cst tab sub "set" .blt := ⟨He.free_ok X G ((SaysX.d c).fact 57 (f := .free "set") rfl), by decide +kernel⟩
theorem b_list (X : K.In h) (G : h.Ns mainGlobals mg) (c : SaysX fa dd cs xc K) : NameF K mg fns glob cst tab sub "list" .blt := ⟨He.free_ok X G ((SaysX.d c).fact 58 (f := .free "list") rfl), by decide +kernel⟩
theorem b_min (X : K.In h) (G : h.Ns mainGlobals mg) (c : SaysX fa dd cs xc K) : NameF K mg fns glob cst tab sub "min" .blt := ⟨He.free_ok X G ((SaysX.d c).fact 59 (f := .free "min") rfl), by decide +kernel⟩
theorem b_max (X : K.In h) (G : h.Ns mainGlobals mg) (c : SaysX fa dd cs xc K) : NameF K mg fns glob cst tab sub "max" .blt := ⟨He.free_ok X G ((SaysX.d c).fact 60 (f := .free "max") rfl), by decide +kernel⟩
theorem b_sum (X : K.In h) (G : h.Ns mainGlobals mg) (c : SaysX fa dd cs xc K) : NameF K mg fns glob cst tab sub "sum" .blt := ⟨He.free_ok X G ((SaysX.d c).fact 61 (f := .free "sum") rfl), by decide +kernel⟩
theorem b_abs (X : K.In h) (G : h.Ns mainGlobals mg) (c : SaysX fa dd cs xc K) : NameF K mg fns glob cst tab sub "abs" .blt := ⟨He.free_ok X G ((SaysX.d c).fact 62 (f := .free "abs") rfl), by decide +kernel⟩
theorem b_sorted (X : K.In h) (G : h.Ns mainGlobals mg) (c : SaysX fa dd cs xc K) : NameF K mg fns glob cst tab sub "sorted" .blt := ⟨He.free_ok X G ((SaysX.d c).fact 63 (f := .free "sorted") rfl), by decide +kernel⟩
theorem b_dict (X : K.In h) (G : h.Ns mainGlobals mg) (c : SaysX fa dd cs xc K) : NameF K mg fns glob cst tab sub "dict" .blt := ⟨He.free_ok X G ((SaysX.d c).fact 64 (f := .free "dict") rfl), by decide +kernel⟩
theorem names (X : K.In h) (G : h.Ns mainGlobals mg) (c : SaysX fa dd cs xc K) : ∀ x g, (x, g) ∈ tab → NameF K mg fns glob cst tab sub x g := by
  have all : ∀ p ∈ tab, NameF K mg fns glob cst tab sub p.1 p.2 :=
    List.forall_mem_cons.mpr ⟨n_0 X G c, List.forall_mem_cons.mpr ⟨n_12 X G c, List.forall_mem_cons.mpr ⟨n_242 X G c, List.forall_mem_cons.mpr ⟨n_243 X G c, List.forall_mem_cons.mpr ⟨n_244 X G c, List.forall_mem_cons.mpr ⟨n_245 X G c, List.forall_mem_cons.mpr ⟨n_246 X G c, List.forall_mem_cons.mpr ⟨n_27 X G c, List.forall_mem_cons.mpr ⟨n_28 X G c, List.forall_mem_cons.mpr ⟨n_29 X G c, List.forall_mem_cons.mpr ⟨n_30 X G c, List.forall_mem_cons.mpr ⟨n_31 X G c, List.forall_mem_cons.mpr ⟨n_32 X G c, List.forall_mem_cons.mpr ⟨n_223 X G c, List.forall_mem_cons.mpr ⟨n_247 X G c, List.forall_mem_cons.mpr ⟨n_248 X G c, List.forall_mem_cons.mpr ⟨n_249 X G c, List.forall_mem_cons.mpr ⟨n_250 X G c, List.forall_mem_cons.mpr ⟨n_251 X G c, List.forall_mem_cons.mpr ⟨n_44 X G c, List.forall_mem_cons.mpr ⟨n_94 X G c, List.forall_mem_cons.mpr ⟨n_252 X G c, List.forall_mem_cons.mpr ⟨n_45 X G c, List.forall_mem_cons.mpr ⟨n_253 X G c, List.forall_mem_cons.mpr ⟨n_48 X G c, List.forall_mem_cons.mpr ⟨n_95 X G c, List.forall_mem_cons.mpr ⟨n_226 X G c, List.forall_mem_cons.mpr ⟨n_162 X G c, List.forall_mem_cons.mpr ⟨n_254 X G c, List.forall_mem_cons.mpr ⟨n_255 X G c, List.forall_mem_cons.mpr ⟨n_96 X G c, List.forall_mem_cons.mpr ⟨n_97 X G c, List.forall_mem_cons.mpr ⟨n_98 X G c, List.forall_mem_cons.mpr ⟨n_99 X G c, List.forall_mem_cons.mpr ⟨n_100 X G c, List.forall_mem_cons.mpr ⟨n_101 X G c, List.forall_mem_cons.mpr ⟨n_124 X G c, List.forall_mem_cons.mpr ⟨n_50 X G c, List.forall_mem_cons.mpr ⟨n_56 X G c, List.forall_mem_cons.mpr ⟨n_256 X G c, List.forall_mem_cons.mpr ⟨n_257 X G c, List.forall_mem_cons.mpr ⟨n_258 X G c, List.forall_mem_cons.mpr ⟨n_259 X G c, List.forall_mem_cons.mpr ⟨n_260 X G c, List.forall_mem_cons.mpr ⟨n_261 X G c, List.forall_mem_cons.mpr ⟨n_262 X G c, List.forall_mem_cons.mpr ⟨n_263 X G c, List.forall_mem_cons.mpr ⟨n_264 X G c, List.forall_mem_cons.mpr ⟨n_265 X G c, List.forall_mem_cons.mpr ⟨v_13 X G c, List.forall_mem_cons.mpr ⟨v_14 X G c, List.forall_mem_cons.mpr ⟨b_isinstance X G c, List.forall_mem_cons.mpr ⟨b_int X G c, List.forall_mem_cons.mpr ⟨b_bool X G c, List.forall_mem_cons.mpr ⟨b_tuple X G c, List.forall_mem_cons.mpr ⟨b_len X G c, List.forall_mem_cons.mpr ⟨b_str X G c, List.forall_mem_cons.mpr ⟨b_all X G c, List.forall_mem_cons.mpr ⟨b_range X G c, List.forall_mem_cons.mpr ⟨b_set X G c, List.forall_mem_cons.mpr ⟨b_list X G c, List.forall_mem_cons.mpr ⟨b_min X G c, List.forall_mem_cons.mpr ⟨b_max X G c, List.forall_mem_cons.mpr ⟨b_sum X G c, List.forall_mem_cons.mpr ⟨b_abs X G c, List.forall_mem_cons.mpr ⟨b_sorted X G c, List.forall_mem_cons.mpr ⟨b_dict X G c, List.forall_mem_cons.mpr ⟨trivial, List.forall_mem_cons.mpr ⟨trivial, List.forall_mem_cons.mpr ⟨trivial, List.forall_mem_cons.mpr ⟨trivial, fun _ h => nomatch h⟩⟩⟩⟩⟩⟩⟩⟩⟩⟩⟩⟩⟩⟩⟩⟩⟩⟩⟩⟩⟩⟩⟩⟩⟩⟩⟩⟩⟩⟩⟩⟩⟩⟩⟩⟩⟩⟩⟩⟩⟩⟩⟩⟩⟩⟩⟩⟩⟩⟩⟩⟩⟩⟩⟩⟩⟩⟩⟩⟩⟩⟩⟩⟩⟩⟩⟩⟩⟩⟩⟩
  exact fun x g h => all (x, g) h
theorem cls_own (X : K.In h) (G : h.Ns mainGlobals mg) (c : SaysX fa dd cs xc K) : ∀ i x, (i, x, (none : Option String)) ∈ cl → mg x = some (.ref (He.ga K x)) := by
  intro i x h
  rcases List.mem_cons.mp h with e | h
  · cases e
    exact He.glo_ok X G ((SaysX.d c).fact 65 (f := .glo "BadOrder") rfl)
  rcases List.mem_cons.mp h with e | h
  · cases e
    exact He.glo_ok X G ((SaysX.d c).fact 66 (f := .glo "GateError") rfl)
  rcases List.mem_cons.mp h with e | h
  · cases e
  rcases List.mem_cons.mp h with e | h
  · cases e
    exact He.glo_ok X G ((SaysX.d c).fact 67 (f := .glo "BadLine") rfl)
  cases h
theorem cls_blt (X : K.In h) (G : h.Ns mainGlobals mg) (c : SaysX fa dd cs xc K) : ∀ i x T, (i, x, some T) ∈ cl → mg x = none := by
  intro i x T h
  rcases List.mem_cons.mp h with e | h
  · cases e
  rcases List.mem_cons.mp h with e | h
  · cases e
  rcases List.mem_cons.mp h with e | h
  · cases e
    exact He.free_ok X G ((SaysX.d c).fact 68 (f := .free "ValueError") rfl)
  rcases List.mem_cons.mp h with e | h
  · cases e
  cases h
theorem ex_ok (X : K.In h) (G : h.Ns mainGlobals mg) (c : SaysX fa dd cs xc K) : ExOk (XRt ec K) K mg tab sub := ex_of (by decide +kernel) (SaysX.x c) (cls_own X G c) (cls_blt X G c)
end
theorem tab_ok : tabOk tab = true := by decide +kernel
theorem facts {w : World} {K : Fg} {h : Heap} {mg : Str → Option Value} {f : Addr} (X : K.In h) (G0 : h.Ns mainGlobals mg) (hfa : mg ("law" : Str) = some (.ref f)) (c : SaysX fa dd cs xc K) :
    ∃ fd : FuncData, (∀ (s : Shared) (u : Value), BindsTo s fd ⟨[u], []⟩ [("script", u)]) ∧ ∀ base : Heap, K.In base → base.Ns mainGlobals mg → FnG (PySem.Challenge.rw_gatewarden_k94_whole_programs_relinked).prog w K mg base (L2.CX (PySem.Challenge.rw_gatewarden_k94_whole_programs_relinked).prog w) 30 f fd ["script"] (spF K (XRt ec K) (Cn fns glob cst 100 30) 265) := by
  obtain ⟨fd, F⟩ := (SaysX.d c).def_ 48 (d := d_265) rfl
  have b := FunD.bindsA (ps := ["script"]) F fun _ _ _ _ _ _ us hl => match us, hl with | [_], _ => rfl
  have e := hfa.symm.trans (He.glo_ok X G0 ((SaysX.d c).fact 48 (f := .glo "law") rfl))
  cases e
  refine ⟨fd, fun s v => b s [v] rfl, fun base _ _ => ?_⟩
  exact (text_step (P := (PySem.Challenge.rw_gatewarden_k94_whole_programs_relinked).prog) (w := w) (XR := XRt ec K) (wf := 100) tab_ok (names X G0 c) (ex_ok X G0 c) 29 base (text_ok tab_ok (names X G0 c) (ex_ok X G0 c) 29 base) (N := ["script", "pool", "world", "turn", "program", "many", "groups", "at", "k", "order", "group", "tried", "row", "j", "held", "due", "told", "places", "made", "good", "one", "two", "step", "packet", "view", "number"]) (ps := ["script"]) (f := f_law) (st := topS 59) rfl (fun_of F) c_265).1
end E
open PySem PySem.W PySem.Calls PyProof.Rows
theorem PySem.Challenge.cw_gatewarden_k94_whole_programs_relinked_holds : PySem.Challenge.rw_gatewarden_k94_whole_programs_relinked.Holds := by
  w_on; o_law
  refine HandSHeadRun.head_any (r := OpenLaw.row PySem.Challenge.rw_gatewarden_k94_whole_programs_relinked) (q := view (OpenLaw.row PySem.Challenge.rw_gatewarden_k94_whole_programs_relinked).prog [59]) (H := E.hk) (ob := E.ob) (M := 20000) (loose := E.loose) (d := HandSHeadRun.topDef (OpenLaw.row PySem.Challenge.rw_gatewarden_k94_whole_programs_relinked).prog 59) (kwd := []) E.ob_eq
    (by kernel_rfl) (fun s => by kernel_rfl) E.run (by kernel_rfl) (by kernel_rfl) (by kernel_rfl) (by rfl) (by first | assumption | decide +kernel) (by decide +kernel) ⟨rfl, rfl, rfl, rfl, rfl, by decide +kernel⟩ ?hw ?hc
  case hw => w_witness2
  case hc =>
    refine G.walk_ofX (l := PySem.Challenge.rw_gatewarden_k94_whole_programs_relinked) (m := 63) (n := 30) (x := "script") (CX := fun w => L2.CX (PySem.Challenge.rw_gatewarden_k94_whole_programs_relinked).prog w) rfl (by decide) (by kernel_rfl) ⟨rfl, by decide, by decide⟩ ?F (fun _ _ _ _ _ z => G.noX_cx z)
    intro w mg fa h Y G0 hmg0
    obtain ⟨K, KX, c⟩ := Y
    have hmg : mg ("law" : PySem.Str) = some (.ref fa) := by
      have e : (HandSHeadRun.topDef (OpenLaw.row PySem.Challenge.rw_gatewarden_k94_whole_programs_relinked).prog 59).name = ("law" : PySem.Str) := by kernel_rfl
      rw [← e]
      exact hmg0
    obtain ⟨fd, hb, hF⟩ := E.facts (w := w) KX G0 hmg c
    refine ⟨K, fd, _, KX, hb, fun H a ns hl _ hS => ?_, hF⟩
    obtain ⟨S', e⟩ := _root_.K.law_ok (wf := 100) (n := 10) (s := ns) hl (by decide)
    exact G.prom_of hS e
